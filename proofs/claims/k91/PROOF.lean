import PyProof.Rows.All
import Wide.All
import OpenK.AllK
import Wide.FinOn
import HandS.ForMost
import HandS.Deep
import HandS.Zip
import HandS.TupAny
import HandS.TupMul
import HandS.IsInst
import KE.GoesMore
import HandS.More
import HandS.SetFor
import HandS.SortOrd
import HandS.ExcValue
import KE.LtData
import KE.DataCmp
import PyProof.TupleOfSeq
import HandS.Style
import HandS.Conv
import HandS.Ends
import HandS.Words
import HandS.Dict
import HandS.SortKw
import KE.SortKeyed
import KE.SortData
import HandS.FromBytesMap
import HandS.DictComp
import HandS.Comp
import HandS.Gcd
import HandS.Wide
import PySem.Challenge.RW_chesthours_k91_choices_to_scale
set_option Elab.async false
set_option linter.all false
set_option maxRecDepth 100000
set_option maxHeartbeats 4000000
namespace DL
open PySem PySem.Spec L2

/-- data: tuples and lists that nobody changes any more by value, what may be changed by its place in a store -/
inductive D where
  | non | bl (b : Bool) | int (i : Int) | str (s : Str) | ty (t : String)
  | tup (ds : List D) | lst (ds : List D) | dic (t : Bool) (ks vs : List D) | ins (c : Str) (fs : List Str) (vs : List D)
  | scr (ns : List Int) | ref (n : Nat)

/-- lck: a dict that is walked, and not looked at while it is -/
inductive Cell where
  | lst (ds : List D) | dic (t : Bool) (ks vs : List D) | ins (c : Str) (fs : List Str) (vs : List D) | lck

abbrev Rho := List (Option D)
abbrev Sto := List Cell
abbrev E := Rho → Sto → Option D
abbrev EL := Rho → Sto → Option (List D)
abbrev EB := Rho → Sto → Option Bool

def keyD : Key → D
  | .inl i => .int i
  | .inr s => .str s
def dicKs (kvs : List (Key × V)) : List D := kvs.map fun p => keyD p.1
def dicKsT (kvs : List (List Key × V)) : List D := kvs.map fun p => .tup (p.1.map keyD)

/-- the class of a name -/
def ClsAt (K : PySem.W.Frag) (c : Str) (C : Addr) : Prop := PySem.W.nsIn K PySem.mainGlobals c = some (some (.ref C))
mutual
def RV (K : PySem.W.Frag) (av : Addr → Prop) (μ : List Addr) (H : Hp) : D → V → Prop
  | .non, v => v = .non
  | .bl b, v => v = .bl b
  | .int i, v => v = .int i
  | .str s, v => v = .str s
  | .ty t, v => v = .ty t
  | .tup ds, v => ∃ a xs, v = .ref a ∧ H a = some (.tup xs) ∧ RVL K av μ H ds xs
  | .lst ds, v => ∃ a xs, v = .ref a ∧ H a = some (.lst xs) ∧ ¬ av a ∧ RVL K av μ H ds xs
  | .dic t ks vs, v => ∃ a, v = .ref a ∧ ¬ av a ∧ (
      (t = false ∧ ∃ kvs, H a = some (.dK kvs) ∧ ks = dicKs kvs ∧ RVL K av μ H vs (kvs.map (·.2))) ∨
      (t = true ∧ ∃ kvs, H a = some (.dT kvs) ∧ ks = dicKsT kvs ∧ RVL K av μ H vs (kvs.map (·.2))))
  | .ins c fs vs, v => ∃ a C dx fvs, v = .ref a ∧ ¬ av a ∧ H a = some (.ins C dx fvs) ∧ ClsAt K c C ∧ fvs.map (·.1) = fs ∧ RVL K av μ H vs (fvs.map (·.2))
  | .scr ns, v => ∃ a, v = .ref a ∧ ((∃ o, H a = some (.frz o (.lst (ns.map V.int)))) ∨ ∀ H' : Hp, SqL K H' a (ns.map V.int))
  | .ref n, v => ∃ a, v = .ref a ∧ μ[n]? = some a
def RVL (K : PySem.W.Frag) (av : Addr → Prop) (μ : List Addr) (H : Hp) : List D → List V → Prop
  | [], xs => xs = []
  | d :: ds, xs => ∃ y ys, xs = y :: ys ∧ RV K av μ H d y ∧ RVL K av μ H ds ys
end

/-- what may be changed -/
def isLck : HO → Bool
  | .dK _ => true
  | .dT _ => true
  | _ => false
def isMut : HO → Bool
  | .tup _ => false
  | .frz _ u => isLck u
  | _ => true

section
variable {K : PySem.W.Frag} {av av' : Addr → Prop} {μ μ' : List Addr} {H H' : Hp}
mutual
theorem RV.tr (hp : ∀ a o, H a = some o → (isMut o = true → ¬ av a) → H' a = some o ∧ (isMut o = true → ¬ av' a)) (hm : ∀ (n : Nat) a, μ[n]? = some a → μ'[n]? = some a) :
    ∀ (d : D) (v : V), RV K av μ H d v → RV K av' μ' H' d v
  | .non, _, h => by unfold RV at h ⊢; exact h
  | .bl _, _, h => by unfold RV at h ⊢; exact h
  | .int _, _, h => by unfold RV at h ⊢; exact h
  | .str _, _, h => by unfold RV at h ⊢; exact h
  | .ty _, _, h => by unfold RV at h ⊢; exact h
  | .tup ds, v, h => by
    unfold RV at h ⊢
    obtain ⟨a, xs, e, hs, hr⟩ := h
    exact ⟨a, xs, e, (hp a _ hs (fun z => by cases z)).1, RVL.tr hp hm ds xs hr⟩
  | .lst ds, v, h => by
    unfold RV at h ⊢
    obtain ⟨a, xs, e, hs, hn, hr⟩ := h
    obtain ⟨h1, h2⟩ := hp a _ hs (fun _ => hn)
    exact ⟨a, xs, e, h1, h2 rfl, RVL.tr hp hm ds xs hr⟩
  | .dic t ks vs, v, h => by
    unfold RV at h ⊢
    obtain ⟨a, e, hn, h⟩ := h
    rcases h with ⟨ht, kvs, hs, hk, hr⟩ | ⟨ht, kvs, hs, hk, hr⟩
    · obtain ⟨h1, h2⟩ := hp a _ hs (fun _ => hn)
      exact ⟨a, e, h2 rfl, .inl ⟨ht, kvs, h1, hk, RVL.tr hp hm vs _ hr⟩⟩
    · obtain ⟨h1, h2⟩ := hp a _ hs (fun _ => hn)
      exact ⟨a, e, h2 rfl, .inr ⟨ht, kvs, h1, hk, RVL.tr hp hm vs _ hr⟩⟩
  | .ins c fs vs, v, h => by
    unfold RV at h ⊢
    obtain ⟨a, C, dx, fvs, e, hn, hs, k, hf, hr⟩ := h
    obtain ⟨h1, h2⟩ := hp a _ hs (fun _ => hn)
    exact ⟨a, C, dx, fvs, e, h2 rfl, h1, k, hf, RVL.tr hp hm vs _ hr⟩
  | .scr ns, v, h => by
    unfold RV at h ⊢
    obtain ⟨a, e, hs⟩ := h
    rcases hs with ⟨o, hs⟩ | hs
    · exact ⟨a, e, .inl ⟨o, (hp a _ hs (fun z => by cases z)).1⟩⟩
    · exact ⟨a, e, .inr hs⟩
  | .ref n, v, h => by
    unfold RV at h ⊢
    obtain ⟨a, e, hn⟩ := h
    exact ⟨a, e, hm n a hn⟩
theorem RVL.tr (hp : ∀ a o, H a = some o → (isMut o = true → ¬ av a) → H' a = some o ∧ (isMut o = true → ¬ av' a)) (hm : ∀ (n : Nat) a, μ[n]? = some a → μ'[n]? = some a) :
    ∀ (ds : List D) (xs : List V), RVL K av μ H ds xs → RVL K av' μ' H' ds xs
  | [], xs, h => by unfold RVL at h ⊢; exact h
  | d :: ds, xs, h => by
    unfold RVL at h ⊢
    obtain ⟨y, ys, e, h1, h2⟩ := h
    exact ⟨y, ys, e, RV.tr hp hm d y h1, RVL.tr hp hm ds ys h2⟩
end
end

/-! ### the world at a point of a def's body -/
/-- what stands around: Hb what stood at the entry and stays, A what values may not lean on, μ0 the cells that were there, cl the classes -/
structure Fr where
  Hb : Hp
  A : Addr → Prop
  μ0 : List Addr
  cl : Nat → Addr

def avd (Z : Fr) (μ : List Addr) : Addr → Prop := fun a => Z.A a ∨ a ∈ μ
abbrev RVz (K : PySem.W.Frag) (Z : Fr) (μ : List Addr) (H : Hp) : D → V → Prop := RV K (avd Z μ) μ H
abbrev RVLz (K : PySem.W.Frag) (Z : Fr) (μ : List Addr) (H : Hp) : List D → List V → Prop := RVL K (avd Z μ) μ H

def RC (K : PySem.W.Frag) (Z : Fr) (μ : List Addr) (H : Hp) (a : Addr) : Cell → Prop
  | .lst ds => ∃ xs, H a = some (.lst xs) ∧ RVLz K Z μ H ds xs
  | .dic t ks vs =>
      (t = false ∧ ∃ kvs, H a = some (.dK kvs) ∧ ks = dicKs kvs ∧ RVLz K Z μ H vs (kvs.map (·.2))) ∨
      (t = true ∧ ∃ kvs, H a = some (.dT kvs) ∧ ks = dicKsT kvs ∧ RVLz K Z μ H vs (kvs.map (·.2)))
  | .ins c fs vs => ∃ C dx fvs, H a = some (.ins C dx fvs) ∧ ClsAt K c C ∧ fvs.map (·.1) = fs ∧ RVLz K Z μ H vs (fvs.map (·.2))
  | .lck => ∃ o u, H a = some (.frz o u) ∧ isLck u = true

structure Wd (K : PySem.W.Frag) (Z : Fr) (μ : List Addr) (H : Hp) (S : Sto) : Prop where
  len : S.length = μ.length
  nd : μ.Nodup
  cell : ∀ (n : Nat) c a, S[n]? = some c → μ[n]? = some a → RC K Z μ H a c
  base : ∀ a o, Z.Hb a = some o → H a = some o
  dis : ∀ a ∈ μ, Z.Hb a = none
  av : ∀ a, Z.A a → H a ≠ none
  disA : ∀ a ∈ μ, ¬ Z.A a
  root : Z.μ0 <+: μ

structure Rel (K : PySem.W.Frag) (Z : Fr) (μ : List Addr) (σ : St) (H : Hp) (ρ : Rho) (S : Sto) : Prop where
  wd : Wd K Z μ H S
  len : ρ.length ≤ σ.length
  env : ∀ (i : Nat) d, ρ[i]? = some (some d) → ∃ v, σ[i]? = some (some v) ∧ RVz K Z μ H d v

theorem RC.mut {K : PySem.W.Frag} {Z : Fr} {μ : List Addr} {H : Hp} {a : Addr} {c : Cell} (h : RC K Z μ H a c) : ∃ o, H a = some o ∧ isMut o = true := by
  cases c with
  | lst ds => obtain ⟨xs, h, _⟩ := h; exact ⟨_, h, rfl⟩
  | dic t ks vs =>
    rcases h with ⟨_, kvs, h, _⟩ | ⟨_, kvs, h, _⟩
    · exact ⟨_, h, rfl⟩
    · exact ⟨_, h, rfl⟩
  | ins c fs vs => obtain ⟨C, dx, fvs, h, _⟩ := h; exact ⟨_, h, rfl⟩
  | lck => obtain ⟨o, u, h, l⟩ := h; exact ⟨_, h, l⟩

section
variable {K : PySem.W.Frag} {Z : Fr} {μ μ' : List Addr} {H H' : Hp} {S S' : Sto} {σ σ' : St} {ρ ρ' : Rho}

theorem Wd.mem (W : Wd K Z μ H S) {a : Addr} (h : a ∈ μ) : ∃ o, H a = some o ∧ isMut o = true := by
  obtain ⟨n, hn⟩ := List.mem_iff_getElem?.mp h
  obtain ⟨hl, _⟩ := List.getElem?_eq_some_iff.mp hn
  have hl' : n < S.length := by rw [W.len]; exact hl
  exact (W.cell n _ a (List.getElem?_eq_getElem hl') hn).mut
theorem Wd.fresh (W : Wd K Z μ H S) {a : Addr} (h : H a = none) : ¬ avd Z μ a := fun q => by
  rcases q with q | q
  · exact W.av a q h
  · obtain ⟨o, e, _⟩ := W.mem q
    rw [h] at e; cases e
theorem Wd.newB (W : Wd K Z μ H S) {a : Addr} (h : H a = none) : Z.Hb a = none := by
  cases q : Z.Hb a with
  | none => rfl
  | some o => rw [W.base a o q] at h; cases h

theorem RV.mono {d : D} {v : V} (s : Same H H') (h : RVz K Z μ H d v) : RVz K Z μ H' d v := RV.tr (fun a o e hn => ⟨s a o e, hn⟩) (fun _ _ e => e) d v h
theorem RVL.mono {ds : List D} {xs : List V} (s : Same H H') (h : RVLz K Z μ H ds xs) : RVLz K Z μ H' ds xs := RVL.tr (fun a o e hn => ⟨s a o e, hn⟩) (fun _ _ e => e) ds xs h
theorem RC.mono {a : Addr} {c : Cell} (s : Same H H') (h : RC K Z μ H a c) : RC K Z μ H' a c := by
  cases c with
  | lst ds => obtain ⟨xs, h, r⟩ := h; exact ⟨xs, s _ _ h, RVL.mono s r⟩
  | dic t ks vs =>
    rcases h with ⟨t, kvs, h, e, r⟩ | ⟨t, kvs, h, e, r⟩
    · exact .inl ⟨t, kvs, s _ _ h, e, RVL.mono s r⟩
    · exact .inr ⟨t, kvs, s _ _ h, e, RVL.mono s r⟩
  | ins c fs vs => obtain ⟨C, dx, fvs, h, k, e, r⟩ := h; exact ⟨C, dx, fvs, s _ _ h, k, e, RVL.mono s r⟩
  | lck => obtain ⟨o, u, h, l⟩ := h; exact ⟨o, u, s _ _ h, l⟩
theorem Wd.mono (s : Same H H') (W : Wd K Z μ H S) : Wd K Z μ H' S :=
  ⟨W.len, W.nd, fun n c a h1 h2 => (W.cell n c a h1 h2).mono s, fun a o e => s _ _ (W.base a o e), W.dis, fun a h q => W.av a h (s.free q), W.disA, W.root⟩
theorem Rel.mono (s : Same H H') (R : Rel K Z μ σ H ρ S) : Rel K Z μ σ H' ρ S :=
  ⟨R.wd.mono s, R.len, fun i d e => let ⟨v, h1, h2⟩ := R.env i d e; ⟨v, h1, RV.mono s h2⟩⟩
theorem Rel.with (R : Rel K Z μ σ H ρ S) (W : Wd K Z μ' H' S') (tr : ∀ d v, RVz K Z μ H d v → RVz K Z μ' H' d v) : Rel K Z μ' σ H' ρ S' :=
  ⟨W, R.len, fun i d e => let ⟨v, h1, h2⟩ := R.env i d e; ⟨v, h1, tr d v h2⟩⟩

theorem RVL.length : ∀ {ds : List D} {xs : List V} {av : Addr → Prop}, RVL K av μ H ds xs → xs.length = ds.length
  | [], xs, _, h => by unfold RVL at h; subst h; rfl
  | d :: ds, xs, _, h => by
    unfold RVL at h
    obtain ⟨y, ys, rfl, _, h2⟩ := h
    simp only [List.length_cons, RVL.length h2]
theorem RVL.get : ∀ {ds : List D} {xs : List V} {av : Addr → Prop} {i : Nat} {d : D}, RVL K av μ H ds xs → ds[i]? = some d → ∃ v, xs[i]? = some v ∧ RV K av μ H d v
  | [], _, _, _, _, _, e => by simp at e
  | d :: ds, xs, _, 0, d', h, e => by
    unfold RVL at h
    obtain ⟨y, ys, rfl, h1, h2⟩ := h
    simp at e; subst e
    exact ⟨y, rfl, h1⟩
  | d :: ds, xs, _, i + 1, d', h, e => by
    unfold RVL at h
    obtain ⟨y, ys, rfl, h1, h2⟩ := h
    obtain ⟨v, q1, q2⟩ := RVL.get (i := i) h2 (by simpa using e)
    exact ⟨v, by simpa using q1, q2⟩
theorem RVL.getV {av : Addr → Prop} {ds : List D} {xs : List V} {i : Nat} {v : V} (h : RVL K av μ H ds xs) (e : xs[i]? = some v) : ∃ d, ds[i]? = some d ∧ RV K av μ H d v := by
  obtain ⟨hi, _⟩ := List.getElem?_eq_some_iff.mp e
  rw [RVL.length h] at hi
  have q := List.getElem?_eq_getElem hi
  obtain ⟨v', q1, q2⟩ := RVL.get h q
  rw [e] at q1; cases q1
  exact ⟨_, q, q2⟩
theorem RVL.app : ∀ {ds es : List D} {xs ys : List V} {av : Addr → Prop}, RVL K av μ H ds xs → RVL K av μ H es ys → RVL K av μ H (ds ++ es) (xs ++ ys)
  | [], es, xs, ys, _, h1, h2 => by unfold RVL at h1; subst h1; exact h2
  | d :: ds, es, xs, ys, _, h1, h2 => by
    unfold RVL at h1
    obtain ⟨y, zs, rfl, a, b⟩ := h1
    show RVL K _ μ H (d :: (ds ++ es)) _
    unfold RVL
    exact ⟨y, zs ++ ys, rfl, a, RVL.app b h2⟩
theorem RVL.one {av : Addr → Prop} {d : D} {v : V} (h : RV K av μ H d v) : RVL K av μ H [d] [v] := by
  unfold RVL
  exact ⟨v, [], rfl, h, by unfold RVL; rfl⟩
theorem RVL.nil' {av : Addr → Prop} : RVL K av μ H [] [] := by unfold RVL; rfl
theorem RVL.cons' {av : Addr → Prop} {d : D} {v : V} {ds : List D} {xs : List V} (h : RV K av μ H d v) (t : RVL K av μ H ds xs) : RVL K av μ H (d :: ds) (v :: xs) := by
  unfold RVL
  exact ⟨v, xs, rfl, h, t⟩
theorem RVL.set {av : Addr → Prop} {d : D} {v : V} (h : RV K av μ H d v) : ∀ {ds : List D} {xs : List V} (i : Nat), RVL K av μ H ds xs → RVL K av μ H (ds.set i d) (xs.set i v)
  | [], xs, _, t => by unfold RVL at t; subst t; exact RVL.nil'
  | e :: ds, xs, 0, t => by
    unfold RVL at t
    obtain ⟨y, ys, rfl, a, b⟩ := t
    exact RVL.cons' h b
  | e :: ds, xs, i + 1, t => by
    unfold RVL at t
    obtain ⟨y, ys, rfl, a, b⟩ := t
    exact RVL.cons' a (RVL.set h i b)
theorem RVL.take {av : Addr → Prop} : ∀ {ds : List D} {xs : List V} (n : Nat), RVL K av μ H ds xs → RVL K av μ H (ds.take n) (xs.take n)
  | _, _, 0, _ => by rw [List.take_zero, List.take_zero]; exact RVL.nil'
  | [], xs, n + 1, t => by unfold RVL at t; subst t; exact RVL.nil'
  | d :: ds, xs, n + 1, t => by
    unfold RVL at t
    obtain ⟨y, ys, rfl, a, b⟩ := t
    exact RVL.cons' a (RVL.take n b)
theorem RVL.drop {av : Addr → Prop} : ∀ {ds : List D} {xs : List V} (n : Nat), RVL K av μ H ds xs → RVL K av μ H (ds.drop n) (xs.drop n)
  | _, _, 0, t => t
  | [], xs, n + 1, t => by unfold RVL at t; subst t; exact RVL.nil'
  | d :: ds, xs, n + 1, t => by
    unfold RVL at t
    obtain ⟨y, ys, rfl, a, b⟩ := t
    exact RVL.drop n b
theorem RVL.rev {av : Addr → Prop} : ∀ {ds : List D} {xs : List V}, RVL K av μ H ds xs → RVL K av μ H ds.reverse xs.reverse
  | [], xs, t => by unfold RVL at t; subst t; exact RVL.nil'
  | d :: ds, xs, t => by
    unfold RVL at t
    obtain ⟨y, ys, rfl, a, b⟩ := t
    rw [List.reverse_cons, List.reverse_cons]
    exact RVL.app (RVL.rev b) (RVL.one a)

/-- a cell is written: all values stand as they stood -/
theorem RV.wr {a : Addr} {o : HO} (W : Wd K Z μ H S) (h : a ∈ μ) {d : D} {v : V} (r : RVz K Z μ H d v) : RVz K Z μ (upd H a o) d v :=
  RV.tr (fun b u e hn => by
    have ne : b ≠ a := by
      rintro rfl
      obtain ⟨u', e', m⟩ := W.mem h
      rw [e] at e'; cases e'
      exact hn m (.inr h)
    exact ⟨by rw [upd_ne ne]; exact e, hn⟩) (fun _ _ e => e) d v r
theorem RVL.wr {a : Addr} {o : HO} (W : Wd K Z μ H S) (h : a ∈ μ) {ds : List D} {xs : List V} (r : RVLz K Z μ H ds xs) : RVLz K Z μ (upd H a o) ds xs :=
  RVL.tr (fun b u e hn => by
    have ne : b ≠ a := by
      rintro rfl
      obtain ⟨u', e', m⟩ := W.mem h
      rw [e] at e'; cases e'
      exact hn m (.inr h)
    exact ⟨by rw [upd_ne ne]; exact e, hn⟩) (fun _ _ e => e) ds xs r
theorem RC.wr {a b : Addr} {o : HO} {c : Cell} (W : Wd K Z μ H S) (h : a ∈ μ) (ne : b ≠ a) (r : RC K Z μ H b c) : RC K Z μ (upd H a o) b c := by
  cases c with
  | lst ds => obtain ⟨xs, q, r⟩ := r; exact ⟨xs, by rw [upd_ne ne]; exact q, RVL.wr W h r⟩
  | dic t ks vs =>
    rcases r with ⟨t, kvs, q, e, r⟩ | ⟨t, kvs, q, e, r⟩
    · exact .inl ⟨t, kvs, by rw [upd_ne ne]; exact q, e, RVL.wr W h r⟩
    · exact .inr ⟨t, kvs, by rw [upd_ne ne]; exact q, e, RVL.wr W h r⟩
  | ins c fs vs => obtain ⟨C, dx, fvs, q, k, e, r⟩ := r; exact ⟨C, dx, fvs, by rw [upd_ne ne]; exact q, k, e, RVL.wr W h r⟩
  | lck => obtain ⟨o, u, q, l⟩ := r; exact ⟨o, u, by rw [upd_ne ne]; exact q, l⟩
theorem Wd.wr {n : Nat} {a : Addr} {o : HO} {c : Cell} (W : Wd K Z μ H S) (h : μ[n]? = some a) (r : RC K Z μ (upd H a o) a c) : Wd K Z μ (upd H a o) (S.set n c) := by
  have hm : a ∈ μ := List.mem_of_getElem? h
  refine ⟨by rw [List.length_set]; exact W.len, W.nd, fun m c' b h1 h2 => ?_, fun b u e => ?_, W.dis, fun b q z => ?_, W.disA, W.root⟩
  · by_cases e : m = n
    · subst e
      rw [h] at h2; cases h2
      obtain ⟨hl, _⟩ := List.getElem?_eq_some_iff.mp h
      rw [List.getElem?_set_self (by rw [W.len]; exact hl)] at h1
      cases h1
      exact r
    · rw [List.getElem?_set_ne (Ne.symm e)] at h1
      have ne : b ≠ a := by
        rintro rfl
        obtain ⟨l1, e1⟩ := List.getElem?_eq_some_iff.mp h
        obtain ⟨l2, e2⟩ := List.getElem?_eq_some_iff.mp h2
        exact e ((List.getElem_inj W.nd).mp (e2.trans e1.symm))
      exact RC.wr W hm ne (W.cell m c' b h1 h2)
  · have ne : b ≠ a := by
      rintro rfl
      rw [W.dis b hm] at e; cases e
    rw [upd_ne ne]
    exact W.base b u e
  · by_cases e : b = a
    · subst e; rw [upd_same] at z; cases z
    · rw [upd_ne e] at z; exact W.av b q z
/-- a new cell at a -/
theorem RV.alloc {a : Addr} (s : Same H H') (n : H a = none) {d : D} {v : V} (r : RVz K Z μ H d v) : RVz K Z (μ ++ [a]) H' d v := by
  refine RV.tr (fun b u e hn => ⟨s _ _ e, fun m q => ?_⟩) (fun n b e => ?_) d v r
  · rcases q with q | q
    · exact hn m (.inl q)
    · rcases List.mem_append.mp q with q | q
      · exact hn m (.inr q)
      · have : b = a := by simpa using q
        subst this
        rw [n] at e; cases e
  · rw [List.getElem?_append_left (List.getElem?_eq_some_iff.mp e).1]
    exact e
theorem RVL.alloc {a : Addr} (s : Same H H') (n : H a = none) {ds : List D} {xs : List V} (r : RVLz K Z μ H ds xs) : RVLz K Z (μ ++ [a]) H' ds xs := by
  refine RVL.tr (fun b u e hn => ⟨s _ _ e, fun m q => ?_⟩) (fun n b e => ?_) ds xs r
  · rcases q with q | q
    · exact hn m (.inl q)
    · rcases List.mem_append.mp q with q | q
      · exact hn m (.inr q)
      · have : b = a := by simpa using q
        subst this
        rw [n] at e; cases e
  · rw [List.getElem?_append_left (List.getElem?_eq_some_iff.mp e).1]
    exact e
theorem RC.alloc {a b : Addr} {c : Cell} (s : Same H H') (n : H a = none) (r : RC K Z μ H b c) : RC K Z (μ ++ [a]) H' b c := by
  cases c with
  | lst ds => obtain ⟨xs, q, r⟩ := r; exact ⟨xs, s _ _ q, RVL.alloc s n r⟩
  | dic t ks vs =>
    rcases r with ⟨t, kvs, q, e, r⟩ | ⟨t, kvs, q, e, r⟩
    · exact .inl ⟨t, kvs, s _ _ q, e, RVL.alloc s n r⟩
    · exact .inr ⟨t, kvs, s _ _ q, e, RVL.alloc s n r⟩
  | ins c fs vs => obtain ⟨C, dx, fvs, q, k, e, r⟩ := r; exact ⟨C, dx, fvs, s _ _ q, k, e, RVL.alloc s n r⟩
  | lck => obtain ⟨o, u, q, l⟩ := r; exact ⟨o, u, s _ _ q, l⟩
theorem Wd.alloc {a : Addr} {c : Cell} (W : Wd K Z μ H S) (s : Same H H') (n : H a = none) (r : RC K Z (μ ++ [a]) H' a c) : Wd K Z (μ ++ [a]) H' (S ++ [c]) := by
  refine ⟨by simp [W.len], ?_, fun m c' b h1 h2 => ?_, fun b o e => s _ _ (W.base b o e), fun b hb => ?_, fun b h q => W.av b h (s.free q), fun b hb => ?_, W.root.trans (List.prefix_append _ _)⟩
  · refine List.nodup_append.mpr ⟨W.nd, by simp, fun x hx y hy => ?_⟩
    have : y = a := by simpa using hy
    subst this
    rintro rfl
    exact W.fresh n (.inr hx)
  · by_cases hm : m < μ.length
    · rw [List.getElem?_append_left (by rw [W.len]; exact hm)] at h1
      rw [List.getElem?_append_left hm] at h2
      exact (W.cell m c' b h1 h2).alloc s n
    · rw [List.getElem?_append_right (by rw [W.len]; omega)] at h1
      rw [List.getElem?_append_right (by omega)] at h2
      rw [W.len] at h1
      cases q : m - μ.length with
      | zero =>
        rw [q] at h1 h2
        simp at h1 h2
        subst h1; subst h2
        exact r
      | succ k => rw [q] at h2; simp at h2
  · rcases List.mem_append.mp hb with hb | hb
    · exact W.dis b hb
    · have : b = a := by simpa using hb
      subst this
      exact W.newB n
  · rcases List.mem_append.mp hb with hb | hb
    · exact W.disA b hb
    · have : b = a := by simpa using hb
      subst this
      exact fun z => W.fresh n (.inl z)
theorem Rel.alloc {a : Addr} {c : Cell} (R : Rel K Z μ σ H ρ S) (s : Same H H') (n : H a = none) (r : RC K Z (μ ++ [a]) H' a c) : Rel K Z (μ ++ [a]) σ H' ρ (S ++ [c]) :=
  R.with (R.wd.alloc s n r) fun _ _ q => RV.alloc s n q
theorem Rel.wr {n : Nat} {a : Addr} {o : HO} {c : Cell} (R : Rel K Z μ σ H ρ S) (h : μ[n]? = some a) (r : RC K Z μ (upd H a o) a c) : Rel K Z μ σ (upd H a o) ρ (S.set n c) :=
  R.with (R.wd.wr h r) fun _ _ q => RV.wr R.wd (List.mem_of_getElem? h) q
theorem Rel.set {i : Nat} {d : D} {v : V} (R : Rel K Z μ σ H ρ S) (r : RVz K Z μ H d v) : Rel K Z μ (σ.set i (some v)) H (ρ.set i (some d)) S := by
  refine ⟨R.wd, by rw [List.length_set, List.length_set]; exact R.len, fun j e h => ?_⟩
  by_cases hj : i = j
  · subst hj
    by_cases hl : i < ρ.length
    · rw [List.getElem?_set_self hl] at h
      cases h
      exact ⟨v, List.getElem?_set_self (Nat.lt_of_lt_of_le hl R.len), r⟩
    · rw [List.getElem?_eq_none (by simpa using hl)] at h; cases h
  · rw [List.getElem?_set_ne hj] at h ⊢
    exact R.env j e h

/-! ### readings -/
abbrev avO (Z : Fr) (μ : List Addr) (a : Addr) : Addr → Prop := fun b => avd Z μ b ∨ b = a
def tD (K : PySem.W.Frag) (f : E) : TE := fun σ H Q => ∃ Z μ ρ S, Rel K Z μ σ H ρ S ∧ ∃ d, f ρ S = some d ∧ ∀ v H', Same H H' → RVz K Z μ H' d v → Q v H'
/-- a list that is new: nobody else has it -/
def tF (K : PySem.W.Frag) (f : EL) : TE := fun σ H Q => ∃ Z μ ρ S, Rel K Z μ σ H ρ S ∧ ∃ ds, f ρ S = some ds ∧
  ∀ a xs H', H a = none → Same H H' → H' a = some (.lst xs) → RVL K (avO Z μ a) μ H' ds xs → Q (.ref a) H'
def tT (K : PySem.W.Frag) (f : EB) : TT := fun σ H Q => ∃ Z μ ρ S, Rel K Z μ σ H ρ S ∧ ∃ b, f ρ S = some b ∧ ∀ H', Same H H' → Q b H'
def tA (K : PySem.W.Frag) (f : EL) : TA := fun σ H Q => ∃ Z μ ρ S, Rel K Z μ σ H ρ S ∧ ∃ ds, f ρ S = some ds ∧ ∀ vs H', Same H H' → RVLz K Z μ H' ds vs → Q vs H'

theorem RVL.weakO {a : Addr} {ds : List D} {xs : List V} (h : RVL K (avO Z μ a) μ H ds xs) : RVLz K Z μ H ds xs :=
  RVL.tr (fun b u e hn => ⟨e, fun m q => hn m (.inl q)⟩) (fun _ _ e => e) ds xs h
theorem RVL.newO {a : Addr} {ds : List D} {xs : List V} (s : Same H H') (n : H a = none) (h : RVLz K Z μ H ds xs) : RVL K (avO Z μ a) μ H' ds xs :=
  RVL.tr (fun b u e hn => ⟨s _ _ e, fun m q => by
    rcases q with q | q
    · exact hn m q
    · subst q; rw [n] at e; cases e⟩) (fun _ _ e => e) ds xs h
theorem RV.lst_of {a : Addr} {xs : List V} {ds : List D} (W : Wd K Z μ H S) (n : H a = none) (h1 : H' a = some (.lst xs)) (h : RVL K (avO Z μ a) μ H' ds xs) : RVz K Z μ H' (.lst ds) (.ref a) := by
  unfold RVz RV
  exact ⟨a, xs, rfl, h1, W.fresh n, h.weakO⟩

end
section
variable {X : Cx} {e : Expr} {st : Stmt}
theorem pe_imp {t t' : TE} (h : PE X e t) (i : ∀ σ H Q, t' σ H Q → t σ H Q) : PE X e t' := ⟨fun pins s σ H Q I q => h.run pins s σ H Q I (i σ H Q q)⟩
theorem pt_imp {t t' : TT} (h : PT X e t) (i : ∀ σ H Q, t' σ H Q → t σ H Q) : PT X e t' := ⟨fun pins s σ H Q I q => h.run pins s σ H Q I (i σ H Q q)⟩
theorem pw_imp {t t' : TT} (h : PW X e t) (i : ∀ σ H Q, t' σ H Q → t σ H Q) : PW X e t' := ⟨fun wh pins s σ H Q I q => h.run wh pins s σ H Q I (i σ H Q q)⟩
theorem pa_imp {es : List Expr} {t t' : TA} (h : PA X es t) (i : ∀ σ H Q, t' σ H Q → t σ H Q) : PA X es t' := ⟨fun p pins s σ H Q I q => h.run p pins s σ H Q I (i σ H Q q)⟩
theorem ps_imp {t t' : TS} (h : PS X st t) (i : ∀ D σ H, t' D σ H → t D σ H) : PS X st t' := ⟨fun pins s σ H D I q => h.run pins s σ H D I (i D σ H q)⟩
theorem pss_imp {sts : List Stmt} {t t' : TS} (h : PSs X sts t) (i : ∀ D σ H, t' D σ H → t D σ H) : PSs X sts t' := ⟨fun pins s σ H D I q => h.run pins s σ H D I (i D σ H q)⟩
theorem pg_imp {t t' : TG} (h : PG X e t) (i : ∀ v σ H Q, t' v σ H Q → t v σ H Q) : PG X e t' := ⟨fun pins s σ H v u Q I r q => h.run pins s σ H v u Q I r (i v σ H Q q)⟩
theorem pi_imp {tg : Expr} {t t' : TI} (h : PI X tg e t) (i : ∀ σ H R, t' σ H R → t σ H R) : PI X tg e t' := ⟨fun pins s σ H R I q => h.run pins s σ H R I (i σ H R q)⟩
/-- a new list is a list -/
theorem d_ofF {f : EL} (h : PE X e (tF X.K f)) : PE X e (tD X.K fun ρ S => (f ρ S).map .lst) := pe_imp h fun σ H Q ⟨Z, μ, ρ, S, R, d, e, q⟩ => by
  cases z : f ρ S with
  | none => simp only [z, Option.map_none] at e; cases e
  | some ds =>
    simp only [z, Option.map_some, Option.some.injEq] at e
    subst e
    exact ⟨Z, μ, ρ, S, R, ds, z, fun a xs H' n s h1 h2 => q _ _ s (RV.lst_of R.wd n h1 h2)⟩
end
end DL

set_option maxHeartbeats 4000000
namespace DL
open PySem PySem.Spec L2

/-! ### equality of data -/
mutual
def toP : D → PyData
  | .bl b => .bool b
  | .int i => .int i
  | .str s => .str s
  | .tup ds => .tuple (toPs ds)
  | .lst ds => .list (toPs ds)
  | .non => .none
  | _ => .dict []
def toPs : List D → List PyData
  | [] => []
  | d :: ds => toP d :: toPs ds
end
mutual
def okD : Nat → D → Bool
  | _, .non => true
  | _, .bl _ => true
  | _, .int _ => true
  | _, .str s => PyData.strOk s
  | n + 1, .tup ds => okDs n ds
  | n + 1, .lst ds => okDs n ds
  | _, _ => false
def okDs : Nat → List D → Bool
  | _, [] => true
  | n, d :: ds => okD n d && okDs n ds
end
mutual
def eqD : D → D → Bool
  | .non, .non => true
  | .bl a, .bl b => a == b
  | .bl a, .int j => (if a then 1 else 0) == j
  | .int i, .bl b => i == (if b then 1 else 0)
  | .int i, .int j => i == j
  | .str x, .str y => x == y
  | .lst xs, .lst ys => eqDs xs ys
  | .tup xs, .tup ys => eqDs xs ys
  | _, _ => false
def eqDs : List D → List D → Bool
  | [], [] => true
  | x :: xs, y :: ys => eqD x y && eqDs xs ys
  | _, _ => false
end
mutual
theorem okD_lay : ∀ (n : Nat) (d : D), okD n d = true → (toP d).canLay0 = true ∧ (toP d).depth ≤ n
  | _, .non, _ => by simp [toP, PyData.canLay0, PyData.depth]
  | _, .bl _, _ => by simp [toP, PyData.canLay0, PyData.depth]
  | _, .int _, _ => by simp [toP, PyData.canLay0, PyData.depth]
  | _, .str s, h => by
    simp [okD] at h
    simp [toP, PyData.canLay0, PyData.depth, h]
  | n + 1, .tup ds, h => by
    simp only [okD] at h
    have q := okDs_lay n ds h
    simp only [toP, PyData.canLay0, PyData.depth]
    exact ⟨q.1, by omega⟩
  | n + 1, .lst ds, h => by
    simp only [okD] at h
    have q := okDs_lay n ds h
    simp only [toP, PyData.canLay0, PyData.depth]
    exact ⟨q.1, by omega⟩
  | 0, .tup ds, h => by simp [okD] at h
  | 0, .lst ds, h => by simp [okD] at h
  | _, .dic _ _ _, h => by simp [okD] at h
  | _, .ins _ _ _, h => by simp [okD] at h
  | _, .scr _, h => by simp [okD] at h
  | _, .ref _, h => by simp [okD] at h
  | _, .ty _, h => by simp [okD] at h
theorem okDs_lay : ∀ (n : Nat) (ds : List D), okDs n ds = true → PyData.canLayAll0 (toPs ds) = true ∧ PyData.depthAll (toPs ds) ≤ n
  | _, [], _ => by simp [toPs, PyData.canLayAll0, PyData.depthAll]
  | n, d :: ds, h => by
    simp only [okDs, Bool.and_eq_true] at h
    have q1 := okD_lay n d h.1
    have q2 := okDs_lay n ds h.2
    simp only [toPs, PyData.canLayAll0, PyData.depthAll, Bool.and_eq_true]
    exact ⟨⟨q1.1, q2.1⟩, by omega⟩
end
theorem okD_shaped {n : Nat} {d : D} (h : okD n d = true) (hn : n ≤ 64) : SeqAt.shaped (toP d) = true := by
  obtain ⟨h1, h2⟩ := okD_lay n d h
  show ((toP d).canLay0 && decide ((toP d).depth ≤ 64)) = true
  rw [Bool.and_eq_true]
  exact ⟨h1, decide_eq_true (by omega)⟩
mutual
theorem eqv_eqD : ∀ (n m : Nat) (x y : D), okD n x = true → okD m y = true → PyData.eqv (toP x) (toP y) = eqD x y
  | n, m, .non, y, _, hy => by cases y <;> first | (simp [okD] at hy; done) | (simp only [toP, PyData.eqv, eqD]; done)
  | n, m, .bl _, y, _, hy => by cases y <;> first | (simp [okD] at hy; done) | (simp only [toP, PyData.eqv, eqD]; done)
  | n, m, .int _, y, _, hy => by cases y <;> first | (simp [okD] at hy; done) | (simp only [toP, PyData.eqv, eqD]; done)
  | n, m, .str _, y, _, hy => by cases y <;> first | (simp [okD] at hy; done) | (simp only [toP, PyData.eqv, eqD]; done)
  | n + 1, m, .tup xs, y, hx, hy => by
    cases y with
    | tup ys =>
      cases m with
      | zero => simp [okD] at hy
      | succ m =>
        simp only [okD] at hx hy
        simp only [toP, PyData.eqv, eqD]
        exact eqv_eqDs n m xs ys hx hy
    | _ => first | (simp [okD] at hy; done) | (simp only [toP, PyData.eqv, eqD]; done)
  | n + 1, m, .lst xs, y, hx, hy => by
    cases y with
    | lst ys =>
      cases m with
      | zero => simp [okD] at hy
      | succ m =>
        simp only [okD] at hx hy
        simp only [toP, PyData.eqv, eqD]
        exact eqv_eqDs n m xs ys hx hy
    | _ => first | (simp [okD] at hy; done) | (simp only [toP, PyData.eqv, eqD]; done)
  | 0, _, .tup ds, _, h, _ => by simp [okD] at h
  | 0, _, .lst ds, _, h, _ => by simp [okD] at h
  | _, _, .dic _ _ _, _, h, _ => by simp [okD] at h
  | _, _, .ins _ _ _, _, h, _ => by simp [okD] at h
  | _, _, .scr _, _, h, _ => by simp [okD] at h
  | _, _, .ref _, _, h, _ => by simp [okD] at h
  | _, _, .ty _, _, h, _ => by simp [okD] at h
theorem eqv_eqDs : ∀ (n m : Nat) (xs ys : List D), okDs n xs = true → okDs m ys = true → PyData.eqvAll (toPs xs) (toPs ys) = eqDs xs ys
  | _, _, [], [], _, _ => by simp only [toPs, PyData.eqvAll, eqDs]
  | _, _, [], _ :: _, _, _ => by simp only [toPs, PyData.eqvAll, eqDs]
  | _, _, _ :: _, [], _, _ => by simp only [toPs, PyData.eqvAll, eqDs]
  | n, m, x :: xs, y :: ys, hx, hy => by
    simp only [okDs, Bool.and_eq_true] at hx hy
    simp only [toPs, PyData.eqvAll, eqDs, eqv_eqD n m x y hx.1 hy.1, eqv_eqDs n m xs ys hx.2 hy.2]
end
section
variable {K : PySem.W.Frag} {av : Addr → Prop} {μ : List Addr} {H : Hp}
mutual
theorem dp_of : ∀ (n : Nat) (d : D) (v : V), okD n d = true → RV K av μ H d v → Dp K H v (toP d)
  | _, .non, v, _, h => by unfold RV at h; subst h; exact .non
  | _, .bl _, v, _, h => by unfold RV at h; subst h; exact .bl _
  | _, .int _, v, _, h => by unfold RV at h; subst h; exact .int _
  | _, .str _, v, _, h => by unfold RV at h; subst h; exact .str _
  | n + 1, .tup ds, v, o, h => by
    simp only [okD] at o
    unfold RV at h
    obtain ⟨a, xs, rfl, hs, hr⟩ := h
    simp only [toP]
    exact .tup (SqT.of hs) (dps_of n ds xs o hr)
  | n + 1, .lst ds, v, o, h => by
    simp only [okD] at o
    unfold RV at h
    obtain ⟨a, xs, rfl, hs, _, hr⟩ := h
    simp only [toP]
    exact .lst (SqL.of hs) (dps_of n ds xs o hr)
  | 0, .tup ds, _, h, _ => by simp [okD] at h
  | 0, .lst ds, _, h, _ => by simp [okD] at h
  | _, .dic _ _ _, _, h, _ => by simp [okD] at h
  | _, .ins _ _ _, _, h, _ => by simp [okD] at h
  | _, .scr _, _, h, _ => by simp [okD] at h
  | _, .ref _, _, h, _ => by simp [okD] at h
  | _, .ty _, _, h, _ => by simp [okD] at h
theorem dps_of : ∀ (n : Nat) (ds : List D) (vs : List V), okDs n ds = true → RVL K av μ H ds vs → DpAll K H vs (toPs ds)
  | _, [], vs, _, h => by unfold RVL at h; subst h; exact .nil
  | n, d :: ds, vs, o, h => by
    simp only [okDs, Bool.and_eq_true] at o
    unfold RVL at h
    obtain ⟨y, ys, rfl, h1, h2⟩ := h
    simp only [toPs]
    exact .cons (dp_of n d y o.1 h1) (dps_of n ds ys o.2 h2)
end
end

/-! ### what is in the store, read as data -/
mutual
/-- no place of the store in it -/
def nr : D → Bool
  | .tup ds => nrs ds
  | .lst ds => nrs ds
  | .dic _ _ vs => nrs vs
  | .ins _ _ vs => nrs vs
  | .ref _ => false
  | _ => true
def nrs : List D → Bool
  | [] => true
  | d :: ds => nr d && nrs ds
end
mutual
/-- neither places nor lists nor dicts in it -/
def imm : D → Bool
  | .tup ds => imms ds
  | .lst _ => false
  | .dic _ _ _ => false
  | .ins _ _ _ => false
  | .ref _ => false
  | _ => true
def imms : List D → Bool
  | [] => true
  | d :: ds => imm d && imms ds
end
mutual
def frzS (φ : Nat → Option D) : D → Option D
  | .tup ds => (frzSs φ ds).map .tup
  | .lst ds => (frzSs φ ds).map .lst
  | .dic t ks vs => (frzSs φ vs).map (.dic t ks)
  | .ins c fs vs => (frzSs φ vs).map (.ins c fs)
  | .ref n => φ n
  | d => some d
def frzSs (φ : Nat → Option D) : List D → Option (List D)
  | [] => some []
  | d :: ds => (frzS φ d).bind fun e => (frzSs φ ds).map (e :: ·)
end
def frz : Nat → Sto → D → Option D
  | 0, _, d => frzS (fun _ => none) d
  | k + 1, S, d => frzS (fun n => (S[n]?).bind fun c => match c with
      | .lst ds => (ds.mapM (frz k S)).map .lst
      | .dic t ks vs => (vs.mapM (frz k S)).map (.dic t ks)
      | .ins c fs vs => (vs.mapM (frz k S)).map (.ins c fs)
      | .lck => none) d
def fz (S : Sto) (d : D) : Option D := if nr d then some d else frz 6 S d
def fzs (S : Sto) : List D → Option (List D)
  | [] => some []
  | d :: ds => (fz S d).bind fun e => (fzs S ds).map (e :: ·)

section
variable {K : PySem.W.Frag} {av av' : Addr → Prop} {μ μ' : List Addr} {H : Hp}
mutual
theorem RV.nr : ∀ (d : D) (v : V), DL.nr d = true → RV K av μ H d v → RV K av μ' H d v
  | .non, _, _, h => by unfold RV at h ⊢; exact h
  | .bl _, _, _, h => by unfold RV at h ⊢; exact h
  | .int _, _, _, h => by unfold RV at h ⊢; exact h
  | .str _, _, _, h => by unfold RV at h ⊢; exact h
  | .ty _, _, _, h => by unfold RV at h ⊢; exact h
  | .scr _, _, _, h => by unfold RV at h ⊢; exact h
  | .ref _, _, o, _ => by simp [DL.nr] at o
  | .tup ds, v, o, h => by
    simp only [DL.nr] at o
    unfold RV at h ⊢
    obtain ⟨a, xs, e, hs, hr⟩ := h
    exact ⟨a, xs, e, hs, RVL.nr ds xs o hr⟩
  | .lst ds, v, o, h => by
    simp only [DL.nr] at o
    unfold RV at h ⊢
    obtain ⟨a, xs, e, hs, hn, hr⟩ := h
    exact ⟨a, xs, e, hs, hn, RVL.nr ds xs o hr⟩
  | .dic t ks vs, v, o, h => by
    simp only [DL.nr] at o
    unfold RV at h ⊢
    obtain ⟨a, e, hn, h⟩ := h
    rcases h with ⟨ht, kvs, hs, hk, hr⟩ | ⟨ht, kvs, hs, hk, hr⟩
    · exact ⟨a, e, hn, .inl ⟨ht, kvs, hs, hk, RVL.nr vs _ o hr⟩⟩
    · exact ⟨a, e, hn, .inr ⟨ht, kvs, hs, hk, RVL.nr vs _ o hr⟩⟩
  | .ins c fs vs, v, o, h => by
    simp only [DL.nr] at o
    unfold RV at h ⊢
    obtain ⟨a, C, dx, fvs, e, hn, hs, k, hf, hr⟩ := h
    exact ⟨a, C, dx, fvs, e, hn, hs, k, hf, RVL.nr vs _ o hr⟩
theorem RVL.nr : ∀ (ds : List D) (vs : List V), DL.nrs ds = true → RVL K av μ H ds vs → RVL K av μ' H ds vs
  | [], _, _, h => by unfold RVL at h ⊢; exact h
  | d :: ds, _, o, h => by
    simp only [DL.nrs, Bool.and_eq_true] at o
    unfold RVL at h ⊢
    obtain ⟨y, ys, e, h1, h2⟩ := h
    exact ⟨y, ys, e, RV.nr d y o.1 h1, RVL.nr ds ys o.2 h2⟩
end
mutual
theorem RV.imm : ∀ (d : D) (v : V), DL.imm d = true → RV K av μ H d v → RV K av' μ' H d v
  | .non, _, _, h => by unfold RV at h ⊢; exact h
  | .bl _, _, _, h => by unfold RV at h ⊢; exact h
  | .int _, _, _, h => by unfold RV at h ⊢; exact h
  | .str _, _, _, h => by unfold RV at h ⊢; exact h
  | .ty _, _, _, h => by unfold RV at h ⊢; exact h
  | .scr _, _, _, h => by unfold RV at h ⊢; exact h
  | .ref _, _, o, _ => by simp [DL.imm] at o
  | .tup ds, v, o, h => by
    simp only [DL.imm] at o
    unfold RV at h ⊢
    obtain ⟨a, xs, e, hs, hr⟩ := h
    exact ⟨a, xs, e, hs, RVL.imm ds xs o hr⟩
  | .lst ds, v, o, h => by simp [DL.imm] at o
  | .dic t ks vs, v, o, h => by simp [DL.imm] at o
  | .ins c fs vs, v, o, h => by simp [DL.imm] at o
theorem RVL.imm : ∀ (ds : List D) (vs : List V), DL.imms ds = true → RVL K av μ H ds vs → RVL K av' μ' H ds vs
  | [], _, _, h => by unfold RVL at h ⊢; exact h
  | d :: ds, _, o, h => by
    simp only [DL.imms, Bool.and_eq_true] at o
    unfold RVL at h ⊢
    obtain ⟨y, ys, e, h1, h2⟩ := h
    exact ⟨y, ys, e, RV.imm d y o.1 h1, RVL.imm ds ys o.2 h2⟩
end
mutual
theorem RV.frzS {φ : Nat → Option D} (hav : ∀ a, av' a → av a) (hφ : ∀ n d', φ n = some d' → ∀ a, μ[n]? = some a → RV K av' [] H d' (.ref a)) :
    ∀ (d : D) (v : V) (d' : D), DL.frzS φ d = some d' → RV K av μ H d v → RV K av' [] H d' v
  | .non, _, _, e, h => by simp only [DL.frzS, Option.some.injEq] at e; subst e; unfold RV at h ⊢; exact h
  | .bl _, _, _, e, h => by simp only [DL.frzS, Option.some.injEq] at e; subst e; unfold RV at h ⊢; exact h
  | .int _, _, _, e, h => by simp only [DL.frzS, Option.some.injEq] at e; subst e; unfold RV at h ⊢; exact h
  | .str _, _, _, e, h => by simp only [DL.frzS, Option.some.injEq] at e; subst e; unfold RV at h ⊢; exact h
  | .ty _, _, _, e, h => by simp only [DL.frzS, Option.some.injEq] at e; subst e; unfold RV at h ⊢; exact h
  | .scr _, _, _, e, h => by simp only [DL.frzS, Option.some.injEq] at e; subst e; unfold RV at h ⊢; exact h
  | .ref n, v, d', e, h => by
    simp only [DL.frzS] at e
    unfold RV at h
    obtain ⟨a, rfl, hn⟩ := h
    exact hφ n d' e a hn
  | .tup ds, v, d', e, h => by
    simp only [DL.frzS, Option.map_eq_some_iff] at e
    obtain ⟨es, e, rfl⟩ := e
    unfold RV at h ⊢
    obtain ⟨a, xs, e1, hs, hr⟩ := h
    exact ⟨a, xs, e1, hs, RVL.frzS hav hφ ds xs es e hr⟩
  | .lst ds, v, d', e, h => by
    simp only [DL.frzS, Option.map_eq_some_iff] at e
    obtain ⟨es, e, rfl⟩ := e
    unfold RV at h ⊢
    obtain ⟨a, xs, e1, hs, hn, hr⟩ := h
    exact ⟨a, xs, e1, hs, fun z => hn (hav a z), RVL.frzS hav hφ ds xs es e hr⟩
  | .dic t ks vs, v, d', e, h => by
    simp only [DL.frzS, Option.map_eq_some_iff] at e
    obtain ⟨es, e, rfl⟩ := e
    unfold RV at h ⊢
    obtain ⟨a, e1, hn, h⟩ := h
    rcases h with ⟨ht, kvs, hs, hk, hr⟩ | ⟨ht, kvs, hs, hk, hr⟩
    · exact ⟨a, e1, fun z => hn (hav a z), .inl ⟨ht, kvs, hs, hk, RVL.frzS hav hφ vs _ es e hr⟩⟩
    · exact ⟨a, e1, fun z => hn (hav a z), .inr ⟨ht, kvs, hs, hk, RVL.frzS hav hφ vs _ es e hr⟩⟩
  | .ins c fs vs, v, d', e, h => by
    simp only [DL.frzS, Option.map_eq_some_iff] at e
    obtain ⟨es, e, rfl⟩ := e
    unfold RV at h ⊢
    obtain ⟨a, C, dx, fvs, e1, hn, hs, k, hf, hr⟩ := h
    exact ⟨a, C, dx, fvs, e1, fun z => hn (hav a z), hs, k, hf, RVL.frzS hav hφ vs _ es e hr⟩
theorem RVL.frzS {φ : Nat → Option D} (hav : ∀ a, av' a → av a) (hφ : ∀ n d', φ n = some d' → ∀ a, μ[n]? = some a → RV K av' [] H d' (.ref a)) :
    ∀ (ds : List D) (vs : List V) (es : List D), DL.frzSs φ ds = some es → RVL K av μ H ds vs → RVL K av' [] H es vs
  | [], vs, es, e, h => by simp only [DL.frzSs, Option.some.injEq] at e; subst e; unfold RVL at h ⊢; exact h
  | d :: ds, vs, es, e, h => by
    simp only [DL.frzSs, Option.bind_eq_some_iff, Option.map_eq_some_iff] at e
    obtain ⟨d', e1, es', e2, rfl⟩ := e
    unfold RVL at h ⊢
    obtain ⟨y, ys, e3, h1, h2⟩ := h
    exact ⟨y, ys, e3, RV.frzS hav hφ d y d' e1 h1, RVL.frzS hav hφ ds ys es' e2 h2⟩
end
theorem RVL.mapM {g : D → Option D} (h : ∀ d v d', g d = some d' → RV K av μ H d v → RV K av' μ' H d' v) : ∀ {ds es : List D} {vs : List V}, ds.mapM g = some es → RVL K av μ H ds vs → RVL K av' μ' H es vs
  | [], es, vs, e, r => by
    simp at e; subst e
    unfold RVL at r ⊢; exact r
  | d :: ds, es, vs, e, r => by
    rw [List.mapM_cons] at e
    simp only [Option.bind_eq_bind, Option.bind_eq_some_iff, Option.pure_def, Option.some.injEq] at e
    obtain ⟨d', e1, es', e2, rfl⟩ := e
    unfold RVL at r ⊢
    obtain ⟨y, ys, e3, h1, h2⟩ := r
    exact ⟨y, ys, e3, h d y d' e1 h1, RVL.mapM h e2 h2⟩
end
section
variable {K : PySem.W.Frag} {Z : Fr} {μ : List Addr} {H : Hp} {S : Sto}
theorem RV.frz (W : Wd K Z μ H S) : ∀ (k : Nat) (d : D) (v : V) (d' : D), DL.frz k S d = some d' → RVz K Z μ H d v → RV K Z.A [] H d' v
  | 0, d, v, d', e, h => by
    unfold DL.frz at e
    exact RV.frzS (fun a z => .inl z) (fun n d' q => by cases q) d v d' e h
  | k + 1, d, v, d', e, h => by
    unfold DL.frz at e
    refine RV.frzS (fun a z => .inl z) (fun n d2 q a ha => ?_) d v d' e h
    rw [Option.bind_eq_some_iff] at q
    obtain ⟨c, hc, q⟩ := q
    have r := W.cell n c a hc ha
    have nA : ¬ Z.A a := W.disA a (List.mem_of_getElem? ha)
    cases c with
    | lst ds =>
      obtain ⟨xs, hx, r⟩ := r
      simp only [Option.map_eq_some_iff] at q
      obtain ⟨es, q, rfl⟩ := q
      unfold RV
      exact ⟨a, xs, rfl, hx, nA, RVL.mapM (fun d v d' e h => RV.frz W k d v d' e h) q r⟩
    | dic t ks vs =>
      simp only [Option.map_eq_some_iff] at q
      obtain ⟨es, q, rfl⟩ := q
      unfold RV
      rcases r with ⟨ht, kvs, hs, hk, hr⟩ | ⟨ht, kvs, hs, hk, hr⟩
      · exact ⟨a, rfl, nA, .inl ⟨ht, kvs, hs, hk, RVL.mapM (fun d v d' e h => RV.frz W k d v d' e h) q hr⟩⟩
      · exact ⟨a, rfl, nA, .inr ⟨ht, kvs, hs, hk, RVL.mapM (fun d v d' e h => RV.frz W k d v d' e h) q hr⟩⟩
    | ins c fs vs =>
      simp only [Option.map_eq_some_iff] at q
      obtain ⟨es, q, rfl⟩ := q
      unfold RV
      obtain ⟨C, dx, fvs, hx, kc, hf, r⟩ := r
      exact ⟨a, C, dx, fvs, rfl, nA, hx, kc, hf, RVL.mapM (fun d v d' e h => RV.frz W k d v d' e h) q r⟩
    | lck => cases q
theorem RV.lessA {d : D} {v : V} (h : RVz K Z μ H d v) : RV K Z.A μ H d v := RV.tr (fun a o e hn => ⟨e, fun m z => hn m (.inl z)⟩) (fun _ _ e => e) d v h
theorem RV.fz (W : Wd K Z μ H S) {d : D} {v : V} {d' : D} (e : DL.fz S d = some d') (h : RVz K Z μ H d v) : RV K Z.A [] H d' v := by
  unfold DL.fz at e
  split at e
  · rename_i o
    cases e
    exact RV.nr d v o (RV.lessA h)
  · exact RV.frz W _ _ _ _ e h
theorem RVL.fzs (W : Wd K Z μ H S) : ∀ {ds : List D} {vs : List V} {es : List D}, DL.fzs S ds = some es → RVLz K Z μ H ds vs → RVL K Z.A [] H es vs
  | [], vs, es, e, h => by simp only [DL.fzs, Option.some.injEq] at e; subst e; unfold RVLz RVL at h; unfold RVL; exact h
  | d :: ds, vs, es, e, h => by
    simp only [DL.fzs, Option.bind_eq_some_iff, Option.map_eq_some_iff] at e
    obtain ⟨d', e1, es', e2, rfl⟩ := e
    unfold RVLz RVL at h
    unfold RVL
    obtain ⟨y, ys, e3, h1, h2⟩ := h
    exact ⟨y, ys, e3, RV.fz W e1 h1, RVL.fzs W e2 h2⟩
theorem fzs_nrs : ∀ {ds : List D}, nrs ds = true → fzs S ds = some ds
  | [], _ => rfl
  | d :: ds, h => by
    simp only [nrs, Bool.and_eq_true] at h
    simp [fzs, fz, h.1, fzs_nrs h.2]
end
end DL

set_option maxHeartbeats 4000000
namespace DL
open PySem PySem.Spec L2

/-! ### names, constants -/
def eV (i : Nat) : E := fun ρ _ => (ρ[i]?).bind id
def eC (d : D) : E := fun _ _ => some d
def e1 (g : Sto → D → Option D) (a : E) : E := fun ρ S => (a ρ S).bind fun x => g S x
def e2 (g : Sto → D → D → Option D) (a b : E) : E := fun ρ S => (a ρ S).bind fun x => (b ρ S).bind fun y => g S x y
def isC : D → Bool
  | .non => true | .bl _ => true | .int _ => true | .str _ => true | .ty _ => true
  | _ => false
def cV : D → V
  | .bl b => .bl b | .int i => .int i | .str s => .str s | .ty t => .ty t
  | _ => .non
theorem isC_rv {K : PySem.W.Frag} {av : Addr → Prop} {μ : List Addr} {H : Hp} {d : D} (h : isC d = true) : RV K av μ H d (cV d) := by
  cases d <;> first | (unfold RV; rfl) | (simp [isC] at h)

section
variable {X : Cx} {a b c e : Expr} {pos : Pos}
theorem d_var {i : Nat} {x : Str} (hN : X.N[i]? = some x := by rfl) (hv : Vis X.env.scope x := by first | exact Or.inl rfl | exact Or.inr (Or.inl rfl) | exact Or.inr (Or.inr rfl)) (hd : (x == ("__debug__" : Str)) = false := by decide)
    (hcd : (x == ("__classdict__" : Str)) = false := by decide) : PE X (.Name x pos) (tD X.K (eV i)) :=
  pe_imp (pe_var (i := i) hN hv hd hcd) fun σ H Q ⟨Z, μ, ρ, S, R, d, e, q⟩ => by
    unfold eV at e
    rw [Option.bind_eq_some_iff] at e
    obtain ⟨o, e1, e2⟩ := e
    have e2' : o = some d := e2
    subst e2'
    obtain ⟨v, h1, h2⟩ := R.env i d e1
    exact ⟨v, h1, q v H (Same.refl H) h2⟩
theorem d_const {d : D} (h : PE X e (tC (cV d))) (hd : isC d = true := by rfl) : PE X e (tD X.K (eC d)) :=
  pe_imp h fun σ H Q ⟨Z, μ, ρ, S, R, d', e, q⟩ => by
    have e' : d = d' := by simpa [eC] using e
    subst e'
    exact q _ H (Same.refl H) (isC_rv hd)
theorem d_int {i : Int} {j pos} : PE X (.Constant (.int i) j pos) (tD X.K (eC (.int i))) := d_const (d := .int i) pe_int
theorem d_bl {b : Bool} {j pos} : PE X (.Constant (.bool b) j pos) (tD X.K (eC (.bl b))) := d_const (d := .bl b) pe_bl
theorem d_non {j pos} : PE X (.Constant .none j pos) (tD X.K (eC .non)) := d_const (d := .non) pe_non
theorem d_str {x : Str} {j pos} : PE X (.Constant (.str x) j pos) (tD X.K (eC (.str x))) := d_const (d := .str x) pe_str
/-- a constant of the module -/
theorem d_glob {x : Str} {d : D} {u : Value} (hg : Gl X x) (hm : X.mg x = some u) (r : RelV (cV d) u) (hd : isC d = true := by rfl) (hdb : (x == ("__debug__" : Str)) = false := by decide) : PE X (.Name x pos) (tD X.K (eC d)) :=
  d_const (d := d) (pe_glob hg hm r hdb) hd
/-- a built-in class as a value -/
theorem d_ty {x : Str} {t : String} (hg : Gl X x) (hm : X.mg x = none) (hv : bootBuiltins x = some (.type t)) (hn : x ≠ "__name__" := by decide) (hdb : (x == ("__debug__" : Str)) = false := by decide) : PE X (.Name x pos) (tD X.K (eC (.ty t))) :=
  d_const (d := .ty t) (pe_bltn hg hm hv rfl hn hdb)

/-! ### operators -/
def OpD (K : PySem.W.Frag) (r : R2) (g : Sto → D → D → Option D) : Prop :=
  ∀ (Z : Fr) (μ : List Addr) (H : Hp) (S : Sto) (x y d : D) (v u : V) (Q : VK), Wd K Z μ H S → RVz K Z μ H x v → RVz K Z μ H y u → g S x y = some d →
    (∀ w H', Same H H' → RVz K Z μ H' d w → Q w H') → r v u H Q
def OpF (K : PySem.W.Frag) (r : R2) (g : Sto → D → D → Option (List D)) : Prop :=
  ∀ (Z : Fr) (μ : List Addr) (H : Hp) (S : Sto) (x y : D) (ds : List D) (v u : V) (Q : VK), Wd K Z μ H S → RVz K Z μ H x v → RVz K Z μ H y u → g S x y = some ds →
    (∀ a xs H', H a = none → Same H H' → H' a = some (.lst xs) → RVL K (avO Z μ a) μ H' ds xs → Q (.ref a) H') → r v u H Q
def UnD (K : PySem.W.Frag) (r : V → Hp → VK → Prop) (g : Sto → D → Option D) : Prop :=
  ∀ (Z : Fr) (μ : List Addr) (H : Hp) (S : Sto) (x d : D) (v : V) (Q : VK), Wd K Z μ H S → RVz K Z μ H x v → g S x = some d →
    (∀ w H', Same H H' → RVz K Z μ H' d w → Q w H') → r v H Q
theorem tOp_of {K : PySem.W.Frag} {r : R2} {g : Sto → D → D → Option D} {fa fb : E} (hd : OpD K r g) {σ : L2.St} {H : Hp} {Q : VK} (h : tD K (e2 g fa fb) σ H Q) : tOp r (tD K fa) (tD K fb) σ H Q := by
  obtain ⟨Z, μ, ρ, S, R, d, e, q⟩ := h
  simp only [e2, Option.bind_eq_some_iff] at e
  obtain ⟨x, ex, y, ey, eg⟩ := e
  refine ⟨Z, μ, ρ, S, R, x, ex, fun v H1 s1 r1 => ⟨Z, μ, ρ, S, R.mono s1, y, ey, fun u H2 s2 r2 => ?_⟩⟩
  exact hd Z μ H2 S x y d v u Q ((R.wd.mono s1).mono s2) (RV.mono s2 r1) r2 eg fun w H' s3 r3 => q w H' (s1.trans (s2.trans s3)) r3
theorem d_op {op : Operator} {r : R2} {g : Sto → D → D → Option D} {fa fb : E} (ho : OpR X (binaryOp op) r) (hd : OpD X.K r g) (ha : PE X a (tD X.K fa)) (hb : PE X b (tD X.K fb)) : PE X (.BinOp a op b pos) (tD X.K (e2 g fa fb)) :=
  pe_imp (pe_op ho ha hb) fun _ _ _ h => tOp_of hd h
def f2 (g : Sto → D → D → Option (List D)) (a b : E) : EL := fun ρ S => (a ρ S).bind fun x => (b ρ S).bind fun y => g S x y
theorem d_opF {op : Operator} {r : R2} {g : Sto → D → D → Option (List D)} {fa fb : E} (ho : OpR X (binaryOp op) r) (hd : OpF X.K r g) (ha : PE X a (tD X.K fa)) (hb : PE X b (tD X.K fb)) : PE X (.BinOp a op b pos) (tF X.K (f2 g fa fb)) :=
  pe_imp (pe_op ho ha hb) fun σ H Q h => by
    obtain ⟨Z, μ, ρ, S, R, ds, e, q⟩ := h
    simp only [f2, Option.bind_eq_some_iff] at e
    obtain ⟨x, ex, y, ey, eg⟩ := e
    refine ⟨Z, μ, ρ, S, R, x, ex, fun v H1 s1 r1 => ⟨Z, μ, ρ, S, R.mono s1, y, ey, fun u H2 s2 r2 => ?_⟩⟩
    exact hd Z μ H2 S x y ds v u Q ((R.wd.mono s1).mono s2) (RV.mono s2 r1) r2 eg fun p xs H' n s3 h1 h2 => q p xs H' ((s1.trans s2).free n) (s1.trans (s2.trans s3)) h1 h2
theorem d_cmp {op : CmpOp} {r : R2} {g : Sto → D → D → Option D} {fa fb : E} (ho : OpR X (compareOp op) r) (hd : OpD X.K r g) (ha : PE X a (tD X.K fa)) (hb : PE X b (tD X.K fb)) (hm : behindInMarks op b = false) : PE X (.Compare a [op] [b] pos) (tD X.K (e2 g fa fb)) :=
  pe_imp (pe_cmpR ho ha hb hm) fun _ _ _ h => tOp_of hd h
/-- a value that has to be a flag -/
def eB (f : E) : EB := fun ρ S => (f ρ S).bind fun d => match d with | .bl b => some b | _ => none
theorem dt_cmp {op : CmpOp} {r : R2} {g : Sto → D → D → Option D} {fa fb : E} (ho : OpR X (compareOp op) r) (hd : OpD X.K r g) (ha : PE X a (tD X.K fa)) (hb : PE X b (tD X.K fb)) (hm : behindInMarks op b = false) : PT X (.Compare a [op] [b] pos) (tT X.K (eB (e2 g fa fb))) :=
  pt_imp (pt_cmpR ho ha hb hm) fun σ H Q h => by
    obtain ⟨Z, μ, ρ, S, R, k, e, q⟩ := h
    simp only [eB, Option.bind_eq_some_iff] at e
    obtain ⟨d, e1, e2⟩ := e
    refine tOp_of hd ⟨Z, μ, ρ, S, R, d, e1, fun v H' s r => ?_⟩
    cases d <;> simp at e2
    subst e2
    unfold RVz RV at r
    exact ⟨_, r, q H' s⟩
theorem d_un {op : UnaryOp} {r : V → Hp → VK → Prop} {g : Sto → D → Option D} {fa : E} (ho : UnR X (unaryOp op) r) (hd : UnD X.K r g) (ha : PE X a (tD X.K fa)) : PE X (.UnaryOp op a pos) (tD X.K (e1 g fa)) :=
  pe_imp (pe_un ho ha) fun σ H Q h => by
    obtain ⟨Z, μ, ρ, S, R, d, e, q⟩ := h
    simp only [e1, Option.bind_eq_some_iff] at e
    obtain ⟨x, ex, eg⟩ := e
    exact ⟨Z, μ, ρ, S, R, x, ex, fun v H1 s1 r1 => hd Z μ H1 S x d v Q (R.wd.mono s1) r1 eg fun w H' s2 r2 => q w H' (s1.trans s2) r2⟩

theorem rv_int {K : PySem.W.Frag} {av : Addr → Prop} {μ : List Addr} {H : Hp} {i : Int} {v : V} : RV K av μ H (.int i) v ↔ v = .int i := by unfold RV; exact Iff.rfl
theorem rv_bl {K : PySem.W.Frag} {av : Addr → Prop} {μ : List Addr} {H : Hp} {i : Bool} {v : V} : RV K av μ H (.bl i) v ↔ v = .bl i := by unfold RV; exact Iff.rfl
theorem rv_non {K : PySem.W.Frag} {av : Addr → Prop} {μ : List Addr} {H : Hp} {v : V} : RV K av μ H .non v ↔ v = .non := by unfold RV; exact Iff.rfl
theorem rv_str {K : PySem.W.Frag} {av : Addr → Prop} {μ : List Addr} {H : Hp} {s : Str} {v : V} : RV K av μ H (.str s) v ↔ v = .str s := by unfold RV; exact Iff.rfl
theorem rv_ty {K : PySem.W.Frag} {av : Addr → Prop} {μ : List Addr} {H : Hp} {s : String} {v : V} : RV K av μ H (.ty s) v ↔ v = .ty s := by unfold RV; exact Iff.rfl
theorem rv_tup {K : PySem.W.Frag} {av : Addr → Prop} {μ : List Addr} {H : Hp} {ds : List D} {v : V} : RV K av μ H (.tup ds) v ↔ ∃ a xs, v = .ref a ∧ H a = some (.tup xs) ∧ RVL K av μ H ds xs := by
  constructor <;> intro h
  · unfold RV at h; exact h
  · unfold RV; exact h
theorem rv_lst {K : PySem.W.Frag} {av : Addr → Prop} {μ : List Addr} {H : Hp} {ds : List D} {v : V} : RV K av μ H (.lst ds) v ↔ ∃ a xs, v = .ref a ∧ H a = some (.lst xs) ∧ ¬ av a ∧ RVL K av μ H ds xs := by
  constructor <;> intro h
  · unfold RV at h; exact h
  · unfold RV; exact h
theorem rv_scr {K : PySem.W.Frag} {av : Addr → Prop} {μ : List Addr} {H : Hp} {ns : List Int} {v : V} : RV K av μ H (.scr ns) v ↔ ∃ a, v = .ref a ∧ ((∃ o, H a = some (.frz o (.lst (ns.map V.int)))) ∨ ∀ H' : Hp, SqL K H' a (ns.map V.int)) := by
  constructor <;> intro h
  · unfold RV at h; exact h
  · unfold RV; exact h
theorem rv_ref {K : PySem.W.Frag} {av : Addr → Prop} {μ : List Addr} {H : Hp} {n : Nat} {v : V} : RV K av μ H (.ref n) v ↔ ∃ a, v = .ref a ∧ μ[n]? = some a := by
  constructor <;> intro h
  · unfold RV at h; exact h
  · unfold RV; exact h
theorem rv_dic {K : PySem.W.Frag} {av : Addr → Prop} {μ : List Addr} {H : Hp} {t : Bool} {ks vs : List D} {v : V} : RV K av μ H (.dic t ks vs) v ↔ ∃ a, v = .ref a ∧ ¬ av a ∧ (
      (t = false ∧ ∃ kvs, H a = some (.dK kvs) ∧ ks = dicKs kvs ∧ RVL K av μ H vs (kvs.map (·.2))) ∨
      (t = true ∧ ∃ kvs, H a = some (.dT kvs) ∧ ks = dicKsT kvs ∧ RVL K av μ H vs (kvs.map (·.2)))) := by
  constructor <;> intro h
  · unfold RV at h; exact h
  · unfold RV; exact h
theorem rv_ins {K : PySem.W.Frag} {av : Addr → Prop} {μ : List Addr} {H : Hp} {c : Str} {fs : List Str} {vs : List D} {v : V} : RV K av μ H (.ins c fs vs) v ↔ ∃ a C dx fvs, v = .ref a ∧ ¬ av a ∧ H a = some (.ins C dx fvs) ∧ ClsAt K c C ∧ fvs.map (·.1) = fs ∧ RVL K av μ H vs (fvs.map (·.2)) := by
  constructor <;> intro h
  · unfold RV at h; exact h
  · unfold RV; exact h
theorem rvl_nil {K : PySem.W.Frag} {av : Addr → Prop} {μ : List Addr} {H : Hp} {vs : List V} : RVL K av μ H [] vs ↔ vs = [] := by
  unfold RVL; exact Iff.rfl
theorem rvl_cons {K : PySem.W.Frag} {av : Addr → Prop} {μ : List Addr} {H : Hp} {d : D} {ds : List D} {vs : List V} : RVL K av μ H (d :: ds) vs ↔ ∃ y ys, vs = y :: ys ∧ RV K av μ H d y ∧ RVL K av μ H ds ys := by
  constructor <;> intro h
  · unfold RVL at h; exact h
  · unfold RVL; exact h

/-- a sequence that is read -/
def seqD (S : Sto) : D → Option (List D)
  | .tup ds => some ds
  | .lst ds => some ds
  | .scr ns => some (ns.map .int)
  | .ref n => match S[n]? with
    | some (.lst ds) => some ds
    | _ => none
  | _ => none
theorem rvl_ints {K : PySem.W.Frag} {av : Addr → Prop} {μ : List Addr} {H : Hp} : ∀ (ns : List Int), RVL K av μ H (ns.map .int) (ns.map V.int)
  | [] => RVL.nil'
  | n :: ns => RVL.cons' (rv_int.mpr rfl) (rvl_ints ns)
theorem rvl_ints' {K : PySem.W.Frag} {av : Addr → Prop} {μ : List Addr} {H : Hp} : ∀ {ns : List Int} {xs : List V}, RVL K av μ H (ns.map .int) xs → xs = ns.map V.int
  | [], xs, h => by simpa [rvl_nil] using h
  | n :: ns, xs, h => by
    simp only [List.map_cons, rvl_cons] at h
    obtain ⟨y, ys, rfl, h1, h2⟩ := h
    rw [rv_int] at h1
    subst h1
    rw [rvl_ints' h2]; rfl
theorem seq_of {K : PySem.W.Frag} {Z : Fr} {μ : List Addr} {H : Hp} {S : Sto} {d : D} {ds : List D} {v : V} (W : Wd K Z μ H S) (r : RVz K Z μ H d v) (h : seqD S d = some ds) :
    ∃ a xs, v = .ref a ∧ (SqL K H a xs ∨ SqT K H a xs) ∧ RVLz K Z μ H ds xs := by
  cases d with
  | tup es =>
    simp only [seqD, Option.some.injEq] at h; subst h
    obtain ⟨a, xs, e, h1, h2⟩ := rv_tup.mp r
    exact ⟨a, xs, e, .inr (SqT.of h1), h2⟩
  | lst es =>
    simp only [seqD, Option.some.injEq] at h; subst h
    obtain ⟨a, xs, e, h1, _, h2⟩ := rv_lst.mp r
    exact ⟨a, xs, e, .inl (SqL.of h1), h2⟩
  | scr ns =>
    simp only [seqD, Option.some.injEq] at h; subst h
    obtain ⟨a, e, h1⟩ := rv_scr.mp r
    refine ⟨a, _, e, .inl ?_, rvl_ints ns⟩
    rcases h1 with ⟨o, h1⟩ | h1
    · exact .inl (.inr ⟨o, h1⟩)
    · exact h1 H
  | ref n =>
    simp only [seqD] at h
    split at h
    · rename_i es hc
      cases h
      obtain ⟨a, e, hn⟩ := rv_ref.mp r
      obtain ⟨xs, h1, h2⟩ := W.cell n _ a hc hn
      exact ⟨a, xs, e, .inl (SqL.of h1), h2⟩
    · cases h
  | _ => simp [seqD] at h
theorem seq_ofH {K : PySem.W.Frag} {Z : Fr} {μ : List Addr} {H : Hp} {S : Sto} {d : D} {ds : List D} {v : V} (W : Wd K Z μ H S) (r : RVz K Z μ H d v) (h : seqD S d = some ds) :
    ∃ a xs, v = .ref a ∧ (SqL K H a xs ∨ H a = some (.tup xs)) ∧ RVLz K Z μ H ds xs := by
  cases d with
  | tup es =>
    simp only [seqD, Option.some.injEq] at h; subst h
    obtain ⟨a, xs, e, h1, h2⟩ := rv_tup.mp r
    exact ⟨a, xs, e, .inr h1, h2⟩
  | lst es =>
    simp only [seqD, Option.some.injEq] at h; subst h
    obtain ⟨a, xs, e, h1, _, h2⟩ := rv_lst.mp r
    exact ⟨a, xs, e, .inl (SqL.of h1), h2⟩
  | scr ns =>
    simp only [seqD, Option.some.injEq] at h; subst h
    obtain ⟨a, e, h1⟩ := rv_scr.mp r
    refine ⟨a, _, e, .inl ?_, rvl_ints ns⟩
    rcases h1 with ⟨o, h1⟩ | h1
    · exact .inl (.inr ⟨o, h1⟩)
    · exact h1 H
  | ref n =>
    simp only [seqD] at h
    split at h
    · rename_i es hc
      cases h
      obtain ⟨a, e, hn⟩ := rv_ref.mp r
      obtain ⟨xs, h1, h2⟩ := W.cell n _ a hc hn
      exact ⟨a, xs, e, .inl (SqL.of h1), h2⟩
    · cases h
  | _ => simp [seqD] at h
/-- a list that is read -/
def lstD (S : Sto) : D → Option (List D)
  | .lst ds => some ds
  | .ref n => match S[n]? with
    | some (.lst ds) => some ds
    | _ => none
  | _ => none
theorem lst_of {K : PySem.W.Frag} {Z : Fr} {μ : List Addr} {H : Hp} {S : Sto} {d : D} {ds : List D} {v : V} (W : Wd K Z μ H S) (r : RVz K Z μ H d v) (h : lstD S d = some ds) :
    ∃ a xs, v = .ref a ∧ H a = some (.lst xs) ∧ RVLz K Z μ H ds xs := by
  cases d with
  | lst es =>
    simp only [lstD, Option.some.injEq] at h; subst h
    obtain ⟨a, xs, e, h1, _, h2⟩ := rv_lst.mp r
    exact ⟨a, xs, e, h1, h2⟩
  | ref n =>
    simp only [lstD] at h
    split at h
    · rename_i es hc
      cases h
      obtain ⟨a, e, hn⟩ := rv_ref.mp r
      obtain ⟨xs, h1, h2⟩ := W.cell n _ a hc hn
      exact ⟨a, xs, e, h1, h2⟩
    · cases h
  | _ => simp [lstD] at h

/-! ### the operators' tables -/
def small (n : Nat) : Bool := decide (n ≤ 1000000)
theorem small_le {n : Nat} (h : small n = true) : n ≤ sizeLine := Nat.le_trans (of_decide_eq_true h) (by decide)
def gAdd : Sto → D → D → Option D := fun _ x y => match x, y with
  | .int i, .int j => some (.int (i + j))
  | .tup a, .tup b => if small (a.length + b.length) then some (.tup (a ++ b)) else none
  | _, _ => none
theorem op_addD : OpR X (binaryOp .Add) (fun x y H Q => (rI0 fun i j => .int (i + j)) x y H Q ∨ rCatA X.K x y H Q) := op_add.or op_catA
theorem od_add {K : PySem.W.Frag} : OpD K (fun x y H Q => (rI0 fun i j => .int (i + j)) x y H Q ∨ rCatA K x y H Q) gAdd := by
  intro Z μ H S x y d v u Q W rx ry e q
  unfold gAdd at e
  split at e
  · rename_i i j
    cases e
    exact .inl ⟨i, j, rv_int.mp rx, rv_int.mp ry, q _ H (Same.refl H) (rv_int.mpr rfl)⟩
  · rename_i as bs
    split at e
    · rename_i hs
      cases e
      obtain ⟨a, xs, rfl, h1, h2⟩ := rv_tup.mp rx
      obtain ⟨b, ys, rfl, h3, h4⟩ := rv_tup.mp ry
      refine .inr ⟨a, b, xs, ys, rfl, rfl, SqT.of h1, SqT.of h3, ?_, ?_, ?_, ?_⟩
      · rw [RVL.length h2, RVL.length h4]; exact small_le hs
      · intro z; subst z
        have : as = [] := by
          have := RVL.length h2
          exact List.eq_nil_of_length_eq_zero this.symm
        subst this
        exact q _ H (Same.refl H) (rv_tup.mpr ⟨b, ys, rfl, h3, h4⟩)
      · intro _ z; subst z
        have : bs = [] := List.eq_nil_of_length_eq_zero (RVL.length h4).symm
        subst this
        exact q _ H (Same.refl H) (rv_tup.mpr ⟨a, xs, rfl, h1, by simpa using h2⟩)
      · intro _ _ p hp
        have s : Same H (upd H p (.tup (xs ++ ys))) := fun c o z => by rw [upd_ne (ne_of_none z hp)]; exact z
        exact q _ _ s (rv_tup.mpr ⟨p, _, rfl, upd_same, RVL.mono s (RVL.app h2 h4)⟩)
    · cases e
  · cases e
/-- list + list: a new one -/
def gCatF : Sto → D → D → Option (List D) := fun S x y => (lstD S x).bind fun a => (lstD S y).bind fun b => if small (a.length + b.length) then some (a ++ b) else none
theorem od_catF {K : PySem.W.Frag} : OpF K rCat gCatF := by
  intro Z μ H S x y ds v u Q W rx ry e q
  simp only [gCatF, Option.bind_eq_some_iff] at e
  obtain ⟨as, e1, bs, e2, e⟩ := e
  split at e
  · rename_i hs
    cases e
    obtain ⟨a, xs, rfl, h1, h2⟩ := lst_of W rx e1
    obtain ⟨b, ys, rfl, h3, h4⟩ := lst_of W ry e2
    refine ⟨a, b, xs, ys, rfl, rfl, h1, h3, ?_, fun p hp => ?_⟩
    · rw [RVL.length h2, RVL.length h4]; exact small_le hs
    · have s : Same H (upd H p (.lst (xs ++ ys))) := fun c o z => by rw [upd_ne (ne_of_none z hp)]; exact z
      exact q p _ _ hp s upd_same (RVL.newO s hp (RVL.app h2 h4))
  · cases e
def gI (C : Int → Int → Bool) (f : Int → Int → Int) : Sto → D → D → Option D := fun _ x y => match x, y with
  | .int i, .int j => if C i j then some (.int (f i j)) else none
  | _, _ => none
theorem od_I {K : PySem.W.Frag} {C : Int → Int → Prop} {c : Int → Int → Bool} {f : Int → Int → Int} (h : ∀ i j, c i j = true → C i j) : OpD K (rI C fun i j => .int (f i j)) (gI c f) := by
  intro Z μ H S x y d v u Q W rx ry e q
  unfold gI at e
  split at e
  · rename_i i j
    split at e
    · rename_i hc
      cases e
      exact ⟨i, j, rv_int.mp rx, rv_int.mp ry, h i j hc, q _ H (Same.refl H) (rv_int.mpr rfl)⟩
    · cases e
  · cases e
def gSub : Sto → D → D → Option D := fun _ x y => match x, y with
  | .int i, .int j => some (.int (i - j))
  | _, _ => none
theorem od_sub {K : PySem.W.Frag} : OpD K (rI0 fun i j => .int (i - j)) gSub := by
  intro Z μ H S x y d v u Q W rx ry e q
  unfold gSub at e
  split at e
  · rename_i i j
    cases e
    exact ⟨i, j, rv_int.mp rx, rv_int.mp ry, q _ H (Same.refl H) (rv_int.mpr rfl)⟩
  · cases e
def cMul (i j : Int) : Bool := Nat.blt i.natAbs 18446744073709551616 || Nat.blt j.natAbs 18446744073709551616
theorem cMul_ok {i j : Int} (h : cMul i j = true) : CMul i j := by
  unfold cMul at h
  rw [Bool.or_eq_true] at h
  rcases h with h | h
  · have h' : i.natAbs < 18446744073709551616 := Nat.le_of_ble_eq_true h
    exact .inl (by omega)
  · have h' : j.natAbs < 18446744073709551616 := Nat.le_of_ble_eq_true h
    exact .inr (by omega)
abbrev gMul := gI cMul fun i j => i * j
theorem od_mul {K : PySem.W.Frag} : OpD K (rI CMul fun i j => .int (i * j)) gMul := od_I fun _ _ h => cMul_ok h
abbrev gMod := gI (fun _ j => decide (0 < j)) fun i j => i % j
theorem od_mod {K : PySem.W.Frag} : OpD K (rI (fun _ j => 0 < j) fun i j => .int (i % j)) gMod := od_I fun _ _ h => of_decide_eq_true h
abbrev gDiv := gI (fun _ j => decide (0 < j) && decide (j < 1073741824)) fun i j => i / j
theorem od_div {K : PySem.W.Frag} : OpD K (rI CDiv fun i j => .int (i / j)) gDiv := od_I fun _ _ h => by
  simp only [Bool.and_eq_true, decide_eq_true_eq] at h
  exact h
def gCmp (p : Int → Int → Bool) : Sto → D → D → Option D := fun _ x y => match x, y with
  | .int i, .int j => some (.bl (p i j))
  | _, _ => none
theorem od_cmp {K : PySem.W.Frag} {p : Int → Int → Bool} : OpD K (rI0 fun i j => .bl (p i j)) (gCmp p) := by
  intro Z μ H S x y d v u Q W rx ry e q
  unfold gCmp at e
  split at e
  · rename_i i j
    cases e
    exact ⟨i, j, rv_int.mp rx, rv_int.mp ry, q _ H (Same.refl H) (rv_bl.mpr rfl)⟩
  · cases e
abbrev gLt := gCmp fun i j => decide (i < j)
abbrev gLe := gCmp fun i j => decide (i ≤ j)
abbrev gGt := gCmp fun i j => decide (j < i)
abbrev gGe := gCmp fun i j => decide (j ≤ i)
/-- == of data -/
def fo (S : Sto) (d : D) : Option D := if okD 60 d then some d else (fz S d).bind fun d' => if okD 60 d' then some d' else none
theorem fo_of {K : PySem.W.Frag} {Z : Fr} {μ : List Addr} {H : Hp} {S : Sto} {d d' : D} {v : V} (W : Wd K Z μ H S) (r : RVz K Z μ H d v) (h : fo S d = some d') : okD 60 d' = true ∧ Dp K H v (toP d') := by
  unfold fo at h
  split at h
  · rename_i o
    cases h
    exact ⟨o, dp_of _ _ _ o r⟩
  · rw [Option.bind_eq_some_iff] at h
    obtain ⟨e, e1, h⟩ := h
    split at h
    · rename_i o
      cases h
      exact ⟨o, dp_of _ _ _ o (RV.fz W e1 r)⟩
    · cases h
def gEq : Sto → D → D → Option D := fun S x y => (fo S x).bind fun x' => (fo S y).bind fun y' => some (.bl (eqD x' y'))
def gNe : Sto → D → D → Option D := fun S x y => (fo S x).bind fun x' => (fo S y).bind fun y' => some (.bl (!eqD x' y'))
theorem od_eq {K : PySem.W.Frag} : OpD K (rEqD K) gEq := by
  intro Z μ H S x y d v u Q W rx ry e q
  simp only [gEq, Option.bind_eq_some_iff, Option.some.injEq] at e
  obtain ⟨x', e1, y', e2, rfl⟩ := e
  obtain ⟨o1, d1⟩ := fo_of W rx e1
  obtain ⟨o2, d2⟩ := fo_of W ry e2
  refine ⟨_, _, d1, d2, okD_shaped o1 (by decide), okD_shaped o2 (by decide), ?_⟩
  rw [eqv_eqD _ _ _ _ o1 o2]
  exact q _ H (Same.refl H) (rv_bl.mpr rfl)
theorem od_ne {K : PySem.W.Frag} : OpD K (rNeD K) gNe := by
  intro Z μ H S x y d v u Q W rx ry e q
  simp only [gNe, Option.bind_eq_some_iff, Option.some.injEq] at e
  obtain ⟨x', e1, y', e2, rfl⟩ := e
  obtain ⟨o1, d1⟩ := fo_of W rx e1
  obtain ⟨o2, d2⟩ := fo_of W ry e2
  refine ⟨_, _, d1, d2, okD_shaped o1 (by decide), okD_shaped o2 (by decide), ?_⟩
  rw [eqv_eqD _ _ _ _ o1 o2]
  exact q _ H (Same.refl H) (rv_bl.mpr rfl)
/-- x in xs: a list, a tuple -/
def rInQ (K : PySem.W.Frag) (neg : Bool) : R2 := fun x y H Q => ∃ d ds, Dp K H x d ∧ (Dp K H y (.list ds) ∨ Dp K H y (.tuple ds)) ∧ SeqAt.shaped d = true ∧ SeqAt.shaped (.list ds) = true ∧ Q (.bl (if neg then !(ds.any fun z => PyData.eqv z d) else ds.any fun z => PyData.eqv z d)) H
theorem op_inQ (hu : X.A.units + 65 < cLine) : OpR X (compareOp .In) (rInQ X.K false) := by
  intro pins s σ H x y v u Q I rx ry h
  obtain ⟨d, ds, hd, he, sd, se, q⟩ := h
  obtain ⟨as, r1⟩ := Dp.reads I d x v hd rx
  have hl : PyData.canLayAll0 ds = true := SeqAt.canLay_of_shaped se
  rcases he with he | he
  · obtain ⟨bs, r2⟩ := Dp.reads I (.list ds) y u he ry
    exact SeqAt.in_list_reads r2 r1 hl (SeqAt.canLay_of_shaped sd) (PyProof.Rows.room_in_shaped sd hu) ⟨.bl _, H, I, rfl, q⟩
  · obtain ⟨bs, r2⟩ := Dp.reads I (.tuple ds) y u he ry
    exact SeqAt.in_tuple_reads r2 r1 hl (SeqAt.canLay_of_shaped sd) (PyProof.Rows.room_in_shaped sd hu) ⟨.bl _, H, I, rfl, q⟩
theorem op_ninQ (hu : X.A.units + 65 < cLine) : OpR X (compareOp .NotIn) (rInQ X.K true) := by
  intro pins s σ H x y v u Q I rx ry h
  obtain ⟨d, ds, hd, he, sd, se, q⟩ := h
  obtain ⟨as, r1⟩ := Dp.reads I d x v hd rx
  have hl : PyData.canLayAll0 ds = true := SeqAt.canLay_of_shaped se
  rcases he with he | he
  · obtain ⟨bs, r2⟩ := Dp.reads I (.list ds) y u he ry
    exact SeqAt.notIn_list_reads r2 r1 hl (SeqAt.canLay_of_shaped sd) (PyProof.Rows.room_in_shaped sd hu) ⟨.bl _, H, I, rfl, q⟩
  · obtain ⟨bs, r2⟩ := Dp.reads I (.tuple ds) y u he ry
    exact SeqAt.notIn_tuple_reads r2 r1 hl (SeqAt.canLay_of_shaped sd) (PyProof.Rows.room_in_shaped sd hu) ⟨.bl _, H, I, rfl, q⟩
def inD (x : D) (ys : List D) : Bool := ys.any fun y => eqD y x
def gInS (neg : Bool) : Sto → D → D → Option D := fun S x y => (fo S x).bind fun x' => (fo S y).bind fun y' => match y' with
  | .lst ds => some (.bl (if neg then !inD x' ds else inD x' ds))
  | .tup ds => some (.bl (if neg then !inD x' ds else inD x' ds))
  | _ => none
theorem any_eqv {n m : Nat} {x : D} (hx : okD m x = true) : ∀ {ds : List D}, okDs n ds = true → ((toPs ds).any fun z => PyData.eqv z (toP x)) = inD x ds
  | [], _ => by simp [toPs, inD]
  | d :: ds, h => by
    simp only [okDs, Bool.and_eq_true] at h
    simp only [toPs, List.any_cons, inD, eqv_eqD n m d x h.1 hx]
    have q := any_eqv hx h.2
    unfold inD at q
    rw [q]
theorem od_in {K : PySem.W.Frag} {neg : Bool} : OpD K (rInQ K neg) (gInS neg) := by
  intro Z μ H S x y d v u Q W rx ry e q
  simp only [gInS, Option.bind_eq_some_iff] at e
  obtain ⟨x', e1, y', e2, e⟩ := e
  obtain ⟨o1, d1⟩ := fo_of W rx e1
  obtain ⟨o2, d2⟩ := fo_of W ry e2
  cases y' with
  | lst ds =>
    simp only [Option.some.injEq] at e
    subst e
    simp only [toP] at d2
    have o3 : okDs 59 ds = true := by simpa only [okD] using o2
    refine ⟨_, _, d1, .inl d2, okD_shaped o1 (by decide), by simpa only [toP] using okD_shaped o2 (by decide), ?_⟩
    rw [any_eqv o1 o3]
    exact q _ H (Same.refl H) (rv_bl.mpr rfl)
  | tup ds =>
    simp only [Option.some.injEq] at e
    subst e
    simp only [toP] at d2
    have o3 : okDs 59 ds = true := by simpa only [okD] using o2
    refine ⟨_, _, d1, .inr d2, okD_shaped o1 (by decide), ?_, ?_⟩
    · have := okD_shaped (n := 60) (d := .lst ds) (by simpa only [okD] using o3) (by decide)
      simpa only [toP] using this
    · rw [any_eqv o1 o3]
      exact q _ H (Same.refl H) (rv_bl.mpr rfl)
  | _ => simp at e
def gIsN (neg : Bool) : Sto → D → D → Option D := fun _ x y => match y with
  | .non => some (.bl (match x with | .non => !neg | _ => neg))
  | _ => none
theorem rv_isnon {K : PySem.W.Frag} {av : Addr → Prop} {μ : List Addr} {H : Hp} {x : D} {v : V} (r : RV K av μ H x v) : decide (v = .non) = (match x with | .non => true | _ => false) := by
  cases x with
  | non => rw [rv_non] at r; subst r; rfl
  | bl _ => rw [rv_bl] at r; subst r; rfl
  | int _ => rw [rv_int] at r; subst r; rfl
  | str _ => rw [rv_str] at r; subst r; rfl
  | ty _ => rw [rv_ty] at r; subst r; rfl
  | tup _ => obtain ⟨a, xs, rfl, _⟩ := rv_tup.mp r; rfl
  | lst _ => obtain ⟨a, xs, rfl, _⟩ := rv_lst.mp r; rfl
  | dic _ _ _ => obtain ⟨a, rfl, _⟩ := rv_dic.mp r; rfl
  | ins _ _ _ => obtain ⟨a, C, dx, fvs, rfl, _⟩ := rv_ins.mp r; rfl
  | scr _ => obtain ⟨a, rfl, _⟩ := rv_scr.mp r; rfl
  | ref _ => obtain ⟨a, rfl, _⟩ := rv_ref.mp r; rfl
theorem od_isN {K : PySem.W.Frag} : OpD K (fun x y H Q => y = .non ∧ Q (.bl (decide (x = .non))) H) (gIsN false) := by
  intro Z μ H S x y d v u Q W rx ry e q
  unfold gIsN at e
  split at e
  · cases e
    refine ⟨rv_non.mp ry, ?_⟩
    rw [rv_isnon rx]
    refine q _ H (Same.refl H) ?_
    cases x <;> exact rv_bl.mpr rfl
  · cases e
theorem od_notN {K : PySem.W.Frag} : OpD K (fun x y H Q => y = .non ∧ Q (.bl (!decide (x = .non))) H) (gIsN true) := by
  intro Z μ H S x y d v u Q W rx ry e q
  unfold gIsN at e
  split at e
  · cases e
    refine ⟨rv_non.mp ry, ?_⟩
    rw [rv_isnon rx]
    refine q _ H (Same.refl H) ?_
    cases x <;> exact rv_bl.mpr rfl
  · cases e
def gNeg : Sto → D → Option D := fun _ x => match x with | .int i => some (.int (-i)) | _ => none
theorem ud_neg {K : PySem.W.Frag} : UnD K (rU fun i => .int (-i)) gNeg := by
  intro Z μ H S x d v Q W rx e q
  unfold gNeg at e
  split at e
  · rename_i i
    cases e
    exact ⟨i, rv_int.mp rx, q _ H (Same.refl H) (rv_int.mpr rfl)⟩
  · cases e
end
end DL

set_option maxHeartbeats 4000000
namespace DL
open PySem PySem.Spec L2

section
variable {X : Cx} {a b c e : Expr} {es rest : List Expr} {pos : Pos} {fa fb fc : E}

/-! ### a < b < c -/
def e3c (g g' : Sto → D → D → Option D) (a b c : E) : E := fun ρ S => (a ρ S).bind fun x => (b ρ S).bind fun y => (g S x y).bind fun z => match z with
  | .bl true => (c ρ S).bind fun w => g' S y w
  | .bl false => some (.bl false)
  | _ => none
theorem tChain_of {K : PySem.W.Frag} {r r' : R2} {g g' : Sto → D → D → Option D} (hd : OpD K r g) (hd' : OpD K r' g') {σ : L2.St} {H : Hp} {Q : VK} (h : tD K (e3c g g' fa fb fc) σ H Q) : tChain r r' (tD K fa) (tD K fb) (tD K fc) σ H Q := by
  obtain ⟨Z, μ, ρ, S, R, d, e, q⟩ := h
  simp only [e3c, Option.bind_eq_some_iff] at e
  obtain ⟨x, ex, y, ey, z, ez, e⟩ := e
  refine ⟨Z, μ, ρ, S, R, x, ex, fun v H1 s1 r1 => ⟨Z, μ, ρ, S, R.mono s1, y, ey, fun u H2 s2 r2 => ?_⟩⟩
  have W2 := (R.wd.mono s1).mono s2
  refine hd Z μ H2 S x y z v u _ W2 (RV.mono s2 r1) r2 ez fun w H3 s3 r3 => ?_
  cases z with
  | bl k =>
    refine ⟨k, rv_bl.mp r3, ?_⟩
    cases k with
    | true =>
      simp only [Option.bind_eq_some_iff] at e
      obtain ⟨t, et, e⟩ := e
      rw [if_pos rfl]
      refine ⟨Z, μ, ρ, S, ((R.mono s1).mono s2).mono s3, t, et, fun w' H4 s4 r4 => ?_⟩
      exact hd' Z μ H4 S y t d u w' Q ((W2.mono s3).mono s4) (RV.mono s4 (RV.mono s3 r2)) r4 e fun w2 H5 s5 r5 => q w2 H5 (s1.trans (s2.trans (s3.trans (s4.trans s5)))) r5
    | false =>
      simp only [Option.some.injEq] at e
      subst e
      rw [if_neg Bool.false_ne_true]
      exact q _ H3 (s1.trans (s2.trans s3)) (rv_bl.mpr rfl)
  | _ => simp at e
theorem d_chain {op op' : CmpOp} {r r' : R2} {g g' : Sto → D → D → Option D} (ho : OpR X (compareOp op) r) (ho' : OpR X (compareOp op') r') (hd : OpD X.K r g) (hd' : OpD X.K r' g') (ha : PE X a (tD X.K fa)) (hb : PE X b (tD X.K fb)) (hc : PE X c (tD X.K fc))
    (hm : lastMarks [op, op'] [b, c] = false := by with_unfolding_all rfl) : PE X (.Compare a [op, op'] [b, c] pos) (tD X.K (e3c g g' fa fb fc)) :=
  pe_imp (pe_chain ho ho' ha hb hc hm) fun _ _ _ h => tChain_of hd hd' h
theorem tB_of {K : PySem.W.Frag} {f : E} {t : TE} (i : ∀ σ H Q, tD K f σ H Q → t σ H Q) {σ : L2.St} {H : Hp} {Q : Bool → Hp → Prop} (h : tT K (eB f) σ H Q) : tTest t σ H Q := by
  obtain ⟨Z, μ, ρ, S, R, k, e, q⟩ := h
  simp only [eB, Option.bind_eq_some_iff] at e
  obtain ⟨d, e1, e2⟩ := e
  refine i _ _ _ ⟨Z, μ, ρ, S, R, d, e1, fun v H' s r => ?_⟩
  cases d <;> simp at e2
  subst e2
  exact ⟨_, rv_bl.mp r, q H' s⟩
theorem dt_chain {op op' : CmpOp} {r r' : R2} {g g' : Sto → D → D → Option D} (ho : OpR X (compareOp op) r) (ho' : OpR X (compareOp op') r') (hd : OpD X.K r g) (hd' : OpD X.K r' g') (ha : PE X a (tD X.K fa)) (hb : PE X b (tD X.K fb)) (hc : PE X c (tD X.K fc))
    (hm : lastMarks [op, op'] [b, c] = false := by with_unfolding_all rfl) : PT X (.Compare a [op, op'] [b, c] pos) (tT X.K (eB (e3c g g' fa fb fc))) :=
  pt_imp (pt_chain ho ho' ha hb hc hm) fun _ _ _ h => tB_of (fun _ _ _ h => tChain_of hd hd' h) h

/-! ### truth -/
def truD (S : Sto) : D → Option Bool
  | .non => some false
  | .bl b => some b
  | .int i => some (i != 0)
  | .str s => if s.length ≤ sizeLine then some ((s.length : Int) != 0) else none
  | .dic false ks _ => some (!ks.isEmpty)
  | d => (seqD S d).map fun ds => !ds.isEmpty
def eTru (f : E) : EB := fun ρ S => (f ρ S).bind fun d => truD S d
theorem rvl_empty {K : PySem.W.Frag} {av : Addr → Prop} {μ : List Addr} {H : Hp} {ds : List D} {xs : List V} (h : RVL K av μ H ds xs) : xs.isEmpty = ds.isEmpty := by
  cases ds with
  | nil => rw [rvl_nil.mp h]; rfl
  | cons d ds => obtain ⟨y, ys, rfl, _⟩ := rvl_cons.mp h; rfl
theorem tru_of {K : PySem.W.Frag} {Z : Fr} {μ : List Addr} {H : Hp} {S : Sto} {d : D} {v : V} {k : Bool} (W : Wd K Z μ H S) (r : RVz K Z μ H d v) (h : truD S d = some k) : TruV K v H k := by
  have sq : ∀ {ds : List D}, seqD S d = some ds → k = !ds.isEmpty → TruV K v H k := by
    intro ds h1 h2
    obtain ⟨a, xs, rfl, hs, hr⟩ := seq_of W r h1
    rcases hs with hs | hs
    · exact .inl ⟨xs, hs, by rw [rvl_empty hr]; exact h2⟩
    · exact .inr (.inl ⟨xs, hs, by rw [rvl_empty hr]; exact h2⟩)
  cases d with
  | non => rw [rv_non.mp r]; simp only [truD, Option.some.injEq] at h; exact h.symm
  | bl _ => rw [rv_bl.mp r]; simp only [truD, Option.some.injEq] at h; exact h.symm
  | int _ => rw [rv_int.mp r]; simp only [truD, Option.some.injEq] at h; exact h.symm
  | str s =>
    rw [rv_str.mp r]
    simp only [truD] at h
    split at h
    · rename_i hs
      simp only [Option.some.injEq] at h
      exact ⟨hs, h.symm⟩
    · cases h
  | ty _ => simp [truD, seqD] at h
  | ins _ _ _ => simp [truD, seqD] at h
  | tup ds => simp only [truD, seqD, Option.map_some, Option.some.injEq] at h; exact sq rfl h.symm
  | lst ds => simp only [truD, seqD, Option.map_some, Option.some.injEq] at h; exact sq rfl h.symm
  | scr ns => simp only [truD, seqD, Option.map_some, Option.some.injEq] at h; exact sq rfl h.symm
  | ref n =>
    simp only [truD, Option.map_eq_some_iff] at h
    obtain ⟨ds, h1, h2⟩ := h
    exact sq h1 h2.symm
  | dic t ks vs =>
    cases t with
    | true => simp [truD, seqD] at h
    | false =>
      simp only [truD, Option.some.injEq] at h
      obtain ⟨a, rfl, _, hh⟩ := rv_dic.mp r
      rcases hh with ⟨_, kvs, h1, h2, _⟩ | ⟨z, _⟩
      · refine .inr (.inr ⟨kvs, h1, ?_⟩)
        rw [← h, h2]
        cases kvs <;> rfl
      · cases z
theorem dt_truth (ha : PE X a (tD X.K fa)) (he : ∀ whole, isTrue a X.env whole = (do let v ← whole; standAt a.pos; holding [v] (truthy v)) := by intro _; rfl) : PT X a (tT X.K (eTru fa)) :=
  pt_imp (pt_truth ha he) fun σ H Q ⟨Z, μ, ρ, S, R, k, e, q⟩ => by
    simp only [eTru, Option.bind_eq_some_iff] at e
    obtain ⟨d, e1, e2⟩ := e
    exact ⟨Z, μ, ρ, S, R, d, e1, fun v H' s r => ⟨k, tru_of (R.wd.mono s) r e2, q H' s⟩⟩
def bAnd (t u : EB) : EB := fun ρ S => (t ρ S).bind fun c => if c then u ρ S else some false
def bOr (t u : EB) : EB := fun ρ S => (t ρ S).bind fun c => if c then some true else u ρ S
def bNot (t : EB) : EB := fun ρ S => (t ρ S).map fun c => !c
variable {ta tb : EB}
theorem dw_one {op : BoolOp} (h : PT X a (tT X.K ta)) : PW X (.BoolOp op [a] pos) (tT X.K ta) := by
  cases op
  · exact pw_and1 h
  · exact pw_or1 h
theorem dw_and (ha : PT X a (tT X.K ta)) (hb : PW X (.BoolOp .And (b :: rest) pos) (tT X.K tb)) : PW X (.BoolOp .And (a :: b :: rest) pos) (tT X.K (bAnd ta tb)) :=
  pw_imp (pw_and ha hb) fun σ H Q ⟨Z, μ, ρ, S, R, k, e, q⟩ => by
    simp only [bAnd, Option.bind_eq_some_iff] at e
    obtain ⟨c, e1, e2⟩ := e
    refine ⟨Z, μ, ρ, S, R, c, e1, fun H' s => ?_⟩
    cases c with
    | true =>
      rw [if_pos rfl] at e2 ⊢
      exact ⟨Z, μ, ρ, S, R.mono s, k, e2, fun H2 s2 => q H2 (s.trans s2)⟩
    | false =>
      rw [if_neg Bool.false_ne_true] at e2 ⊢
      cases e2
      exact q H' s
theorem dw_or (ha : PT X a (tT X.K ta)) (hb : PW X (.BoolOp .Or (b :: rest) pos) (tT X.K tb)) : PW X (.BoolOp .Or (a :: b :: rest) pos) (tT X.K (bOr ta tb)) :=
  pw_imp (pw_or ha hb) fun σ H Q ⟨Z, μ, ρ, S, R, k, e, q⟩ => by
    simp only [bOr, Option.bind_eq_some_iff] at e
    obtain ⟨c, e1, e2⟩ := e
    refine ⟨Z, μ, ρ, S, R, c, e1, fun H' s => ?_⟩
    cases c with
    | true =>
      rw [if_pos rfl] at e2 ⊢
      cases e2
      exact q H' s
    | false =>
      rw [if_neg Bool.false_ne_true] at e2 ⊢
      exact ⟨Z, μ, ρ, S, R.mono s, k, e2, fun H2 s2 => q H2 (s.trans s2)⟩
theorem dt_bool (h : PW X a (tT X.K ta)) : PT X a (tT X.K ta) := h.pt
theorem dt_not (ha : PT X a (tT X.K ta)) : PT X (.UnaryOp .Not a pos) (tT X.K (bNot ta)) :=
  pt_imp (pt_not ha) fun σ H Q ⟨Z, μ, ρ, S, R, k, e, q⟩ => by
    simp only [bNot, Option.map_eq_some_iff] at e
    obtain ⟨c, e1, rfl⟩ := e
    exact ⟨Z, μ, ρ, S, R, c, e1, fun H' s => q H' s⟩
/-- and, or, not as values: all but the last flags -/
def eAnd (f g : E) : E := fun ρ S => (f ρ S).bind fun d => match d with | .bl true => g ρ S | .bl false => some (.bl false) | _ => none
def eOr (f g : E) : E := fun ρ S => (f ρ S).bind fun d => match d with | .bl true => some (.bl true) | .bl false => g ρ S | _ => none
def eNot (f : E) : E := fun ρ S => (f ρ S).bind fun d => match d with | .bl b => some (.bl (!b)) | _ => none
theorem d_one {op : BoolOp} (h : PE X a (tD X.K fa)) : PE X (.BoolOp op [a] pos) (tD X.K fa) := pe_one h
theorem d_and (ha : PE X a (tD X.K fa)) (hb : PE X (.BoolOp .And (b :: rest) pos) (tD X.K fb)) : PE X (.BoolOp .And (a :: b :: rest) pos) (tD X.K (eAnd fa fb)) :=
  pe_imp (pe_and ha hb) fun σ H Q ⟨Z, μ, ρ, S, R, d, e, q⟩ => by
    simp only [eAnd, Option.bind_eq_some_iff] at e
    obtain ⟨c, e1, e2⟩ := e
    refine ⟨Z, μ, ρ, S, R, c, e1, fun v H' s r => ?_⟩
    cases c with
    | bl k =>
      refine ⟨k, rv_bl.mp r, ?_⟩
      cases k with
      | true => rw [if_pos rfl]; exact ⟨Z, μ, ρ, S, R.mono s, d, e2, fun w H2 s2 r2 => q w H2 (s.trans s2) r2⟩
      | false =>
        rw [if_neg Bool.false_ne_true]
        simp only [Option.some.injEq] at e2
        subst e2
        exact q _ H' s (rv_bl.mpr rfl)
    | _ => simp at e2
theorem d_or (ha : PE X a (tD X.K fa)) (hb : PE X (.BoolOp .Or (b :: rest) pos) (tD X.K fb)) : PE X (.BoolOp .Or (a :: b :: rest) pos) (tD X.K (eOr fa fb)) :=
  pe_imp (pe_or ha hb) fun σ H Q ⟨Z, μ, ρ, S, R, d, e, q⟩ => by
    simp only [eOr, Option.bind_eq_some_iff] at e
    obtain ⟨c, e1, e2⟩ := e
    refine ⟨Z, μ, ρ, S, R, c, e1, fun v H' s r => ?_⟩
    cases c with
    | bl k =>
      refine ⟨k, rv_bl.mp r, ?_⟩
      cases k with
      | true =>
        rw [if_pos rfl]
        simp only [Option.some.injEq] at e2
        subst e2
        exact q _ H' s (rv_bl.mpr rfl)
      | false => rw [if_neg Bool.false_ne_true]; exact ⟨Z, μ, ρ, S, R.mono s, d, e2, fun w H2 s2 r2 => q w H2 (s.trans s2) r2⟩
    | _ => simp at e2
theorem d_not (ha : PE X a (tD X.K fa)) : PE X (.UnaryOp .Not a pos) (tD X.K (eNot fa)) :=
  pe_imp (pe_not ha) fun σ H Q ⟨Z, μ, ρ, S, R, d, e, q⟩ => by
    simp only [eNot, Option.bind_eq_some_iff] at e
    obtain ⟨c, e1, e2⟩ := e
    refine ⟨Z, μ, ρ, S, R, c, e1, fun v H' s r => ?_⟩
    cases c with
    | bl k =>
      simp only [Option.some.injEq] at e2
      subst e2
      exact ⟨k, rv_bl.mp r, q _ H' s (rv_bl.mpr rfl)⟩
    | _ => simp at e2
def eIf (t : EB) (f g : E) : E := fun ρ S => (t ρ S).bind fun c => if c then f ρ S else g ρ S
def fIf (t : EB) (f g : EL) : EL := fun ρ S => (t ρ S).bind fun c => if c then f ρ S else g ρ S
theorem d_if {t : EB} (hc : PT X c (tT X.K t)) (ha : PE X a (tD X.K fa)) (hb : PE X b (tD X.K fb)) : PE X (.IfExp c a b pos) (tD X.K (eIf t fa fb)) :=
  pe_imp (pe_ifExp hc ha hb) fun σ H Q ⟨Z, μ, ρ, S, R, d, e, q⟩ => by
    simp only [eIf, Option.bind_eq_some_iff] at e
    obtain ⟨k, e1, e2⟩ := e
    refine ⟨Z, μ, ρ, S, R, k, e1, fun H' s => ?_⟩
    cases k with
    | true => rw [if_pos rfl] at e2 ⊢; exact ⟨Z, μ, ρ, S, R.mono s, d, e2, fun w H2 s2 r2 => q w H2 (s.trans s2) r2⟩
    | false => rw [if_neg Bool.false_ne_true] at e2 ⊢; exact ⟨Z, μ, ρ, S, R.mono s, d, e2, fun w H2 s2 r2 => q w H2 (s.trans s2) r2⟩
theorem tF_step {K : PySem.W.Frag} {f : EL} {Z : Fr} {μ : List Addr} {ρ : Rho} {S : Sto} {σ : L2.St} {H H1 : Hp} {Q : VK} {ds : List D} (R : Rel K Z μ σ H ρ S) (s : Same H H1) (e : f ρ S = some ds)
    (q : ∀ a xs H', H a = none → Same H H' → H' a = some (.lst xs) → RVL K (avO Z μ a) μ H' ds xs → Q (.ref a) H') : tF K f σ H1 Q :=
  ⟨Z, μ, ρ, S, R.mono s, ds, e, fun a xs H' n s2 h1 h2 => q a xs H' (s.free n) (s.trans s2) h1 h2⟩
theorem d_ifF {t : EB} {fa fb : EL} (hc : PT X c (tT X.K t)) (ha : PE X a (tF X.K fa)) (hb : PE X b (tF X.K fb)) : PE X (.IfExp c a b pos) (tF X.K (fIf t fa fb)) :=
  pe_imp (pe_ifExp hc ha hb) fun σ H Q ⟨Z, μ, ρ, S, R, d, e, q⟩ => by
    simp only [fIf, Option.bind_eq_some_iff] at e
    obtain ⟨k, e1, e2⟩ := e
    refine ⟨Z, μ, ρ, S, R, k, e1, fun H' s => ?_⟩
    cases k with
    | true => rw [if_pos rfl] at e2 ⊢; exact tF_step R s e2 q
    | false => rw [if_neg Bool.false_ne_true] at e2 ⊢; exact tF_step R s e2 q

/-! ### rows of expressions, displays -/
def aNil : EL := fun _ _ => some []
def aCons (f : E) (fs : EL) : EL := fun ρ S => (f ρ S).bind fun d => (fs ρ S).map fun ds => d :: ds
theorem da_nil : PA X [] (tA X.K aNil) := pa_imp pa_nil fun σ H Q ⟨Z, μ, ρ, S, R, ds, e, q⟩ => by
  simp only [aNil, Option.some.injEq] at e
  subst e
  exact q [] H (Same.refl H) RVL.nil'
theorem da_cons {fs : EL} (ha : PE X a (tD X.K fa)) (hr : PA X es (tA X.K fs)) (hs : starEach (a :: es) X.env = (false, eval a X.env) :: starEach es X.env := by rfl) : PA X (a :: es) (tA X.K (aCons fa fs)) :=
  pa_imp (pa_cons ha hr hs) fun σ H Q ⟨Z, μ, ρ, S, R, ds, e, q⟩ => by
    simp only [aCons, Option.bind_eq_some_iff, Option.map_eq_some_iff] at e
    obtain ⟨d, e1, ds', e2, rfl⟩ := e
    refine ⟨Z, μ, ρ, S, R, d, e1, fun v H1 s1 r1 => ⟨Z, μ, ρ, S, R.mono s1, ds', e2, fun vs H2 s2 r2 => ?_⟩⟩
    exact q _ H2 (s1.trans s2) (RVL.cons' (RV.mono s2 r1) r2)
def eTup (fs : EL) : E := fun ρ S => (fs ρ S).bind fun ds => if small ds.length then some (.tup ds) else none
def fLst (fs : EL) : EL := fun ρ S => (fs ρ S).bind fun ds => if small ds.length then some ds else none
theorem d_tup {fs : EL} {k : Nat} (h : PA X es (tA X.K fs)) : PE X (.Tuple es k pos) (tD X.K (eTup fs)) :=
  pe_imp (pe_tup h) fun σ H Q ⟨Z, μ, ρ, S, R, d, e, q⟩ => by
    simp only [eTup, Option.bind_eq_some_iff] at e
    obtain ⟨ds, e1, e2⟩ := e
    split at e2
    · rename_i hs
      cases e2
      refine ⟨Z, μ, ρ, S, R, ds, e1, fun vs H1 s1 r1 => ⟨by rw [RVL.length r1]; exact small_le hs, fun p hp => ?_⟩⟩
      have s : Same H1 (upd H1 p (.tup vs)) := fun c o z => by rw [upd_ne (ne_of_none z hp)]; exact z
      exact q _ _ (s1.trans s) (rv_tup.mpr ⟨p, vs, rfl, upd_same, RVL.mono s r1⟩)
    · cases e2
theorem d_lst {fs : EL} (h : PA X es (tA X.K fs)) : PE X (.List es pos) (tF X.K (fLst fs)) :=
  pe_imp (pe_lst h) fun σ H Q ⟨Z, μ, ρ, S, R, d, e, q⟩ => by
    simp only [fLst, Option.bind_eq_some_iff] at e
    obtain ⟨ds, e1, e2⟩ := e
    split at e2
    · rename_i hs
      simp only [Option.some.injEq] at e2
      subst e2
      refine ⟨Z, μ, ρ, S, R, ds, e1, fun vs H1 s1 r1 => ⟨by rw [RVL.length r1]; exact small_le hs, fun p hp => ?_⟩⟩
      have s : Same H1 (upd H1 p (.lst vs)) := fun c o z => by rw [upd_ne (ne_of_none z hp)]; exact z
      exact q p _ _ (s1.free hp) (s1.trans s) upd_same (RVL.newO s hp r1)
    · cases e2

/-! ### places, slices -/
def ixD (ds : List D) (i : Int) : Option D := atI ds i
def gIx : Sto → D → D → Option D := fun S x y => (seqD S x).bind fun ds => match y with
  | .int i => ixD ds i
  | _ => none
theorem rvl_at {K : PySem.W.Frag} {av : Addr → Prop} {μ : List Addr} {H : Hp} {ds : List D} {xs : List V} {i : Int} {d : D} (h : RVL K av μ H ds xs) (e : atI ds i = some d) : ∃ v, atI xs i = some v ∧ RV K av μ H d v := by
  unfold atI at e ⊢
  rw [RVL.length h]
  rw [Option.bind_eq_some_iff] at e
  obtain ⟨j, e1, e2⟩ := e
  obtain ⟨v, h1, h2⟩ := RVL.get h e2
  exact ⟨v, by rw [e1]; exact h1, h2⟩
theorem od_ix {K : PySem.W.Frag} : OpD K (rIx K) gIx := by
  intro Z μ H S x y d v u Q W rx ry e q
  simp only [gIx, Option.bind_eq_some_iff] at e
  obtain ⟨ds, e1, e2⟩ := e
  obtain ⟨a, xs, rfl, hs, hr⟩ := seq_of W rx e1
  cases y with
  | int i =>
    obtain ⟨w, h1, h2⟩ := rvl_at hr e2
    rw [rv_int.mp ry]
    rcases hs with hs | hs
    · exact .inl ⟨a, xs, i, w, rfl, rfl, hs, h1, q w H (Same.refl H) h2⟩
    · exact .inr (.inl ⟨a, xs, i, w, rfl, rfl, hs, h1, q w H (Same.refl H) h2⟩)
  | _ => simp at e2
theorem d_ix (ha : PE X a (tD X.K fa)) (hb : PE X b (tD X.K fb)) (hs : PlainIx b := by intro _ _; rfl) : PE X (.Subscript a b pos) (tD X.K (e2 gIx fa fb)) :=
  pe_imp (pe_ix ix_seq ha hb hs) fun _ _ _ h => tOp_of od_ix h
abbrev EO := Rho → Sto → Option (Option Int)
def tP (K : PySem.W.Frag) (f : EO) : TO := fun σ H Q => ∃ Z μ ρ S, Rel K Z μ σ H ρ S ∧ ∃ o, f ρ S = some o ∧ ∀ H', Same H H' → Q o H'
def oNone : EO := fun _ _ => some none
def oSome (f : E) : EO := fun ρ S => (f ρ S).bind fun d => match d with | .int i => some (some i) | _ => none
theorem PO.imp {e : Option Expr} {t t' : TO} (h : PO X e t) (i : ∀ σ H Q, t' σ H Q → t σ H Q) : PO X e t' := ⟨fun pins s σ H Q I q => h.run pins s σ H Q I (i σ H Q q)⟩
theorem do_none : PO X none (tP X.K oNone) := PO.imp po_none fun σ H Q ⟨Z, μ, ρ, S, R, o, e, q⟩ => by
  simp only [oNone, Option.some.injEq] at e
  subst e
  exact q H (Same.refl H)
theorem do_some (h : PE X a (tD X.K fa)) : PO X (some a) (tP X.K (oSome fa)) := PO.imp (po_some h) fun σ H Q ⟨Z, μ, ρ, S, R, o, e, q⟩ => by
  simp only [oSome, Option.bind_eq_some_iff] at e
  obtain ⟨d, e1, e2⟩ := e
  refine ⟨Z, μ, ρ, S, R, d, e1, fun v H' s r => ?_⟩
  cases d with
  | int i =>
    simp only [Option.some.injEq] at e2
    subst e2
    exact ⟨i, rv_int.mp r, q H' s⟩
  | _ => simp at e2
def cutD (ds : List D) (lo hi : Option Int) : List D := (ds.drop (HT.sIx ds.length 0 lo)).take (HT.sIx ds.length ds.length hi - HT.sIx ds.length 0 lo)
theorem rvl_cut {K : PySem.W.Frag} {av : Addr → Prop} {μ : List Addr} {H : Hp} {ds : List D} {xs : List V} (lo hi : Option Int) (h : RVL K av μ H ds xs) : RVL K av μ H (cutD ds lo hi) (cutV xs lo hi) := by
  unfold cutD cutV
  rw [RVL.length h]
  exact RVL.take _ (RVL.drop _ h)
def eCut (f : E) (lo hi : EO) : E := fun ρ S => (f ρ S).bind fun d => (lo ρ S).bind fun l => (hi ρ S).bind fun h => match d with
  | .tup ds => some (.tup (cutD ds l h))
  | _ => none
def fCut (f : E) (lo hi : EO) : EL := fun ρ S => (f ρ S).bind fun d => (lo ρ S).bind fun l => (hi ρ S).bind fun h => (lstD S d).map fun ds => cutD ds l h
theorem d_cut {lo hi : Option Expr} {fl fh : EO} {p2 : Pos} (ha : PE X a (tD X.K fa)) (hl : PO X lo (tP X.K fl)) (hh : PO X hi (tP X.K fh)) : PE X (.Subscript a (.Slice lo hi none p2) pos) (tD X.K (eCut fa fl fh)) :=
  pe_imp (pe_slice sl_tupA ha hl hh) fun σ H Q ⟨Z, μ, ρ, S, R, d, e, q⟩ => by
    simp only [eCut, Option.bind_eq_some_iff] at e
    obtain ⟨x, e1, l, e2, h, e3, e4⟩ := e
    refine ⟨Z, μ, ρ, S, R, x, e1, fun v H1 s1 r1 => ⟨Z, μ, ρ, S, R.mono s1, l, e2, fun H2 s2 => ⟨Z, μ, ρ, S, (R.mono s1).mono s2, h, e3, fun H3 s3 => ?_⟩⟩⟩
    cases x with
    | tup ds =>
      simp only [Option.some.injEq] at e4
      subst e4
      obtain ⟨p, xs, rfl, hs, hr⟩ := rv_tup.mp (RV.mono (s2.trans s3) r1)
      refine ⟨p, xs, rfl, SqT.of hs, fun hw => ?_, fun hw t ht => ?_⟩
      · refine q _ H3 (s1.trans (s2.trans s3)) (rv_tup.mpr ⟨p, xs, rfl, hs, ?_⟩)
        have hc : cutD ds l h = ds := by
          unfold cutD
          rw [← RVL.length hr, hw.1, hw.2]
          simp [RVL.length hr]
        rw [hc]; exact hr
      · have s : Same H3 (upd H3 t (.tup (cutV xs l h))) := fun c o z => by rw [upd_ne (ne_of_none z ht)]; exact z
        exact q _ _ ((s1.trans (s2.trans s3)).trans s) (rv_tup.mpr ⟨t, _, rfl, upd_same, RVL.mono s (rvl_cut l h hr)⟩)
    | _ => simp at e4
theorem d_cutF {lo hi : Option Expr} {fl fh : EO} {p2 : Pos} (ha : PE X a (tD X.K fa)) (hl : PO X lo (tP X.K fl)) (hh : PO X hi (tP X.K fh)) : PE X (.Subscript a (.Slice lo hi none p2) pos) (tF X.K (fCut fa fl fh)) :=
  pe_imp (pe_slice sl_list ha hl hh) fun σ H Q ⟨Z, μ, ρ, S, R, ds, e, q⟩ => by
    simp only [fCut, Option.bind_eq_some_iff, Option.map_eq_some_iff] at e
    obtain ⟨x, e1, l, e2, h, e3, es, e4, e5⟩ := e
    subst e5
    refine ⟨Z, μ, ρ, S, R, x, e1, fun v H1 s1 r1 => ⟨Z, μ, ρ, S, R.mono s1, l, e2, fun H2 s2 => ⟨Z, μ, ρ, S, (R.mono s1).mono s2, h, e3, fun H3 s3 => ?_⟩⟩⟩
    obtain ⟨p, xs, rfl, hs, hr⟩ := lst_of (((R.wd.mono s1).mono s2).mono s3) (RV.mono (s2.trans s3) r1) e4
    refine ⟨p, xs, rfl, SqL.of hs, fun t ht => ?_⟩
    have s : Same H3 (upd H3 t (.lst (cutV xs l h))) := fun c o z => by rw [upd_ne (ne_of_none z ht)]; exact z
    exact q t _ _ ((s1.trans (s2.trans s3)).free ht) ((s1.trans (s2.trans s3)).trans s) upd_same (RVL.newO s ht (rvl_cut l h hr))

/-! ### calls of what is built in -/
def CallD (K : PySem.W.Frag) (r : List V → Hp → VK → Prop) (g : Sto → List D → Option D) : Prop :=
  ∀ (Z : Fr) (μ : List Addr) (H : Hp) (S : Sto) (ds : List D) (d : D) (vs : List V) (Q : VK), Wd K Z μ H S → RVLz K Z μ H ds vs → g S ds = some d →
    (∀ w H', Same H H' → RVz K Z μ H' d w → Q w H') → r vs H Q
def CallF (K : PySem.W.Frag) (r : List V → Hp → VK → Prop) (g : Sto → List D → Option (List D)) : Prop :=
  ∀ (Z : Fr) (μ : List Addr) (H : Hp) (S : Sto) (ds es : List D) (vs : List V) (Q : VK), Wd K Z μ H S → RVLz K Z μ H ds vs → g S ds = some es →
    (∀ a xs H', H a = none → Same H H' → H' a = some (.lst xs) → RVL K (avO Z μ a) μ H' es xs → Q (.ref a) H') → r vs H Q
def eCall (g : Sto → List D → Option D) (fs : EL) : E := fun ρ S => (fs ρ S).bind fun ds => g S ds
def fCall (g : Sto → List D → Option (List D)) (fs : EL) : EL := fun ρ S => (fs ρ S).bind fun ds => g S ds
theorem tCB_of {K : PySem.W.Frag} {r : List V → Hp → VK → Prop} {g : Sto → List D → Option D} {fs : EL} (hd : CallD K r g) {σ : L2.St} {H : Hp} {Q : VK} (h : tD K (eCall g fs) σ H Q) : tCB r (tA K fs) σ H Q := by
  obtain ⟨Z, μ, ρ, S, R, d, e, q⟩ := h
  simp only [eCall, Option.bind_eq_some_iff] at e
  obtain ⟨ds, e1, e2⟩ := e
  exact ⟨Z, μ, ρ, S, R, ds, e1, fun vs H1 s1 r1 => hd Z μ H1 S ds d vs Q (R.wd.mono s1) r1 e2 fun w H' s2 r2 => q w H' (s1.trans s2) r2⟩
theorem tCB_ofF {K : PySem.W.Frag} {r : List V → Hp → VK → Prop} {g : Sto → List D → Option (List D)} {fs : EL} (hd : CallF K r g) {σ : L2.St} {H : Hp} {Q : VK} (h : tF K (fCall g fs) σ H Q) : tCB r (tA K fs) σ H Q := by
  obtain ⟨Z, μ, ρ, S, R, d, e, q⟩ := h
  simp only [fCall, Option.bind_eq_some_iff] at e
  obtain ⟨ds, e1, e2⟩ := e
  exact ⟨Z, μ, ρ, S, R, ds, e1, fun vs H1 s1 r1 => hd Z μ H1 S ds d vs Q (R.wd.mono s1) r1 e2 fun a xs H' n s2 h1 h2 => q a xs H' (s1.free n) (s1.trans s2) h1 h2⟩
theorem d_callB {id : String} {x : Str} {p : Pos} {r : List V → Hp → VK → Prop} {g : Sto → List D → Option D} {fs : EL} (hc : CallR X (.builtin id) r) (hd : CallD X.K r g) (hg : Gl X x) (hm : X.mg x = none) (hv : bootBuiltins x = some (.builtin id)) (ha : PA X (e :: es) (tA X.K fs)) (hn : x ≠ "__name__" := by decide) (hdb : (x == ("__debug__" : Str)) = false := by decide)
    (he : starEach (e :: es) X.env = (false, eval e X.env) :: starEach es X.env := by rfl) (hpl : (backTo pos (starEach es X.env)).any (·.1) = false := by rfl) : PE X (.Call (.Name x p) (e :: es) [] pos) (tD X.K (eCall g fs)) :=
  pe_imp (pe_callB hc hg hm hv ha hn hdb he hpl) fun _ _ _ h => tCB_of hd h
theorem d_callBF {id : String} {x : Str} {p : Pos} {r : List V → Hp → VK → Prop} {g : Sto → List D → Option (List D)} {fs : EL} (hc : CallR X (.builtin id) r) (hd : CallF X.K r g) (hg : Gl X x) (hm : X.mg x = none) (hv : bootBuiltins x = some (.builtin id)) (ha : PA X (e :: es) (tA X.K fs)) (hn : x ≠ "__name__" := by decide) (hdb : (x == ("__debug__" : Str)) = false := by decide)
    (he : starEach (e :: es) X.env = (false, eval e X.env) :: starEach es X.env := by rfl) (hpl : (backTo pos (starEach es X.env)).any (·.1) = false := by rfl) : PE X (.Call (.Name x p) (e :: es) [] pos) (tF X.K (fCall g fs)) :=
  pe_imp (pe_callB hc hg hm hv ha hn hdb he hpl) fun _ _ _ h => tCB_ofF hd h
theorem d_callT {T : String} {x : Str} {p : Pos} {r : List V → Hp → VK → Prop} {g : Sto → List D → Option D} {fs : EL} (hc : CallR X (.type T) r) (hd : CallD X.K r g) (hg : Gl X x) (hm : X.mg x = none) (hv : bootBuiltins x = some (.type T)) (ha : PA X (e :: es) (tA X.K fs)) (hn : x ≠ "__name__" := by decide) (hdb : (x == ("__debug__" : Str)) = false := by decide)
    (he : starEach (e :: es) X.env = (false, eval e X.env) :: starEach es X.env := by rfl) (hpl : (backTo pos (starEach es X.env)).any (·.1) = false := by rfl) : PE X (.Call (.Name x p) (e :: es) [] pos) (tD X.K (eCall g fs)) :=
  pe_imp (pe_callTy hc hg hm hv ha hn hdb he hpl) fun _ _ _ h => tCB_of hd h
theorem d_callTF {T : String} {x : Str} {p : Pos} {r : List V → Hp → VK → Prop} {g : Sto → List D → Option (List D)} {fs : EL} (hc : CallR X (.type T) r) (hd : CallF X.K r g) (hg : Gl X x) (hm : X.mg x = none) (hv : bootBuiltins x = some (.type T)) (ha : PA X (e :: es) (tA X.K fs)) (hn : x ≠ "__name__" := by decide) (hdb : (x == ("__debug__" : Str)) = false := by decide)
    (he : starEach (e :: es) X.env = (false, eval e X.env) :: starEach es X.env := by rfl) (hpl : (backTo pos (starEach es X.env)).any (·.1) = false := by rfl) : PE X (.Call (.Name x p) (e :: es) [] pos) (tF X.K (fCall g fs)) :=
  pe_imp (pe_callTy hc hg hm hv ha hn hdb he hpl) fun _ _ _ h => tCB_ofF hd h

theorem rvl1 {K : PySem.W.Frag} {av : Addr → Prop} {μ : List Addr} {H : Hp} {d : D} {vs : List V} (h : RVL K av μ H [d] vs) : ∃ v, vs = [v] ∧ RV K av μ H d v := by
  obtain ⟨y, ys, rfl, h1, h2⟩ := rvl_cons.mp h
  rw [rvl_nil] at h2; subst h2
  exact ⟨y, rfl, h1⟩
theorem rvl2 {K : PySem.W.Frag} {av : Addr → Prop} {μ : List Addr} {H : Hp} {d e : D} {vs : List V} (h : RVL K av μ H [d, e] vs) : ∃ v u, vs = [v, u] ∧ RV K av μ H d v ∧ RV K av μ H e u := by
  obtain ⟨y, ys, rfl, h1, h2⟩ := rvl_cons.mp h
  obtain ⟨u, rfl, h3⟩ := rvl1 h2
  exact ⟨y, u, rfl, h1, h3⟩
def cLen : Sto → List D → Option D := fun S ds => match ds with
  | [x] => (seqD S x).map fun xs => .int xs.length
  | _ => none
theorem cd_len {K : PySem.W.Frag} : CallD K (fun xs H Q => ∃ p ys, xs = [.ref p] ∧ (SqL K H p ys ∨ SqT K H p ys) ∧ Q (.int ys.length) H) cLen := by
  intro Z μ H S ds d vs Q W r e q
  unfold cLen at e
  split at e
  · rename_i x
    rw [Option.map_eq_some_iff] at e
    obtain ⟨xs, e1, rfl⟩ := e
    obtain ⟨v, rfl, rx⟩ := rvl1 r
    obtain ⟨a, ys, rfl, hs, hr⟩ := seq_of W rx e1
    refine ⟨a, ys, rfl, hs, ?_⟩
    rw [RVL.length hr]
    exact q _ H (Same.refl H) (rv_int.mpr rfl)
  · cases e
def cInt : Sto → List D → Option D := fun S ds => match ds with
  | [.int i] => some (.int i)
  | [.bl b] => some (.int (if b then 1 else 0))
  | _ => none
theorem cd_int {K : PySem.W.Frag} : CallD K (fun xs H Q => (∃ i, xs = [.int i] ∧ Q (.int i) H) ∨ ∃ k, xs = [.bl k] ∧ Q (.int (if k then 1 else 0)) H) cInt := by
  intro Z μ H S ds d vs Q W r e q
  unfold cInt at e
  split at e
  · cases e
    obtain ⟨v, rfl, rx⟩ := rvl1 r
    rw [rv_int.mp rx]
    exact .inl ⟨_, rfl, q _ H (Same.refl H) (rv_int.mpr rfl)⟩
  · cases e
    obtain ⟨v, rfl, rx⟩ := rvl1 r
    rw [rv_bl.mp rx]
    exact .inr ⟨_, rfl, q _ H (Same.refl H) (rv_int.mpr rfl)⟩
  · cases e
def cAbs : Sto → List D → Option D := fun S ds => match ds with
  | [.int i] => some (.int (if i < 0 then -i else i))
  | _ => none
theorem cd_abs {K : PySem.W.Frag} : CallD K (fun xs H Q => ∃ i, xs = [.int i] ∧ Q (.int (if i < 0 then -i else i)) H) cAbs := by
  intro Z μ H S ds d vs Q W r e q
  unfold cAbs at e
  split at e
  · cases e
    obtain ⟨v, rfl, rx⟩ := rvl1 r
    rw [rv_int.mp rx]
    exact ⟨_, rfl, q _ H (Same.refl H) (rv_int.mpr rfl)⟩
  · cases e
def cMax2 : Sto → List D → Option D := fun S ds => match ds with
  | [.int i, .int j] => some (.int (if j > i then j else i))
  | _ => none
theorem cd_max2 {K : PySem.W.Frag} : CallD K (fun xs H Q => ∃ i j, xs = [.int i, .int j] ∧ Q (.int (if j > i then j else i)) H) cMax2 := by
  intro Z μ H S ds d vs Q W r e q
  unfold cMax2 at e
  split at e
  · cases e
    obtain ⟨v, u, rfl, rx, ry⟩ := rvl2 r
    rw [rv_int.mp rx, rv_int.mp ry]
    exact ⟨_, _, rfl, q _ H (Same.refl H) (rv_int.mpr rfl)⟩
  · cases e
/-- the ints of a row -/
def intsD : List D → Option (List Int)
  | [] => some []
  | .int i :: ds => (intsD ds).map (i :: ·)
  | _ :: _ => none
theorem ints_eq : ∀ {ds : List D} {ns : List Int}, intsD ds = some ns → ds = ns.map .int
  | [], ns, h => by simp [intsD] at h; subst h; rfl
  | .int i :: ds, ns, h => by
    simp only [intsD, Option.map_eq_some_iff] at h
    obtain ⟨ms, h1, rfl⟩ := h
    rw [ints_eq h1]; rfl
  | .non :: _, _, h => by simp [intsD] at h
  | .bl _ :: _, _, h => by simp [intsD] at h
  | .str _ :: _, _, h => by simp [intsD] at h
  | .ty _ :: _, _, h => by simp [intsD] at h
  | .tup _ :: _, _, h => by simp [intsD] at h
  | .lst _ :: _, _, h => by simp [intsD] at h
  | .dic _ _ _ :: _, _, h => by simp [intsD] at h
  | .ins _ _ _ :: _, _, h => by simp [intsD] at h
  | .scr _ :: _, _, h => by simp [intsD] at h
  | .ref _ :: _, _, h => by simp [intsD] at h
theorem intsD_map (ns : List Int) : intsD (ns.map .int) = some ns := by
  induction ns with
  | nil => rfl
  | cons n ns ih => simp [intsD, ih]
def boolsD : List D → Option (List Bool)
  | [] => some []
  | .bl i :: ds => (boolsD ds).map (i :: ·)
  | _ :: _ => none
theorem bools_eq : ∀ {ds : List D} {ns : List Bool}, boolsD ds = some ns → ds = ns.map .bl
  | [], ns, h => by simp [boolsD] at h; subst h; rfl
  | .bl i :: ds, ns, h => by
    simp only [boolsD, Option.map_eq_some_iff] at h
    obtain ⟨ms, h1, rfl⟩ := h
    rw [bools_eq h1]; rfl
  | .non :: _, _, h => by simp [boolsD] at h
  | .int _ :: _, _, h => by simp [boolsD] at h
  | .str _ :: _, _, h => by simp [boolsD] at h
  | .ty _ :: _, _, h => by simp [boolsD] at h
  | .tup _ :: _, _, h => by simp [boolsD] at h
  | .lst _ :: _, _, h => by simp [boolsD] at h
  | .dic _ _ _ :: _, _, h => by simp [boolsD] at h
  | .ins _ _ _ :: _, _, h => by simp [boolsD] at h
  | .scr _ :: _, _, h => by simp [boolsD] at h
  | .ref _ :: _, _, h => by simp [boolsD] at h
theorem boolsD_map (ns : List Bool) : boolsD (ns.map .bl) = some ns := by
  induction ns with
  | nil => rfl
  | cons n ns ih => simp [boolsD, ih]
theorem rvl_bools' {K : PySem.W.Frag} {av : Addr → Prop} {μ : List Addr} {H : Hp} : ∀ {ns : List Bool} {xs : List V}, RVL K av μ H (ns.map .bl) xs → xs = ns.map V.bl
  | [], xs, h => by simpa [rvl_nil] using h
  | n :: ns, xs, h => by
    simp only [List.map_cons, rvl_cons] at h
    obtain ⟨y, ys, rfl, h1, h2⟩ := h
    rw [rv_bl] at h1
    subst h1
    rw [rvl_bools' h2]; rfl
def cSum : Sto → List D → Option D := fun S ds => match ds with
  | [x] => (lstD S x).bind fun xs => (intsD xs).map fun ns => .int ns.sum
  | _ => none
theorem cd_sum {K : PySem.W.Frag} : CallD K (rSum K) cSum := by
  intro Z μ H S ds d vs Q W r e q
  unfold cSum at e
  split at e
  · simp only [Option.bind_eq_some_iff, Option.map_eq_some_iff] at e
    obtain ⟨xs, e1, ns, e2, rfl⟩ := e
    obtain ⟨v, rfl, rx⟩ := rvl1 r
    obtain ⟨a, ys, rfl, hs, hr⟩ := lst_of W rx e1
    rw [ints_eq e2] at hr
    rw [rvl_ints' hr] at hs
    exact ⟨a, ns, rfl, SqL.of hs, q _ H (Same.refl H) (rv_int.mpr rfl)⟩
  · cases e
def maxI : List Int → Option Int
  | [] => none
  | i :: is => some (is.foldl (fun a b => if b > a then b else a) i)
theorem foldl_max (is : List Int) : ∀ (i m : Int), (m = i ∨ m ∈ is) → i ≤ m → (∀ y ∈ is, y ≤ m) → is.foldl (fun a b => if b > a then b else a) i = m := by
  induction is with
  | nil => intro i m h1 h2 h3; simp at h1; simp [h1]
  | cons j is ih =>
    intro i m h1 h2 h3
    simp only [List.foldl_cons]
    have hj := h3 j List.mem_cons_self
    refine ih _ m ?_ ?_ fun y hy => h3 y (List.mem_cons_of_mem _ hy)
    · rcases h1 with h1 | h1
      · subst h1
        by_cases hc : j > m
        · omega
        · left; simp [hc]
      · rcases List.mem_cons.mp h1 with h1 | h1
        · subst h1
          left
          by_cases hc : m > i
          · simp [hc]
          · simp [hc]; omega
        · exact .inr h1
    · split <;> assumption
theorem maxI_of {ns : List Int} {m k : Int} (h : maxI ns = some k) (hm : m ∈ ns) (hy : ∀ y ∈ ns, y ≤ m) : m = k := by
  cases ns with
  | nil => simp at hm
  | cons i is =>
    simp only [maxI, Option.some.injEq] at h
    rw [← h]
    refine (foldl_max is i m ?_ (hy i List.mem_cons_self) fun y h => hy y (List.mem_cons_of_mem _ h)).symm
    exact List.mem_cons.mp hm
def minI (ns : List Int) : Option Int := (maxI (ns.map fun i => -i)).map fun i => -i
theorem minI_of {ns : List Int} {m k : Int} (h : minI ns = some k) (hm : m ∈ ns) (hy : ∀ y ∈ ns, m ≤ y) : m = k := by
  unfold minI at h
  rw [Option.map_eq_some_iff] at h
  obtain ⟨j, h1, rfl⟩ := h
  have := maxI_of (m := -m) h1 (List.mem_map.mpr ⟨m, hm, rfl⟩) fun y hy' => by
    obtain ⟨z, hz, rfl⟩ := List.mem_map.mp hy'
    have := hy z hz
    omega
  omega
def cMax : Sto → List D → Option D := fun S ds => match ds with
  | [x] => (lstD S x).bind fun xs => (intsD xs).bind fun ns => (maxI ns).map .int
  | _ => none
theorem cd_max {K : PySem.W.Frag} : CallD K (rMax K) cMax := by
  intro Z μ H S ds d vs Q W r e q
  unfold cMax at e
  split at e
  · simp only [Option.bind_eq_some_iff, Option.map_eq_some_iff] at e
    obtain ⟨xs, e1, ns, e2, k, e3, rfl⟩ := e
    obtain ⟨v, rfl, rx⟩ := rvl1 r
    obtain ⟨a, ys, rfl, hs, hr⟩ := lst_of W rx e1
    rw [ints_eq e2] at hr
    rw [rvl_ints' hr] at hs
    refine ⟨a, ns, rfl, SqL.of hs, ?_, fun m hm hy => ?_⟩
    · cases ns with
      | nil => simp [maxI] at e3
      | cons _ _ => simp
    · rw [maxI_of e3 hm hy]
      exact q _ H (Same.refl H) (rv_int.mpr rfl)
  · cases e
def cMin : Sto → List D → Option D := fun S ds => match ds with
  | [x] => (lstD S x).bind fun xs => (intsD xs).bind fun ns => (minI ns).map .int
  | _ => none
theorem cd_min {K : PySem.W.Frag} : CallD K (rMin K) cMin := by
  intro Z μ H S ds d vs Q W r e q
  unfold cMin at e
  split at e
  · simp only [Option.bind_eq_some_iff, Option.map_eq_some_iff] at e
    obtain ⟨xs, e1, ns, e2, k, e3, rfl⟩ := e
    obtain ⟨v, rfl, rx⟩ := rvl1 r
    obtain ⟨a, ys, rfl, hs, hr⟩ := lst_of W rx e1
    rw [ints_eq e2] at hr
    rw [rvl_ints' hr] at hs
    refine ⟨a, ns, rfl, SqL.of hs, ?_, fun m hm hy => ?_⟩
    · cases ns with
      | nil => simp [minI, maxI] at e3
      | cons _ _ => simp
    · rw [minI_of e3 hm hy]
      exact q _ H (Same.refl H) (rv_int.mpr rfl)
  · cases e
def cAny : Sto → List D → Option D := fun S ds => match ds with
  | [x] => (lstD S x).bind fun xs => (boolsD xs).map fun bs => .bl (bs.any id)
  | _ => none
def cAll : Sto → List D → Option D := fun S ds => match ds with
  | [x] => (lstD S x).bind fun xs => (boolsD xs).map fun bs => .bl (bs.all id)
  | _ => none
theorem cd_any {K : PySem.W.Frag} : CallD K (rAny K) cAny := by
  intro Z μ H S ds d vs Q W r e q
  unfold cAny at e
  split at e
  · simp only [Option.bind_eq_some_iff, Option.map_eq_some_iff] at e
    obtain ⟨xs, e1, ns, e2, rfl⟩ := e
    obtain ⟨v, rfl, rx⟩ := rvl1 r
    obtain ⟨a, ys, rfl, hs, hr⟩ := lst_of W rx e1
    rw [bools_eq e2] at hr
    rw [rvl_bools' hr] at hs
    exact ⟨a, ns, rfl, SqL.of hs, q _ H (Same.refl H) (rv_bl.mpr rfl)⟩
  · cases e
theorem cd_all {K : PySem.W.Frag} : CallD K (rAll K) cAll := by
  intro Z μ H S ds d vs Q W r e q
  unfold cAll at e
  split at e
  · simp only [Option.bind_eq_some_iff, Option.map_eq_some_iff] at e
    obtain ⟨xs, e1, ns, e2, rfl⟩ := e
    obtain ⟨v, rfl, rx⟩ := rvl1 r
    obtain ⟨a, ys, rfl, hs, hr⟩ := lst_of W rx e1
    rw [bools_eq e2] at hr
    rw [rvl_bools' hr] at hs
    exact ⟨a, ns, rfl, SqL.of hs, q _ H (Same.refl H) (rv_bl.mpr rfl)⟩
  · cases e
/-- list(xs): new -/
def cList : Sto → List D → Option (List D) := fun S ds => match ds with
  | [x] => seqD S x
  | _ => none
theorem cf_list {K : PySem.W.Frag} : CallF K (fun xs H Q => ∃ p ys, xs = [.ref p] ∧ (SqL K H p ys ∨ SqT K H p ys) ∧ ∀ l, H l = none → Q (.ref l) (upd H l (.lst ys))) cList := by
  intro Z μ H S ds es vs Q W r e q
  unfold cList at e
  split at e
  · obtain ⟨v, rfl, rx⟩ := rvl1 r
    obtain ⟨a, ys, rfl, hs, hr⟩ := seq_of W rx e
    refine ⟨a, ys, rfl, hs, fun l hl => ?_⟩
    have s : Same H (upd H l (.lst ys)) := fun c o z => by rw [upd_ne (ne_of_none z hl)]; exact z
    exact q l _ _ hl s upd_same (RVL.newO s hl hr)
  · cases e
/-- tuple(xs) -/
def cTuple : Sto → List D → Option D := fun S ds => match ds with
  | [x] => (seqD S x).map .tup
  | _ => none
theorem cd_tuple {K : PySem.W.Frag} : CallD K (fun xs H Q => ∃ p ys, xs = [.ref p] ∧ ((SqL K H p ys ∧ ∀ l, H l = none → Q (.ref l) (upd H l (.tup ys))) ∨ (SqT K H p ys ∧ Q (.ref p) H))) cTuple := by
  intro Z μ H S ds d vs Q W r e q
  unfold cTuple at e
  split at e
  · rw [Option.map_eq_some_iff] at e
    obtain ⟨xs, e1, rfl⟩ := e
    obtain ⟨v, rfl, rx⟩ := rvl1 r
    obtain ⟨a, ys, rfl, hs, hr⟩ := seq_ofH W rx e1
    refine ⟨a, ys, rfl, ?_⟩
    rcases hs with hs | hs
    · refine .inl ⟨hs, fun l hl => ?_⟩
      have s : Same H (upd H l (.tup ys)) := fun c o z => by rw [upd_ne (ne_of_none z hl)]; exact z
      exact q _ _ s (rv_tup.mpr ⟨l, ys, rfl, upd_same, RVL.mono s hr⟩)
    · exact .inr ⟨SqT.of hs, q _ H (Same.refl H) (rv_tup.mpr ⟨a, ys, rfl, hs, hr⟩)⟩
  · cases e
/-- isinstance(x, T), T a built-in class -/
def tyD : D → Option String
  | .non => some "NoneType"
  | .bl _ => some "bool"
  | .int _ => some "int"
  | .str _ => some "str"
  | .tup _ => some "tuple"
  | .lst _ => some "list"
  | .dic false _ _ => some "dict"
  | _ => none
def cIsi : Sto → List D → Option D := fun _ ds => match ds with
  | [x, .ty t] => (tyD x).bind fun s => (kitB s t).map .bl
  | _ => none
theorem cd_isi {K : PySem.W.Frag} : CallD K (rIsi K) cIsi := by
  intro Z μ H S ds d vs Q W r e q
  unfold cIsi at e
  split at e
  · rename_i x t
    simp only [Option.bind_eq_some_iff, Option.map_eq_some_iff] at e
    obtain ⟨s, e1, b, e2, rfl⟩ := e
    obtain ⟨v, u, rfl, rx, ry⟩ := rvl2 r
    rw [rv_ty.mp ry]
    have ty : TyX K H v (.type s) := by
      cases x with
      | non => rw [rv_non.mp rx]; simp only [tyD, Option.some.injEq] at e1; subst e1; exact .base .non
      | bl _ => rw [rv_bl.mp rx]; simp only [tyD, Option.some.injEq] at e1; subst e1; exact .base (.bl _)
      | int _ => rw [rv_int.mp rx]; simp only [tyD, Option.some.injEq] at e1; subst e1; exact .base (.int _)
      | str _ => rw [rv_str.mp rx]; simp only [tyD, Option.some.injEq] at e1; subst e1; exact .base (.str _)
      | tup ds =>
        simp only [tyD, Option.some.injEq] at e1; subst e1
        obtain ⟨a, xs, rfl, hs, _⟩ := rv_tup.mp rx
        exact .base (.tup hs)
      | lst ds =>
        simp only [tyD, Option.some.injEq] at e1; subst e1
        obtain ⟨a, xs, rfl, hs, _⟩ := rv_lst.mp rx
        exact .base (.lst hs)
      | dic t ks vs =>
        cases t with
        | true => simp [tyD] at e1
        | false =>
          simp only [tyD, Option.some.injEq] at e1; subst e1
          obtain ⟨a, rfl, _, hh⟩ := rv_dic.mp rx
          rcases hh with ⟨_, kvs, h1, _⟩ | ⟨z, _⟩
          · exact .base (.dK h1)
          · cases z
      | _ => simp [tyD] at e1
    exact ⟨v, .ty t, _, _, b, rfl, .ty t, ty, kit_ty e2, q _ H (Same.refl H) (rv_bl.mpr rfl)⟩
  · cases e
end
end DL

set_option maxHeartbeats 4000000
/-! enumerate over a tuple -/
namespace DL
open PySem PySem.Spec
section
theorem meets_enumerate_newT (l : Addr) (items : Array Value) :
    Meets (Builtin.«enumerate.__new__» ⟨[.type "enumerate", .ref l], []⟩) (fun _ R s => s.heap.IsTuple l items ∧
      R (.ok (.ret (.ref (s.heap.push { cls := .type "tuple_iterator", data := .fields #[.ref l, .int 0 0] }).objs.size)))
        { s with heap := (s.heap.push { cls := .type "tuple_iterator", data := .fields #[.ref l, .int 0 0] }).push { cls := .type "enumerate", data := .fields #[.none, .bool false, .ref s.heap.objs.size, rawInt 0, .none, .none] } }) :=
  .of_wp fun prog w A R s h => by
    obtain ⟨hp, g, d, tk, os⟩ := s; obtain ⟨hL, h⟩ := h
    have hsub := sub_enumerate
    wp_walk
    refine wpAny_stack_any fun st => wpAny_pure ?_
    split
    · rename_i c _ _ _ _ _
      cases (c == Value.type "enumerate")
      · wp_walk using wpAny_pyIter_tuple hL
        exact ⟨_, rfl, h⟩
      · wp_walk using wpAny_pyIter_tuple hL
        exact ⟨_, rfl, h⟩
    · wp_walk using wpAny_pyIter_tuple hL
      exact ⟨_, rfl, h⟩
variable {prog : Program} {w : World} {A : Around} {E : Value → Shared → Prop} {s : Shared}
theorem call_enumerate_tup {l : Addr} {items : Array Value} {Q : Value → Shared → Prop} (hL : s.heap.IsTuple l items)
    (h : ∀ h', IsEnum h' (s.heap.objs.size + 1) s.heap.objs.size 0 .none → h'.IsTupleIter s.heap.objs.size l 0 → h'.objs.size = s.heap.objs.size + 2 →
      (∀ b o, s.heap.get? b = some o → h'.get? b = some o) → Q (.ref (s.heap.objs.size + 1)) { s with heap := h' }) :
    wpAny (model prog w) A (call (.type "enumerate") [.ref l]) Q E s := by
  refine callType_new F.called_enumerate (by decide) (F.typeCall_enumerate_1 _) (F.newCall_enumerate_1 _) (fun obj => F.args_object_init_2 obj _) F.entry_enumerate_new
    (meets_enumerate_newT l items) ⟨hL, ?_⟩
  have hz : (s.heap.push { cls := .type "tuple_iterator", data := .fields #[.ref l, .int 0 0] }).objs.size = s.heap.objs.size + 1 := Heap.size_push ..
  show _ ∧ _
  rw [hz]
  have he : IsEnum ((s.heap.push { cls := .type "tuple_iterator", data := .fields #[.ref l, .int 0 0] }).push
      { cls := .type "enumerate", data := .fields #[.none, .bool false, .ref s.heap.objs.size, rawInt 0, .none, .none] }) (s.heap.objs.size + 1) s.heap.objs.size 0 .none := by
    have := Heap.get?_push_size (s.heap.push { cls := .type "tuple_iterator", data := .fields #[.ref l, .int 0 0] })
      (o := { cls := .type "enumerate", data := .fields #[.none, .bool false, .ref s.heap.objs.size, rawInt 0, .none, .none] }) rfl
    rw [hz] at this; exact this
  refine ⟨⟨_, he, rfl⟩, h _ he ⟨_, Heap.get?_push_of_some _ (Heap.get?_push_size _ rfl), rfl, rfl⟩ (by rw [Heap.size_push, hz]) fun b o x => Heap.get?_push_of_some _ (Heap.get?_push_of_some _ x)⟩
end
end DL
namespace DL
open PySem PySem.Spec PyProof.Rows L2
def IteT (K : PySem.W.Frag) (a : Addr) : It :=
  ⟨fun i H => ∃ (xs : List V) (x : V), SqT K H a xs ∧ xs[i]? = some x, fun i H v H' => ∃ T x, v = .ref T ∧ H T = none ∧ H' = upd H T (.tup [.int (i : Nat), x]) ∧ ∀ xs, SqT K H a xs → xs[i]? = some x, fun i H => ∃ xs : List V, SqT K H a xs ∧ xs.length ≤ i⟩
theorem turn_enumT {P : Program} {w : World} {K : PySem.W.Frag} {elts : List Expr} {kk : Nat} {tpos : Pos} (a e it : Addr) :
    Turn P w K (.Tuple elts kk tpos) (IteT K a) [e, it] e (fun i h => (∃ old, IsEnum h e it ((i : Nat) : Int) old) ∧ h.IsTupleIter it a i ∧ e ≠ it) where
  mem := by simp
  obj := fun i h st b hb => by
    obtain ⟨⟨old, he⟩, ⟨o, ho, hc, hd⟩, _⟩ := st
    have e' : b = e ∨ b = it := by simpa using hb
    rcases e' with z | z
    · rw [z]; exact ⟨_, he, fun v q => nomatch q⟩
    · rw [z]; exact ⟨o, ho, fun v q => by rw [hd] at q; cases q⟩
  keep := fun i h h' st k => let ⟨⟨old, he⟩, hi, hne⟩ := st; ⟨⟨old, k e (by simp) _ he⟩, hi.at fun o q => k it (by simp) o q, hne⟩
  item := by
    intro X hP hw hK hc i pins s σ H E I hf st hg
    subst hP hw hK
    obtain ⟨⟨old, he⟩, hit, hne⟩ := st
    obtain ⟨xs, x, hq, hx⟩ := hg
    obtain ⟨its, rv, p, hz⟩ := I.tuple hq
    obtain ⟨u, hu, ru⟩ := rv.get hx
    have hel : e < s.heap.objs.size := Heap.lt_size he
    have hil : it < s.heap.objs.size := by obtain ⟨_, q, _⟩ := hit; exact Heap.lt_size q
    have hai : a ≠ it := by
      rintro rfl
      obtain ⟨o1, h1, c1, _⟩ := hit
      obtain ⟨o2, h2, c2, _⟩ := p
      rw [h1] at h2; cases h2
      rw [c1] at c2
      exact absurd (Value.type.inj c2) (by decide)
    have hea : e ≠ a := by
      rintro rfl
      obtain ⟨o2, h2, c2, _⟩ := p
      rw [he] at h2; cases h2
      exact absurd (Value.type.inj c2) (by decide)
    have hil' : i < its.toArray.size := by
      have := (List.getElem?_eq_some_iff.mp hu).1
      simpa using this
    refine wpAny_pyNext_enum_itemD (Draws.tuple (prog := X.prog) (w := X.w) (A := X.A.in1) (I.ok.hd hc) it a hai its.toArray) he ⟨hit, (show s.heap.IsTuple a its.toArray from p)⟩ hil' hne (by simp [hne, hea]) fun y h' tk hP ho hit' hT hsz hk => ?_
    have hy : y = u := by
      have : its.toArray[i]? = some u := by simpa using hu
      rw [this] at hP
      exact (Option.some.inj hP).symm
    subst hy
    refine ⟨_, rfl, wpAny_letOwnedTupleGo_enum (s := { s with heap := h', toks := tk + 1 }) ho fun h'' he' sb => ?_⟩
    have hT2 : h''.get? s.heap.objs.size = some { cls := .type "tuple", data := .seq #[.int i tk, y] } := (sb.2 _ (Nat.ne_of_gt hel)).trans hT
    have new : ObjOk X.prog X.w (upd H s.heap.objs.size (.tup [.int (i : Nat), x])) h'' s.heap.objs.size (.tup [.int (i : Nat), x]) :=
      ⟨by show 2 ≤ sizeLine; decide, [.int i tk, y], .cons ⟨_, rfl⟩ (.cons ru .nil), ⟨_, hT2, rfl, _, rfl⟩⟩
    have I1 : Inv X pins σ (upd H s.heap.objs.size (.tup [.int (i : Nat), x])) { s with heap := h'', toks := tk + 1 } :=
      I.turnedNew (ch := [e, it]) (fun b ob hb q => (sb.2 b (fun z => hb (by simp [z]))).trans (hk b ob (fun z => hb (by simp [z])) (fun z => hb (by simp [z])) q)) hf (Nat.le_refl _) new
    refine ⟨.ref s.heap.objs.size, _, I1, rfl, ⟨_, x, rfl, I.hok.fresh (Nat.le_refl _), rfl, fun ys hy => by rw [I.tuple_inj hy hq]; exact hx⟩, ⟨⟨y, ?_⟩, hit'.1.at fun o q => (sb.2 it (Ne.symm hne)).trans q, hne⟩, fun b hb => ?_⟩
    · have e1 : ((i + 1 : Nat) : Int) = (i : Int) + 1 := by omega
      rw [e1]; exact he'
    · have hb' : b < s.heap.objs.size := by
        have e' : b = e ∨ b = it := by simpa using hb
        rcases e' with z | z
        · rw [z]; exact hel
        · rw [z]; exact hil
      rw [upd_ne (Nat.ne_of_lt hb')]
      exact (hf b hb).1
  done := by
    intro X hP hw hK hc i pins s σ H E I hf st hg
    subst hP hw hK
    obtain ⟨⟨old, he⟩, hit, hne⟩ := st
    obtain ⟨xs, hq, hx⟩ := hg
    obtain ⟨its, rv, p, hz⟩ := I.tuple hq
    obtain ⟨f0, f1, f2, f3, f4, f5⟩ := hf it (by simp)
    have hl := rv.length
    have hT : s.TypeIs (.ref e) "enumerate" := ⟨_, he, rfl⟩
    unfold pyNext
    refine wpAny_bind (wpAny_attempt (wpAny_callSpecial?_slot (name := Str.ofString "__next__") hT F.slot_enumerate_next
      (wpAny_call_entry F.slot_enumerate_next hT F.entry_enumerate_next ?_ (F.args_enumerate_next_1 _))))
    show wpAny _ _ (field (.ref e) 2 >>= _) _ _ _
    refine wpAny_bind (wpAny_field he rfl (x := .ref it) rfl ?_)
    refine wpAny_bind (wpAny_nextOf_tuple_end (I.ok.hd hc) hit (show s.heap.IsTuple a its.toArray from p) (by simp; omega) fun h' x he' hx' => ?_)
    obtain ⟨o, ho, hc⟩ := hx'
    refine wpAny_bind (wpAny_isInstance (T := "StopIteration") (b := true) ⟨o, ho, hc⟩ isSubtype_stop ?_)
    exact wpAny_pure ⟨rfl, I.turned (t' := s.toks) (fun b o hb q => he' b o hb q) f0 f1 f3 f4 f5⟩
  self := fun A i s Q E st h => let ⟨⟨_, he⟩, _⟩ := st; wpAny_pyIter_enum he h
def iEnumA (K : PySem.W.Frag) (ta : TA) : TI := fun σ H R => ta σ H fun vs H1 => ∃ a xs, vs = [.ref a] ∧ ((SqL K H1 a xs ∧ R (Ite K a) H1) ∨ (SqT K H1 a xs ∧ R (IteT K a) H1))
theorem pi_enumA {X : Cx} {e : Expr} {ta : TA} {p pos tpos : Pos} {elts : List Expr} {kk : Nat} (hg : Gl X "enumerate") (hm : X.mg "enumerate" = none) (ha : PA X [e] ta) (hs : starEach [e] X.env = [(false, eval e X.env)] := by rfl) :
    PI X (.Tuple elts kk tpos) (.Call (.Name "enumerate" p) [e] [] pos) (iEnumA X.K ta) := by
  refine ⟨fun pins s σ H R I h => ?_⟩
  refine Call_ (ld_blt I hg hm boot_enumerate (PyProof.Rows.callWith_type1 (thn (ha.run pos pins s σ H _ I h) fun us s1 ⟨vs, H1, I1, r1, q1⟩ => ?_) hs rfl))
  obtain ⟨a, xs, ex, q1⟩ := q1
  subst ex
  cases r1 with
  | cons r rr =>
    cases rr
    cases r
    have fresh : ∀ b ∈ [s1.heap.objs.size + 1, s1.heap.objs.size], FpOk X pins H1 b := fun b hb => by
      have e' : b = s1.heap.objs.size + 1 ∨ b = s1.heap.objs.size := by simpa using hb
      have hle : s1.heap.objs.size ≤ b := by
        rcases e' with z | z
        · rw [z]; exact Nat.le_add_right _ _
        · rw [z]; exact Nat.le_refl _
      exact I1.fpOk hle (I1.hok.fresh hle)
    rcases q1 with ⟨hq, q⟩ | ⟨hq, q⟩
    · obtain ⟨its, rv, p', hz⟩ := I1.list hq
      refine call_enumerate_list p'.isList fun h' he hit hsz hk => wpAny_pyIter_enum he ?_
      have I2 : Inv X pins σ H1 { s1 with heap := h' } := I1.kept (t' := s1.toks) hk
      exact ⟨s1.heap.objs.size + 1, [s1.heap.objs.size + 1, s1.heap.objs.size], _, _, H1, rfl, I2, turn_enum a (s1.heap.objs.size + 1) s1.heap.objs.size, ⟨⟨.none, he⟩, hit, Nat.succ_ne_self _⟩, fresh, q⟩
    · obtain ⟨its, rv, p', hz⟩ := I1.tuple hq
      refine call_enumerate_tup (show s1.heap.IsTuple a its.toArray from p') fun h' he hit hsz hk => wpAny_pyIter_enum he ?_
      have I2 : Inv X pins σ H1 { s1 with heap := h' } := I1.kept (t' := s1.toks) hk
      exact ⟨s1.heap.objs.size + 1, [s1.heap.objs.size + 1, s1.heap.objs.size], _, _, H1, rfl, I2, turn_enumT a (s1.heap.objs.size + 1) s1.heap.objs.size, ⟨⟨.none, he⟩, hit, Nat.succ_ne_self _⟩, fresh, q⟩
/-- a list or a tuple walked -/
def iSeq (K : PySem.W.Frag) (tl : TE) : TI := fun σ H R => tl σ H fun x H1 => ∃ a xs, x = .ref a ∧ ((SqL K H1 a xs ∧ R (Itl K a) H1) ∨ (SqT K H1 a xs ∧ R (Itt K a) H1))
theorem pi_seq {X : Cx} {tg l : Expr} {tl : TE} (hl : PE X l tl) : PI X tg l (iSeq X.K tl) := by
  refine ⟨fun pins s σ H R I h => ?_⟩
  refine thn (hl.run pins s σ H _ I h) fun v s1 ⟨x, H1, I1, r1, q1⟩ => ?_
  obtain ⟨a, xs, e, q⟩ := q1
  subst e
  cases r1
  have fresh : ∀ b ∈ [s1.heap.objs.size], FpOk X pins H1 b := fun b hb => by
    have e : b = s1.heap.objs.size := by simpa using hb
    subst e
    exact I1.fpOk (Nat.le_refl _) (I1.hok.fresh (Nat.le_refl _))
  rcases q with ⟨hq, q⟩ | ⟨hq, q⟩
  · obtain ⟨its, rv, p, hz⟩ := I1.list hq
    refine wpAny_pyIter_list p.isList ?_
    exact ⟨s1.heap.objs.size, [s1.heap.objs.size], _, _, H1, rfl, I1.kept (t' := s1.toks) fun b o e => Heap.get?_push_of_some _ e, turn_list a _, ⟨_, Heap.get?_push_size _ rfl, rfl, rfl⟩, fresh, q⟩
  · obtain ⟨its, rv, p, hz⟩ := I1.tuple hq
    refine wpAny_pyIter_tuple (show s1.heap.IsTuple a its.toArray from p) ?_
    exact ⟨s1.heap.objs.size, [s1.heap.objs.size], _, _, H1, rfl, I1.kept (t' := s1.toks) fun b o e => Heap.get?_push_of_some _ e, turn_tuple a _, ⟨_, Heap.get?_push_size _ rfl, rfl, rfl⟩, fresh, q⟩
end DL

namespace DL
open PySem PySem.Spec L2
/-! ### what a loop walks, as data -/
/-- J yields ds, from H1 on, whatever becomes of what P says -/
def ItD (K : PySem.W.Frag) (Z : Fr) (μ : List Addr) (P : Addr → Prop) (J : It) (H1 : Hp) (ds : List D) : Prop :=
  ∀ i H', (∀ a o, H1 a = some o → ¬ P a → H' a = some o) →
    (∀ d, ds[i]? = some d → J.go i H' ∧ ∀ x H'', J.yld i H' x H'' → Same H' H'' ∧ RV K (fun a => avd Z μ a ∨ H1 a = none) μ H'' d x) ∧ (ds.length ≤ i → J.stop i H')
/-- for a loop: what the loop changes are cells; for a comprehension: nothing changes -/
def tI (K : PySem.W.Frag) (f : EL) : TI := fun σ H R => ∃ Z μ ρ S, Rel K Z μ σ H ρ S ∧ ∃ ds, f ρ S = some ds ∧ ∀ J H1, Same H H1 → ItD K Z μ (fun a => a ∈ μ) J H1 ds → R J H1
def tJ (K : PySem.W.Frag) (f : EL) : TI := fun σ H R => ∃ Z μ ρ S, Rel K Z μ σ H ρ S ∧ ∃ ds, f ρ S = some ds ∧ ∀ J H1, Same H H1 → ItD K Z μ (fun _ => False) J H1 ds → R J H1
section
variable {X : Cx} {e : Expr} {tg : Expr} {fa : E}
theorem dj_of {f : EL} (h : PI X tg e (tI X.K f)) : PI X tg e (tJ X.K f) := pi_imp h fun σ H R ⟨Z, μ, ρ, S, Rl, ds, ef, q⟩ =>
  ⟨Z, μ, ρ, S, Rl, ds, ef, fun J H1 s it => q J H1 s fun i H' k => it i H' fun a o h1 _ => k a o h1 fun z => z⟩
section
variable {K : PySem.W.Frag} {Z : Fr} {μ : List Addr} {H1 H' : Hp} {S : Sto} {P : Addr → Prop}
/-- items that stand at H1 are old -/
theorem RVL.old {ds : List D} {xs : List V} (h : RVLz K Z μ H1 ds xs) : RVL K (fun a => avd Z μ a ∨ H1 a = none) μ H1 ds xs :=
  RVL.tr (fun a o e hn => ⟨e, fun m q => by
    rcases q with q | q
    · exact hn m q
    · rw [q] at e; cases e⟩) (fun _ _ e => e) ds xs h
theorem RV.keepP (W : Wd K Z μ H1 S) (hP : ∀ a, P a → a ∈ μ) (k : ∀ a o, H1 a = some o → ¬ P a → H' a = some o) {d : D} {v : V}
    (h : RV K (fun a => avd Z μ a ∨ H1 a = none) μ H1 d v) : RV K (fun a => avd Z μ a ∨ H1 a = none) μ H' d v :=
  RV.tr (fun a o e hn => ⟨k a o e fun p => by
    obtain ⟨u, e', m⟩ := W.mem (hP a p)
    rw [e] at e'; cases e'
    exact hn m (.inl (.inr (hP a p))), hn⟩) (fun _ _ e => e) d v h
theorem notP_tup (W : Wd K Z μ H1 S) (hP : ∀ a, P a → a ∈ μ) {a : Addr} {o : HO} (h : H1 a = some o) (m : isMut o = false) : ¬ P a := fun p => by
  obtain ⟨u, e', m'⟩ := W.mem (hP a p)
  rw [h] at e'; cases e'
  rw [m] at m'; cases m'
theorem sqT_keep (W : Wd K Z μ H1 S) (hP : ∀ a, P a → a ∈ μ) (k : ∀ a o, H1 a = some o → ¬ P a → H' a = some o) {a : Addr} {xs : List V} (h : SqT K H1 a xs) : SqT K H' a xs := by
  rcases h with (h | ⟨o, h⟩) | h
  · exact .inl (.inl (k a _ h (notP_tup W hP h rfl)))
  · exact .inl (.inr ⟨o, k a _ h (notP_tup W hP h rfl)⟩)
  · exact .inr h
theorem itD_list {a : Addr} {xs : List V} {ds : List D} (W : Wd K Z μ H1 S) (hP : ∀ a, P a → a ∈ μ) (hs : ∀ H', (∀ a o, H1 a = some o → ¬ P a → H' a = some o) → SqL K H' a xs) (hr : RVLz K Z μ H1 ds xs) : ItD K Z μ P (Itl K a) H1 ds := by
  intro i H' k
  have q := hs H' k
  refine ⟨fun d hd => ?_, fun hl => ⟨xs, q, by rw [RVL.length hr]; exact hl⟩⟩
  obtain ⟨v, hv, rv⟩ := RVL.get hr.old hd
  exact ⟨⟨xs, v, q, hv⟩, fun x H'' ⟨e, y⟩ => by
    subst e
    have := y xs q
    rw [hv] at this; cases this
    exact ⟨Same.refl _, RV.keepP W hP k rv⟩⟩
theorem itD_tup {a : Addr} {xs : List V} {ds : List D} (W : Wd K Z μ H1 S) (hP : ∀ a, P a → a ∈ μ) (hs : SqT K H1 a xs) (hr : RVLz K Z μ H1 ds xs) : ItD K Z μ P (Itt K a) H1 ds := by
  intro i H' k
  have q := sqT_keep W hP k hs
  refine ⟨fun d hd => ?_, fun hl => ⟨xs, q, by rw [RVL.length hr]; exact hl⟩⟩
  obtain ⟨v, hv, rv⟩ := RVL.get hr.old hd
  exact ⟨⟨xs, v, q, hv⟩, fun x H'' ⟨e, y⟩ => by
    subst e
    have := y xs q
    rw [hv] at this; cases this
    exact ⟨Same.refl _, RV.keepP W hP k rv⟩⟩
def enumD (ds : List D) : List D := ds.mapIdx fun i d => .tup [.int (i : Nat), d]
theorem enumD_get {ds : List D} {i : Nat} {e : D} (h : (enumD ds)[i]? = some e) : ∃ d, ds[i]? = some d ∧ e = .tup [.int (i : Nat), d] := by
  unfold enumD at h
  rw [List.getElem?_mapIdx] at h
  rw [Option.map_eq_some_iff] at h
  obtain ⟨d, h1, h2⟩ := h
  exact ⟨d, h1, h2.symm⟩
theorem new_pair {T : Addr} {x y : V} {d e : D} {H : Hp} {av : Addr → Prop} (n : H T = none) (h1 : RV K av μ H d x) (h2 : RV K av μ H e y) : Same H (upd H T (.tup [x, y])) ∧ RV K av μ (upd H T (.tup [x, y])) (.tup [d, e]) (.ref T) := by
  have s : Same H (upd H T (.tup [x, y])) := fun c o z => by rw [upd_ne (ne_of_none z n)]; exact z
  have tr : ∀ {d v}, RV K av μ H d v → RV K av μ (upd H T (.tup [x, y])) d v := fun {d v} r => RV.tr (fun a o e hn => ⟨s a o e, hn⟩) (fun _ _ e => e) d v r
  exact ⟨s, rv_tup.mpr ⟨T, _, rfl, upd_same, RVL.cons' (tr h1) (RVL.one (tr h2))⟩⟩
theorem itD_enumL {a : Addr} {xs : List V} {ds : List D} (W : Wd K Z μ H1 S) (hP : ∀ a, P a → a ∈ μ) (hs : ∀ H', (∀ a o, H1 a = some o → ¬ P a → H' a = some o) → SqL K H' a xs) (hr : RVLz K Z μ H1 ds xs) : ItD K Z μ P (Ite K a) H1 (enumD ds) := by
  intro i H' k
  have q := hs H' k
  refine ⟨fun e he => ?_, fun hl => ⟨xs, q, by rw [RVL.length hr]; simpa [enumD] using hl⟩⟩
  obtain ⟨d, hd, rfl⟩ := enumD_get he
  obtain ⟨v, hv, rv⟩ := RVL.get hr.old hd
  exact ⟨⟨xs, v, q, hv⟩, fun x H'' ⟨T, y, e1, n, e2, hy⟩ => by
    subst e1 e2
    have := hy xs q
    rw [hv] at this; cases this
    exact new_pair n (rv_int.mpr rfl) (RV.keepP W hP k rv)⟩
theorem itD_enumT {a : Addr} {xs : List V} {ds : List D} (W : Wd K Z μ H1 S) (hP : ∀ a, P a → a ∈ μ) (hs : SqT K H1 a xs) (hr : RVLz K Z μ H1 ds xs) : ItD K Z μ P (IteT K a) H1 (enumD ds) := by
  intro i H' k
  have q := sqT_keep W hP k hs
  refine ⟨fun e he => ?_, fun hl => ⟨xs, q, by rw [RVL.length hr]; simpa [enumD] using hl⟩⟩
  obtain ⟨d, hd, rfl⟩ := enumD_get he
  obtain ⟨v, hv, rv⟩ := RVL.get hr.old hd
  exact ⟨⟨xs, v, q, hv⟩, fun x H'' ⟨T, y, e1, n, e2, hy⟩ => by
    subst e1 e2
    have := hy xs q
    rw [hv] at this; cases this
    exact new_pair n (rv_int.mpr rfl) (RV.keepP W hP k rv)⟩
def zipD (ds es : List D) : List D := List.zipWith (fun d e => .tup [d, e]) ds es
theorem zipD_get : ∀ {ds es : List D} {i : Nat} {z : D}, (zipD ds es)[i]? = some z → ∃ d e, ds[i]? = some d ∧ es[i]? = some e ∧ z = .tup [d, e]
  | [], _, _, _, h => by simp [zipD] at h
  | _ :: _, [], _, _, h => by simp [zipD] at h
  | d :: ds, e :: es, 0, z, h => by
    simp [zipD] at h
    exact ⟨d, e, rfl, rfl, h.symm⟩
  | d :: ds, e :: es, i + 1, z, h => by
    have h' : (zipD ds es)[i]? = some z := by simpa [zipD] using h
    obtain ⟨d', e', h1, h2, h3⟩ := zipD_get h'
    exact ⟨d', e', by simpa using h1, by simpa using h2, h3⟩
theorem zipD_len {ds es : List D} : (zipD ds es).length = min ds.length es.length := by simp [zipD]
theorem itD_zipL {a b : Addr} {xs ys : List V} {ds es : List D} (W : Wd K Z μ H1 S) (hP : ∀ a, P a → a ∈ μ) (hs : ∀ H', (∀ a o, H1 a = some o → ¬ P a → H' a = some o) → SqL K H' a xs) (hs2 : ∀ H', (∀ a o, H1 a = some o → ¬ P a → H' a = some o) → SqL K H' b ys)
    (hr : RVLz K Z μ H1 ds xs) (hr2 : RVLz K Z μ H1 es ys) : ItD K Z μ P (Itz K a b) H1 (zipD ds es) := by
  intro i H' k
  have q := hs H' k
  have q2 := hs2 H' k
  refine ⟨fun z hz => ?_, fun hl => ⟨xs, ys, q, q2, ?_⟩⟩
  · obtain ⟨d, e, hd, he, rfl⟩ := zipD_get hz
    obtain ⟨v, hv, rv⟩ := RVL.get hr.old hd
    obtain ⟨u, hu, ru⟩ := RVL.get hr2.old he
    exact ⟨⟨xs, ys, v, u, q, q2, hv, hu⟩, fun x H'' ⟨T, y1, y2, e1, n, e2, h1, h2⟩ => by
      subst e1 e2
      have t1 := h1 xs q
      rw [hv] at t1; cases t1
      have t2 := h2 ys q2
      rw [hu] at t2; cases t2
      exact new_pair n (RV.keepP W hP k rv) (RV.keepP W hP k ru)⟩
  · rw [RVL.length hr, RVL.length hr2]
    rw [zipD_len] at hl
    omega
theorem itD_zipT {a b : Addr} {xs ys : List V} {ds es : List D} (W : Wd K Z μ H1 S) (hP : ∀ a, P a → a ∈ μ) (hs : SqT K H1 a xs) (hs2 : SqT K H1 b ys)
    (hr : RVLz K Z μ H1 ds xs) (hr2 : RVLz K Z μ H1 es ys) : ItD K Z μ P (RZ.ItzT K a b) H1 (zipD ds es) := by
  intro i H' k
  have q := sqT_keep W hP k hs
  have q2 := sqT_keep W hP k hs2
  refine ⟨fun z hz => ?_, fun hl => ⟨xs, ys, q, q2, ?_⟩⟩
  · obtain ⟨d, e, hd, he, rfl⟩ := zipD_get hz
    obtain ⟨v, hv, rv⟩ := RVL.get hr.old hd
    obtain ⟨u, hu, ru⟩ := RVL.get hr2.old he
    exact ⟨⟨xs, ys, v, u, q, q2, hv, hu⟩, fun x H'' ⟨T, y1, y2, e1, n, e2, h1, h2⟩ => by
      subst e1 e2
      have t1 := h1 xs q
      rw [hv] at t1; cases t1
      have t2 := h2 ys q2
      rw [hu] at t2; cases t2
      exact new_pair n (RV.keepP W hP k rv) (RV.keepP W hP k ru)⟩
  · rw [RVL.length hr, RVL.length hr2]
    rw [zipD_len] at hl
    omega
/-- lo, lo + c, .. -/
def rngD (lo c : Int) (n : Nat) : List D := (List.range n).map fun (k : Nat) => .int (lo + (k : Int) * c)
theorem rngD_get {lo c : Int} {n i : Nat} {d : D} (h : (rngD lo c n)[i]? = some d) : i < n ∧ d = .int (lo + (i : Int) * c) := by
  unfold rngD at h
  rw [List.getElem?_map, Option.map_eq_some_iff] at h
  obtain ⟨k, h1, h2⟩ := h
  obtain ⟨h3, h4⟩ := List.getElem?_eq_some_iff.mp h1
  rw [List.getElem_range] at h4
  subst h4
  exact ⟨by simpa using h3, h2.symm⟩
theorem itD_rng {lo : Int} {n : Nat} : ItD K Z μ P (Itr lo n) H1 (rngD lo 1 n) := by
  intro i H' k
  refine ⟨fun d hd => ?_, fun hl => by
    have q : n ≤ i := by simpa [rngD] using hl
    exact q⟩
  obtain ⟨hi, rfl⟩ := rngD_get hd
  exact ⟨hi, fun x H'' ⟨e, y⟩ => by
    subst e y
    exact ⟨Same.refl _, rv_int.mpr (by rw [Int.mul_one])⟩⟩
theorem itD_rngC {lo c : Int} {n : Nat} : ItD K Z μ P (Itc lo c n) H1 (rngD lo c n) := by
  intro i H' k
  refine ⟨fun d hd => ?_, fun hl => by
    have q : n ≤ i := by simpa [rngD] using hl
    exact q⟩
  obtain ⟨hi, rfl⟩ := rngD_get hd
  exact ⟨hi, fun x H'' ⟨e, y⟩ => by
    subst e y
    exact ⟨Same.refl _, rv_int.mpr rfl⟩⟩
end

/-- a sequence that stays as it is -/
def seqV : D → Option (List D)
  | .tup ds => some ds
  | .lst ds => some ds
  | .scr ns => some (ns.map .int)
  | _ => none
theorem seqV_D {S : Sto} {d : D} {ds : List D} (h : seqV d = some ds) : seqD S d = some ds := by
  cases d <;> simp [seqV] at h <;> simp [seqD, h]
section
variable {K : PySem.W.Frag} {Z : Fr} {μ : List Addr} {H1 H' : Hp} {S : Sto}
theorem seqV_of {d : D} {ds : List D} {v : V} (W : Wd K Z μ H1 S) (r : RVz K Z μ H1 d v) (h : seqV d = some ds) :
    ∃ a xs, v = .ref a ∧ ((∀ H', (∀ a o, H1 a = some o → ¬ a ∈ μ → H' a = some o) → SqL K H' a xs) ∨ SqT K H1 a xs) ∧ RVLz K Z μ H1 ds xs := by
  cases d with
  | tup es =>
    simp only [seqV, Option.some.injEq] at h; subst h
    obtain ⟨a, xs, e, h1, h2⟩ := rv_tup.mp r
    exact ⟨a, xs, e, .inr (SqT.of h1), h2⟩
  | lst es =>
    simp only [seqV, Option.some.injEq] at h; subst h
    obtain ⟨a, xs, e, h1, n, h2⟩ := rv_lst.mp r
    exact ⟨a, xs, e, .inl fun H' k => SqL.of (k a _ h1 fun m => n (.inr m)), h2⟩
  | scr ns =>
    simp only [seqV, Option.some.injEq] at h; subst h
    obtain ⟨a, e, h1⟩ := rv_scr.mp r
    refine ⟨a, _, e, .inl fun H' k => ?_, rvl_ints ns⟩
    rcases h1 with ⟨o, h1⟩ | h1
    · exact .inl (.inr ⟨o, k a _ h1 fun m => by
        obtain ⟨u, e', m'⟩ := W.mem m
        rw [h1] at e'; cases e'; cases m'⟩)
    · exact h1 H'
  | _ => simp [seqV] at h
end
def iSeqD (f : E) : EL := fun ρ S => (f ρ S).bind seqV
def jSeqD (f : E) : EL := fun ρ S => (f ρ S).bind (seqD S)
theorem di_seq (h : PE X e (tD X.K fa)) : PI X tg e (tI X.K (iSeqD fa)) := pi_imp (pi_seq h) fun σ H R ⟨Z, μ, ρ, S, Rl, ds, ef, q⟩ => by
  simp only [iSeqD, Option.bind_eq_some_iff] at ef
  obtain ⟨d, e1, e2⟩ := ef
  refine ⟨Z, μ, ρ, S, Rl, d, e1, fun v H1 s1 r1 => ?_⟩
  obtain ⟨a, xs, rfl, hs, hr⟩ := seqV_of (Rl.wd.mono s1) r1 e2
  refine ⟨a, xs, rfl, ?_⟩
  rcases hs with hs | hs
  · exact .inl ⟨hs H1 fun _ _ h _ => h, q _ H1 s1 (itD_list (Rl.wd.mono s1) (fun _ z => z) hs hr)⟩
  · exact .inr ⟨hs, q _ H1 s1 (itD_tup (Rl.wd.mono s1) (fun _ z => z) hs hr)⟩
theorem dj_seq (h : PE X e (tD X.K fa)) : PI X tg e (tJ X.K (jSeqD fa)) := pi_imp (pi_seq h) fun σ H R ⟨Z, μ, ρ, S, Rl, ds, ef, q⟩ => by
  simp only [jSeqD, Option.bind_eq_some_iff] at ef
  obtain ⟨d, e1, e2⟩ := ef
  refine ⟨Z, μ, ρ, S, Rl, d, e1, fun v H1 s1 r1 => ?_⟩
  obtain ⟨a, xs, rfl, hs, hr⟩ := seq_of (Rl.wd.mono s1) r1 e2
  refine ⟨a, xs, rfl, ?_⟩
  rcases hs with hs | hs
  · exact .inl ⟨hs, q _ H1 s1 (itD_list (Rl.wd.mono s1) (fun _ z => z.elim) (fun H' k => by
      rcases hs with (hs | ⟨o, hs⟩) | hs
      · exact .inl (.inl (k _ _ hs fun z => z))
      · exact .inl (.inr ⟨o, k _ _ hs fun z => z⟩)
      · exact .inr hs) hr)⟩
  · exact .inr ⟨hs, q _ H1 s1 (itD_tup (Rl.wd.mono s1) (fun _ z => z.elim) hs hr)⟩
def lim62 (i : Int) : Bool := Nat.blt i.natAbs 4611686018427387904
theorem lim62_of {i : Int} (h : lim62 i = true) : -(2 ^ 62) ≤ i ∧ i < 2 ^ 62 := by
  have h' : i.natAbs < 4611686018427387904 := by
    have := h
    unfold lim62 at this
    exact Nat.le_of_ble_eq_true this
  omega
def rng1 : List D → Option (List D)
  | [.int j] => if lim62 j then some (rngD 0 1 j.toNat) else none
  | _ => none
def rng2 : List D → Option (List D)
  | [.int i, .int j] => if lim62 i && lim62 j then some (rngD i 1 (j - i).toNat) else none
  | _ => none
def rng3 : List D → Option (List D)
  | [.int i, .int j, .int c] => if lim62 i && lim62 j && decide (c = -1) then some (rngD i (-1) (i - j).toNat) else none
  | _ => none
def iRng (g : List D → Option (List D)) (fs : EL) : EL := fun ρ S => (fs ρ S).bind g
theorem di_rng1 {a : Expr} {fs : EL} {p pos : Pos} (hg : Gl X "range") (hm : X.mg "range" = none) (ha : PA X [a] (tA X.K fs)) (hs : starEach [a] X.env = [(false, eval a X.env)] := by rfl) : PI X tg (.Call (.Name "range" p) [a] [] pos) (tI X.K (iRng rng1 fs)) :=
  pi_imp (pi_range1 hg hm ha hs) fun σ H R ⟨Z, μ, ρ, S, Rl, ds, ef, q⟩ => by
    simp only [iRng, Option.bind_eq_some_iff] at ef
    obtain ⟨es, e1, e2⟩ := ef
    refine ⟨Z, μ, ρ, S, Rl, es, e1, fun vs H1 s1 r1 => ?_⟩
    unfold rng1 at e2
    split at e2
    · split at e2
      · rename_i hl
        cases e2
        obtain ⟨v, rfl, rv⟩ := rvl1 r1
        rw [rv_int.mp rv]
        exact ⟨_, rfl, (lim62_of hl).1, (lim62_of hl).2, q _ H1 s1 itD_rng⟩
      · cases e2
    · cases e2
theorem di_rng2 {a b : Expr} {fs : EL} {p pos : Pos} (hg : Gl X "range") (hm : X.mg "range" = none) (ha : PA X [a, b] (tA X.K fs)) (hs : starEach [a, b] X.env = [(false, eval a X.env), (false, eval b X.env)] := by rfl) (hs2 : starEach [b] X.env = [(false, eval b X.env)] := by rfl) : PI X tg (.Call (.Name "range" p) [a, b] [] pos) (tI X.K (iRng rng2 fs)) :=
  pi_imp (pi_range2 hg hm ha hs hs2) fun σ H R ⟨Z, μ, ρ, S, Rl, ds, ef, q⟩ => by
    simp only [iRng, Option.bind_eq_some_iff] at ef
    obtain ⟨es, e1, e2⟩ := ef
    refine ⟨Z, μ, ρ, S, Rl, es, e1, fun vs H1 s1 r1 => ?_⟩
    unfold rng2 at e2
    split at e2
    · split at e2
      · rename_i hl
        cases e2
        rw [Bool.and_eq_true] at hl
        obtain ⟨v, u, rfl, rv, ru⟩ := rvl2 r1
        rw [rv_int.mp rv, rv_int.mp ru]
        have h1 := lim62_of hl.1
        have h2 := lim62_of hl.2
        exact ⟨_, _, rfl, ⟨h1.1, h1.2, h2.1, h2.2⟩, q _ H1 s1 itD_rng⟩
      · cases e2
    · cases e2
theorem di_rng3 {a b c : Expr} {fs : EL} {p pos : Pos} (hg : Gl X "range") (hm : X.mg "range" = none) (ha : PA X [a, b, c] (tA X.K fs))
    (hs : starEach [a, b, c] X.env = (false, eval a X.env) :: starEach [b, c] X.env := by rfl) (hpl : (backTo pos (starEach [b, c] X.env)).any (·.1) = false := by rfl) : PI X tg (.Call (.Name "range" p) [a, b, c] [] pos) (tI X.K (iRng rng3 fs)) :=
  pi_imp (pi_range3 hg hm ha hs hpl) fun σ H R ⟨Z, μ, ρ, S, Rl, ds, ef, q⟩ => by
    simp only [iRng, Option.bind_eq_some_iff] at ef
    obtain ⟨es, e1, e2⟩ := ef
    refine ⟨Z, μ, ρ, S, Rl, es, e1, fun vs H1 s1 r1 => ?_⟩
    unfold rng3 at e2
    split at e2
    · split at e2
      · rename_i hl
        cases e2
        simp only [Bool.and_eq_true, decide_eq_true_eq] at hl
        obtain ⟨⟨l1, l2⟩, rfl⟩ := hl
        obtain ⟨v, vs, rfl, rv, r2⟩ := rvl_cons.mp r1
        obtain ⟨u, w, rfl, ru, rw'⟩ := rvl2 r2
        rw [rv_int.mp rv, rv_int.mp ru, rv_int.mp rw']
        have h1 := lim62_of l1
        have h2 := lim62_of l2
        exact ⟨_, _, _, _, rfl, RgC.neg h1.1 h1.2 h2.1 h2.2, q _ H1 s1 itD_rngC⟩
      · cases e2
    · cases e2
def iEnumD (fs : EL) : EL := fun ρ S => (fs ρ S).bind fun ds => match ds with
  | [x] => (seqV x).map enumD
  | _ => none
theorem di_enum {e : Expr} {fs : EL} {p pos tpos : Pos} {elts : List Expr} {kk : Nat} (hg : Gl X "enumerate") (hm : X.mg "enumerate" = none) (ha : PA X [e] (tA X.K fs)) (hs : starEach [e] X.env = [(false, eval e X.env)] := by rfl) :
    PI X (.Tuple elts kk tpos) (.Call (.Name "enumerate" p) [e] [] pos) (tI X.K (iEnumD fs)) :=
  pi_imp (pi_enumA hg hm ha hs) fun σ H R ⟨Z, μ, ρ, S, Rl, ds, ef, q⟩ => by
    simp only [iEnumD, Option.bind_eq_some_iff] at ef
    obtain ⟨es, e1, e2⟩ := ef
    refine ⟨Z, μ, ρ, S, Rl, es, e1, fun vs H1 s1 r1 => ?_⟩
    split at e2
    · rw [Option.map_eq_some_iff] at e2
      obtain ⟨xs, e2, rfl⟩ := e2
      obtain ⟨v, rfl, rv⟩ := rvl1 r1
      obtain ⟨a, ys, rfl, hs, hr⟩ := seqV_of (Rl.wd.mono s1) rv e2
      refine ⟨a, ys, rfl, ?_⟩
      rcases hs with hs | hs
      · exact .inl ⟨hs H1 fun _ _ h _ => h, q _ H1 s1 (itD_enumL (Rl.wd.mono s1) (fun _ z => z) hs hr)⟩
      · exact .inr ⟨hs, q _ H1 s1 (itD_enumT (Rl.wd.mono s1) (fun _ z => z) hs hr)⟩
    · cases e2
def isTup : D → Bool
  | .tup _ => true
  | _ => false
def iZipD (fs : EL) : EL := fun ρ S => (fs ρ S).bind fun ds => match ds with
  | [x, y] => if isTup x == isTup y then (seqV x).bind fun a => (seqV y).map fun b => zipD a b else none
  | _ => none
theorem di_zip {e e2 : Expr} {fs : EL} {p pos tpos : Pos} {elts : List Expr} {kk : Nat} (hg : Gl X "zip") (hm : X.mg "zip" = none) (ha : PA X [e, e2] (tA X.K fs))
    (hs : starEach [e, e2] X.env = (false, eval e X.env) :: starEach [e2] X.env := by rfl) (hpl : (backTo pos (starEach [e2] X.env)).any (·.1) = false := by rfl) :
    PI X (.Tuple elts kk tpos) (.Call (.Name "zip" p) [e, e2] [] pos) (tI X.K (iZipD fs)) :=
  pi_imp (RZ.pi_zipA hg hm ha hs hpl) fun σ H R ⟨Z, μ, ρ, S, Rl, ds, ef, q⟩ => by
    simp only [iZipD, Option.bind_eq_some_iff] at ef
    obtain ⟨es, e1, e2⟩ := ef
    refine ⟨Z, μ, ρ, S, Rl, es, e1, fun vs H1 s1 r1 => ?_⟩
    split at e2
    · rename_i x y
      split at e2
      · rename_i ht
        simp only [Option.bind_eq_some_iff, Option.map_eq_some_iff] at e2
        obtain ⟨as, ea, bs, eb, rfl⟩ := e2
        obtain ⟨v, u, rfl, rv, ru⟩ := rvl2 r1
        have W := Rl.wd.mono s1
        have lt : ∀ {d : D} {ds : List D} {v : V}, RVz X.K Z μ H1 d v → seqV d = some ds → isTup d = true → ∃ a xs, v = .ref a ∧ SqT X.K H1 a xs ∧ RVLz X.K Z μ H1 ds xs := by
          intro d ds v r h1 h2
          cases d <;> simp [isTup] at h2
          simp only [seqV, Option.some.injEq] at h1; subst h1
          obtain ⟨a, xs, e, h3, h4⟩ := rv_tup.mp r
          exact ⟨a, xs, e, SqT.of h3, h4⟩
        have ll : ∀ {d : D} {ds : List D} {v : V}, RVz X.K Z μ H1 d v → seqV d = some ds → isTup d = false → ∃ a xs, v = .ref a ∧ (∀ H', (∀ a o, H1 a = some o → ¬ a ∈ μ → H' a = some o) → SqL X.K H' a xs) ∧ RVLz X.K Z μ H1 ds xs := by
          intro d ds v r h1 h2
          obtain ⟨a, xs, e, hs, hr⟩ := seqV_of W r h1
          rcases hs with hs | hs
          · exact ⟨a, xs, e, hs, hr⟩
          · cases d with
            | tup _ => simp [isTup] at h2
            | lst es =>
              simp only [seqV, Option.some.injEq] at h1; subst h1
              obtain ⟨a, xs, e, h1, n, h2⟩ := rv_lst.mp r
              exact ⟨a, xs, e, fun H' k => SqL.of (k a _ h1 fun m => n (.inr m)), h2⟩
            | scr ns =>
              simp only [seqV, Option.some.injEq] at h1; subst h1
              obtain ⟨a, e, h1⟩ := rv_scr.mp r
              refine ⟨a, _, e, fun H' k => ?_, rvl_ints ns⟩
              rcases h1 with ⟨o, h1⟩ | h1
              · exact .inl (.inr ⟨o, k a _ h1 fun m => by
                  obtain ⟨u, e', m'⟩ := W.mem m
                  rw [h1] at e'; cases e'; cases m'⟩)
              · exact h1 H'
            | _ => simp [seqV] at h1
        cases tx : isTup x with
        | true =>
          rw [tx] at ht
          have ty : isTup y = true := by simpa using ht
          obtain ⟨a, xs, rfl, h1, h2⟩ := lt rv ea tx
          obtain ⟨b, ys, rfl, h3, h4⟩ := lt ru eb ty
          exact ⟨a, b, xs, ys, rfl, .inr ⟨h1, h3, q _ H1 s1 (itD_zipT W (fun _ z => z) h1 h3 h2 h4)⟩⟩
        | false =>
          rw [tx] at ht
          have ty : isTup y = false := by
            cases h : isTup y
            · rfl
            · rw [h] at ht; exact absurd ht (by decide)
          obtain ⟨a, xs, rfl, h1, h2⟩ := ll rv ea tx
          obtain ⟨b, ys, rfl, h3, h4⟩ := ll ru eb ty
          exact ⟨a, b, xs, ys, rfl, .inl ⟨h1 H1 fun _ _ h _ => h, h3 H1 fun _ _ h _ => h, q _ H1 s1 (itD_zipL W (fun _ z => z) h1 h3 h2 h4)⟩⟩
      · cases e2
    · cases e2
end
end DL

set_option maxHeartbeats 4000000
namespace DL
open PySem PySem.Spec L2

/-! ### targets -/
abbrev G := D → Rho → Option Rho
abbrev Gs := List D → Rho → Option Rho
def tG (K : PySem.W.Frag) (vs : List Nat) (g : G) : TG := fun v σ H Q => ∃ Z μ ρ S d, Rel K Z μ σ H ρ S ∧ RVz K Z μ H d v ∧ ∃ ρ', g d ρ = some ρ' ∧
  ∀ σ', Rel K Z μ σ' H ρ' S → (∀ j, j ∉ vs → σ'[j]? = σ[j]?) → σ'.length = σ.length → Q σ' H
def tGs (K : PySem.W.Frag) (vs : List Nat) (g : Gs) : TGs := fun xs σ H Q => ∃ Z μ ρ S ds, Rel K Z μ σ H ρ S ∧ RVLz K Z μ H ds xs ∧ ∃ ρ', g ds ρ = some ρ' ∧
  ∀ σ', Rel K Z μ σ' H ρ' S → (∀ j, j ∉ vs → σ'[j]? = σ[j]?) → σ'.length = σ.length → Q σ' H
def gN (i : Nat) : G := fun d ρ => some (ρ.set i (some d))
def gT (n : Nat) (gs : Gs) : G := fun d ρ => match d with
  | .tup ds => if ds.length = n then gs ds ρ else none
  | _ => none
def gNil : Gs := fun ds ρ => match ds with
  | [] => some ρ
  | _ => none
def gCons (g : G) (gs : Gs) : Gs := fun ds ρ => match ds with
  | d :: ds => (g d ρ).bind fun ρ' => gs ds ρ'
  | [] => none
section
variable {X : Cx} {e : Expr} {es : List Expr} {pos : Pos}
theorem pgs_imp {t t' : TGs} (h : PGs X es t) (i : ∀ v σ H Q, t' v σ H Q → t v σ H Q) : PGs X es t' := ⟨fun pins s σ H v u Q I r q => h.run pins s σ H v u Q I r (i v σ H Q q)⟩
theorem dg_name {i : Nat} {x : Str} (hN : X.N.Nodup) (hi : X.N[i]? = some x) (hx : Loc X.env.scope x) (hf : X.fn x = true ∨ X.env.scope.names.lookup x = some .local := by first | exact .inl rfl | exact .inr rfl | assumption) : PG X (.Name x pos) (tG X.K [i] (gN i)) :=
  pg_imp (pg_name hN hi hx hf) fun v σ H Q ⟨Z, μ, ρ, S, d, R, r, ρ', e, q⟩ => by
    simp only [gN, Option.some.injEq] at e
    subst e
    exact q _ (R.set r) (fun j hj => by rw [List.getElem?_set_ne (by simpa using fun h => hj (by simp [h]))]) (List.length_set ..)
theorem dgs_nil : PGs X [] (tGs X.K [] gNil) := pgs_imp pgs_nil fun v σ H Q ⟨Z, μ, ρ, S, ds, R, r, ρ', e, q⟩ => by
  unfold gNil at e
  split at e
  · cases e
    exact ⟨rvl_nil.mp r, q σ R (fun _ _ => rfl) rfl⟩
  · cases e
theorem dgs_cons {v1 v2 : List Nat} {g : G} {gs : Gs} (h1 : PG X e (tG X.K v1 g)) (h2 : PGs X es (tGs X.K v2 gs)) (hs : (assignEach (e :: es) X.env).map (·.2) = assign e X.env :: (assignEach es X.env).map (·.2) := by rfl) : PGs X (e :: es) (tGs X.K (v1 ++ v2) (gCons g gs)) :=
  pgs_imp (pgs_cons h1 h2 hs) fun v σ H Q ⟨Z, μ, ρ, S, ds, R, r, ρ', e, q⟩ => by
    unfold gCons at e
    split at e
    · rename_i d ds
      rw [Option.bind_eq_some_iff] at e
      obtain ⟨ρ1, e1, e2⟩ := e
      obtain ⟨y, ys, rfl, ry, rys⟩ := rvl_cons.mp r
      refine ⟨y, ys, rfl, Z, μ, ρ, S, d, R, ry, ρ1, e1, fun σ1 R1 k1 l1 => ?_⟩
      refine ⟨Z, μ, ρ1, S, ds, R1, rys, ρ', e2, fun σ2 R2 k2 l2 => q σ2 R2 (fun j hj => ?_) (l2.trans l1)⟩
      rw [k2 j fun h => hj (List.mem_append_right _ h), k1 j fun h => hj (List.mem_append_left _ h)]
    · cases e
theorem dg_tup {vs : List Nat} {gs : Gs} {k n : Nat} (hc : X.calm = true) (h : PGs X es (tGs X.K vs gs)) (hn : (assignEach es X.env).length = n := by rfl) (hst : (assignEach es X.env).findIdx? (·.1) = none := by rfl) : PG X (.Tuple es k pos) (tG X.K vs (gT n gs)) :=
  pg_imp (pg_tup hc h hn hst) fun v σ H Q ⟨Z, μ, ρ, S, d, R, r, ρ', e, q⟩ => by
    unfold gT at e
    split at e
    · split at e
      · rename_i ds hl
        obtain ⟨a, xs, rfl, hs, hr⟩ := rv_tup.mp r
        exact ⟨a, xs, rfl, SqT.of hs, by rw [RVL.length hr]; exact hl, Z, μ, ρ, S, ds, R, hr, ρ', e, q⟩
      · cases e
    · cases e
end

/-! ### comprehensions -/
def wipeR (ρ : Rho) : List Nat → Rho
  | [] => ρ
  | v :: vs => (wipeR ρ vs).set v none
theorem wipeR_len (ρ : Rho) : ∀ vs, (wipeR ρ vs).length = ρ.length
  | [] => rfl
  | v :: vs => by unfold wipeR; rw [List.length_set, wipeR_len ρ vs]
theorem wipeR_some {ρ : Rho} {i : Nat} {x : D} : ∀ {vs : List Nat}, (wipeR ρ vs)[i]? = some (some x) → ρ[i]? = some (some x) ∧ i ∉ vs
  | [], h => ⟨h, by simp⟩
  | v :: vs, h => by
    unfold wipeR at h
    by_cases hi : v = i
    · subst hi
      by_cases hv : v < (wipeR ρ vs).length
      · rw [List.getElem?_set_self hv] at h; cases h
      · rw [List.getElem?_eq_none (by simpa using hv)] at h; cases h
    · rw [List.getElem?_set_ne hi] at h
      obtain ⟨h1, h2⟩ := wipeR_some h
      exact ⟨h1, by simp only [List.mem_cons, not_or]; exact ⟨fun e => hi e.symm, h2⟩⟩
theorem wipe_in {σ : L2.St} {i : Nat} : ∀ {vs : List Nat}, i ∈ vs → i < σ.length → (wipe σ vs)[i]? = some none
  | [], h, _ => by cases h
  | v :: vs, h, hl => by
    unfold wipe
    by_cases hi : v = i
    · subst hi
      rw [List.getElem?_set_self (by rw [wipe_length]; exact hl)]
    · rw [List.getElem?_set_ne hi]
      exact wipe_in ((List.mem_cons.mp h).resolve_left fun e => hi e.symm) hl
theorem wipe_eq {σ σ' : L2.St} {vs : List Nat} (hl : σ'.length = σ.length) (h : ∀ j, j ∉ vs → σ'[j]? = σ[j]?) : wipe σ' vs = wipe σ vs := by
  apply List.ext_getElem?
  intro i
  by_cases hi : i ∈ vs
  · by_cases hl' : i < σ.length
    · rw [wipe_in hi hl', wipe_in hi (by rw [hl]; exact hl')]
    · rw [List.getElem?_eq_none (by rw [wipe_length]; omega), List.getElem?_eq_none (by rw [wipe_length]; omega)]
  · rw [wipe_out hi, wipe_out hi, h i hi]
theorem wipe_wipe {σ : L2.St} {vs : List Nat} : wipe (wipe σ vs) vs = wipe σ vs := wipe_eq (wipe_length σ vs) fun j hj => wipe_out hj
section
variable {K : PySem.W.Frag} {Z : Fr} {μ : List Addr} {H H' : Hp} {S : Sto} {σ : L2.St} {ρ : Rho}
theorem Rel.wipe (R : Rel K Z μ σ H ρ S) (vs : List Nat) : Rel K Z μ (L2.wipe σ vs) H (wipeR ρ vs) S :=
  ⟨R.wd, by rw [wipeR_len, wipe_length]; exact R.len, fun i d h => by
    obtain ⟨h1, h2⟩ := wipeR_some h
    rw [wipe_out h2]
    exact R.env i d h1⟩
/-- one place more that values may not lean on -/
def Fr.plus (Z : Fr) (b : Addr) : Fr := { Z with A := fun a => Z.A a ∨ a = b }
theorem RV.plus {b : Addr} (s : Same H H') (n : H b = none) {d : D} {v : V} (h : RVz K Z μ H d v) : RVz K (Z.plus b) μ H' d v :=
  RV.tr (fun a o e hn => ⟨s a o e, fun m q => by
    rcases q with (q | q) | q
    · exact hn m (.inl q)
    · subst q; rw [n] at e; cases e
    · exact hn m (.inr q)⟩) (fun _ _ e => e) d v h
theorem RVL.plus {b : Addr} (s : Same H H') (n : H b = none) {d : List D} {v : List V} (h : RVLz K Z μ H d v) : RVLz K (Z.plus b) μ H' d v :=
  RVL.tr (fun a o e hn => ⟨s a o e, fun m q => by
    rcases q with (q | q) | q
    · exact hn m (.inl q)
    · subst q; rw [n] at e; cases e
    · exact hn m (.inr q)⟩) (fun _ _ e => e) d v h
theorem RC.plus {a b : Addr} {c : Cell} (s : Same H H') (n : H b = none) (h : RC K Z μ H a c) : RC K (Z.plus b) μ H' a c := by
  cases c with
  | lst ds => obtain ⟨xs, q, r⟩ := h; exact ⟨xs, s _ _ q, RVL.plus s n r⟩
  | dic t ks vs =>
    rcases h with ⟨t, kvs, q, e, r⟩ | ⟨t, kvs, q, e, r⟩
    · exact .inl ⟨t, kvs, s _ _ q, e, RVL.plus s n r⟩
    · exact .inr ⟨t, kvs, s _ _ q, e, RVL.plus s n r⟩
  | ins c fs vs => obtain ⟨C, dx, fvs, q, k, e, r⟩ := h; exact ⟨C, dx, fvs, s _ _ q, k, e, RVL.plus s n r⟩
  | lck => obtain ⟨o, u, q, l⟩ := h; exact ⟨o, u, s _ _ q, l⟩
theorem Rel.plus {b : Addr} (R : Rel K Z μ σ H ρ S) (s : Same H H') (n : H b = none) (t : H' b ≠ none) : Rel K (Z.plus b) μ σ H' ρ S := by
  refine ⟨⟨R.wd.len, R.wd.nd, fun i c a h1 h2 => (R.wd.cell i c a h1 h2).plus s n, fun a o e => s _ _ (R.wd.base a o e), R.wd.dis, fun a h => ?_, fun a h q => ?_, R.wd.root⟩, R.len, fun i d h => ?_⟩
  · rcases h with h | h
    · exact (R.wd.mono s).av a h
    · subst h; exact t
  · rcases q with q | q
    · exact R.wd.disA a h q
    · subst q
      obtain ⟨o, e, _⟩ := R.wd.mem h
      rw [n] at e; cases e
  · obtain ⟨v, h1, h2⟩ := R.env i d h
    exact ⟨v, h1, RV.plus s n h2⟩
end
def bYes : EB := fun _ _ => some true
def compL (g : G) (t : EB) (e : E) (ρ : Rho) (S : Sto) : List D → Option (List D)
  | [] => some []
  | d :: ds => (g d ρ).bind fun ρ1 => (t ρ1 S).bind fun b => if b then (e ρ1 S).bind fun y => (compL g t e ρ S ds).map fun ys => y :: ys else compL g t e ρ S ds
def fComp (f : EL) (vs : List Nat) (g : G) (t : EB) (e : E) : EL := fun ρ S => (f ρ S).bind fun ds => (compL g t e (wipeR ρ vs) S ds).bind fun ys => if small ys.length then some ys else none
theorem tLc_of {K : PySem.W.Frag} {f : EL} {vs vt : List Nat} {g : G} {t : EB} {e : E} (hv : ∀ i ∈ vt, i ∈ vs) {σ : L2.St} {H : Hp} {Q : VK} (h : tF K (fComp f vs g t e) σ H Q) :
    tLc (tJ K f) (tG K vt g) (tT K t) (tD K e) vs σ H Q := by
  obtain ⟨Z, μ, ρ, S, R, res, ef, q⟩ := h
  simp only [fComp, Option.bind_eq_some_iff] at ef
  obtain ⟨ds, e1, ys, e2, e3⟩ := ef
  split at e3
  case isFalse => cases e3
  rename_i hsm
  simp only [Option.some.injEq] at e3
  subst e3
  refine ⟨Z, μ, ρ, S, R, ds, e1, fun J H1 s1 it D nD => ?_⟩
  have R1 := (R.mono s1).wipe vs
  refine ⟨fun i m H => m = ds.length - i ∧ i ≤ ds.length ∧ Same H1 H ∧ ∃ acc dacc rest, H D = some (.lst acc) ∧ RVLz K (Z.plus D) μ H dacc acc ∧ compL g t e (wipeR ρ vs) S (ds.drop i) = some rest ∧ ys = dacc ++ rest,
    ⟨ds.length, by simp, Nat.zero_le _, fun c o z => by rw [upd_ne (ne_of_none z nD)]; exact z, [], [], ys, upd_same, RVL.nil', by simpa using e2, by simp⟩, ?_⟩
  rintro i m H' ⟨rfl, hi, s2, acc, dacc, rest, hD, hacc, ec, ey⟩
  obtain ⟨it1, it2⟩ := it i H' fun a o ha _ => s2 a o ha
  by_cases hlt : i < ds.length
  · obtain ⟨hgo, hyld⟩ := it1 ds[i] (List.getElem?_eq_getElem hlt)
    rw [List.drop_eq_getElem_cons hlt] at ec
    refine .inr ⟨hgo, _, fun H2 h2 => ⟨ds.length - (i + 1), by omega, rfl, hlt, h2⟩, fun x H2 hy => ?_⟩
    obtain ⟨s3, rx⟩ := hyld x H2 hy
    simp only [compL, Option.bind_eq_some_iff] at ec
    obtain ⟨ρ1, eg, b, et, ec⟩ := ec
    have R2 : Rel K (Z.plus D) μ (L2.wipe σ vs) H2 (wipeR ρ vs) S := R1.plus (s2.trans s3) nD (by rw [s3 _ _ hD]; exact fun z => by cases z)
    have rx' : RVz K (Z.plus D) μ H2 ds[i] x := RV.tr (fun a o e hn => ⟨e, fun m q => by
      rcases q with (q | q) | q
      · exact hn m (.inl (.inl q))
      · subst q; exact hn m (.inr nD)
      · exact hn m (.inl (.inr q))⟩) (fun _ _ e => e) _ _ rx
    refine ⟨Z.plus D, μ, wipeR ρ vs, S, ds[i], R2, rx', ρ1, eg, fun σ2 R3 k2 l2 => ⟨?_, ?_⟩⟩
    · exact (wipe_eq l2 fun j hj => k2 j fun h => hj (hv j h)).trans wipe_wipe
    · refine ⟨Z.plus D, μ, ρ1, S, R3, b, et, fun H3 s4 => ?_⟩
      have hD3 : H3 D = some (.lst acc) := s4 _ _ (s3 _ _ hD)
      cases b with
      | false =>
        rw [if_neg Bool.false_ne_true] at ec
        refine iteF ?_
        exact ⟨(s2.trans s3).trans s4, acc, dacc, rest, hD3, RVL.mono (s3.trans s4) hacc, ec, ey⟩
      | true =>
        rw [if_pos rfl] at ec
        refine iteT ?_
        simp only [Option.bind_eq_some_iff, Option.map_eq_some_iff] at ec
        obtain ⟨y, ee, rest', ec, rfl⟩ := ec
        refine ⟨Z.plus D, μ, ρ1, S, R3.mono s4, y, ee, fun v H4 s5 rv => ?_⟩
        have hD4 : H4 D = some (.lst acc) := s5 _ _ hD3
        have hacc4 : RVLz K (Z.plus D) μ H4 dacc acc := RVL.mono ((s3.trans s4).trans s5) hacc
        refine ⟨acc, hD4, ?_, ?_, acc ++ [v], dacc ++ [y], rest', upd_same, ?_, ec, by rw [ey]; simp⟩
        · have h1 := RVL.length hacc4
          have h2 : small ys.length = true := hsm
          have h3 : ys.length ≤ 1000000 := of_decide_eq_true h2
          have h4 : dacc.length < ys.length := by rw [ey]; simp
          have h5 : (1000000 : Nat) < sizeLine := by decide
          omega
        · intro c o z
          have z4 := s5 _ _ (s4 _ _ (s3 _ _ (s2 _ _ z)))
          rw [upd_ne (ne_of_none z nD)]
          exact z4
        · have r4 : RVLz K (Z.plus D) μ H4 (dacc ++ [y]) (acc ++ [v]) := RVL.app hacc4 (RVL.one rv)
          refine RVL.tr (fun a o e hn => ?_) (fun _ _ e => e) _ _ r4
          have ne : a ≠ D := by
            rintro rfl
            rw [hD4] at e; cases e
            exact hn rfl (.inl (.inr rfl))
          exact ⟨by rw [upd_ne ne]; exact e, hn⟩
  · have hi' : i = ds.length := by omega
    subst hi'
    simp only [List.drop_length, compL, Option.some.injEq] at ec
    subst ec
    rw [List.append_nil] at ey
    subst ey
    refine .inl ⟨it2 (Nat.le_refl _), q D acc H' (s1.free nD) (s1.trans s2) hD ?_⟩
    exact RVL.tr (fun a o e hn => ⟨e, fun m q => by
      rcases q with (q | q) | q
      · exact hn m (.inl (.inl q))
      · exact hn m (.inr q)
      · exact hn m (.inl (.inr q))⟩) (fun _ _ e => e) _ _ hacc
section
variable {X : Cx} {elt tg iter : Expr} {ifs : List Expr} {scope : Scope} {own : List (Str × Nat)} {pos : Pos}
theorem dts_nil : PTs X [] (tT X.K bYes) := ⟨fun pins s σ H Q I ⟨Z, μ, ρ, S, R, b, e, q⟩ => pts_nil.run pins s σ H Q I (by
  simp only [bYes, Option.some.injEq] at e
  subst e
  exact q H (Same.refl H))⟩
theorem dts_one {c : Expr} {t : EB} (h : PT X c (tT X.K t)) : PTs X [c] (tT X.K t) := pts_one h
theorem d_comp {f : EL} {vt : List Nat} {g : G} {t : EB} {e : E} (hc : X.calm = true) (hN : X.N.Nodup) (hi : PI X tg iter (tJ X.K f)) (ok : BlkOk X.N X.env.scope scope own)
    (hg : ∀ (s : Shared) (H : Hp) (C : Addr) (cl : List (Str × Addr)) (fp : List Addr), PG (X.blk s H scope (compEnvC scope cl C X.env) fp) tg (tG X.K vt g)) (ht : ∀ (s : Shared) (H : Hp) (C : Addr) (cl : List (Str × Addr)) (fp : List Addr), PTs (X.blk s H scope (compEnvC scope cl C X.env) fp) ifs (tT X.K t))
    (he : ∀ (s : Shared) (H : Hp) (C : Addr) (cl : List (Str × Addr)) (fp : List Addr), PE (X.blk s H scope (compEnvC scope cl C X.env) fp) elt (tD X.K e)) (hv : ∀ i ∈ vt, i ∈ own.map (·.2) := by decide) (hs : ∀ x, foldedSetIterable iter X.env x = pure x := by intro _; rfl) :
    PE X (.ListComp elt [⟨tg, iter, ifs, 0⟩] scope pos) (tF X.K (fComp f (own.map (·.2)) g t e)) :=
  pe_imp (pe_lc hc hN hi ok hg ht he hs) fun _ _ _ h => tLc_of hv h
end
end DL

set_option maxHeartbeats 4000000
namespace DL
open PySem PySem.Spec L2

/-! ### statements -/
inductive Fl where
  | nx | bk | ct | rt (d : D) | rf (ds : List D)
abbrev T := Rho → Sto → Option (Fl × Rho × Sto)
def cont (K : PySem.W.Frag) (Z : Fr) (De : Ends) (ρ : Rho) (S : Sto) : Fl → Prop
  | .nx => ∀ σ H μ, Rel K Z μ σ H ρ S → De.nx σ H
  | .bk => ∀ σ H μ, Rel K Z μ σ H ρ S → De.bk σ H
  | .ct => ∀ σ H μ, Rel K Z μ σ H ρ S → De.ct σ H
  | .rt d => ∀ v σ H μ, Rel K Z μ σ H ρ S → RVz K Z μ H d v → De.rt v H
  | .rf ds => ∀ a xs σ H μ, Rel K Z μ σ H ρ S → Z.Hb a = none → ¬ avd Z μ a → H a = some (.lst xs) → RVL K (avO Z μ a) μ H ds xs → De.rt (.ref a) H
def tS (K : PySem.W.Frag) (f : T) : TS := fun De σ H => ∃ Z μ ρ S, Rel K Z μ σ H ρ S ∧ ∃ fl ρ' S', f ρ S = some (fl, ρ', S') ∧ cont K Z De ρ' S' fl
def sSkip : T := fun ρ S => some (.nx, ρ, S)
def sBrk : T := fun ρ S => some (.bk, ρ, S)
def sCnt : T := fun ρ S => some (.ct, ρ, S)
def sSeq (f g : T) : T := fun ρ S => (f ρ S).bind fun r => match r with
  | (.nx, ρ', S') => g ρ' S'
  | r => some r
def sSet (i : Nat) (f : E) : T := fun ρ S => (f ρ S).map fun d => (.nx, ρ.set i (some d), S)
/-- a new list that the def will change -/
def sNew (i : Nat) (f : EL) : T := fun ρ S => (f ρ S).map fun ds => (.nx, ρ.set i (some (.ref S.length)), S ++ [.lst ds])
def sDrop (f : E) : T := fun ρ S => (f ρ S).map fun _ => (.nx, ρ, S)
def sRet (f : E) : T := fun ρ S => (f ρ S).map fun d => (.rt d, ρ, S)
def sRetF (f : EL) : T := fun ρ S => (f ρ S).map fun d => (.rf d, ρ, S)
def sIf (t : EB) (f g : T) : T := fun ρ S => (t ρ S).bind fun b => if b then f ρ S else g ρ S
def loopL (g : G) (body : T) : List D → T
  | [], ρ, S => some (.nx, ρ, S)
  | d :: ds, ρ, S => (g d ρ).bind fun ρ1 => (body ρ1 S).bind fun r => match r with
    | (.nx, ρ', S') => loopL g body ds ρ' S'
    | (.ct, ρ', S') => loopL g body ds ρ' S'
    | (.bk, ρ', S') => some (.nx, ρ', S')
    | r => some r
def sFor (f : EL) (g : G) (body : T) : T := fun ρ S => (f ρ S).bind fun ds => loopL g body ds ρ S
def whileN (t : EB) (body : T) : Nat → T
  | 0, _, _ => none
  | n + 1, ρ, S => (t ρ S).bind fun b => if b then (body ρ S).bind fun r => match r with
      | (.nx, ρ', S') => whileN t body n ρ' S'
      | (.ct, ρ', S') => whileN t body n ρ' S'
      | (.bk, ρ', S') => some (.nx, ρ', S')
      | r => some r
    else some (.nx, ρ, S)
open Classical in
noncomputable def sWhile (t : EB) (body : T) : T := fun ρ S => if h : ∃ n r, whileN t body n ρ S = some r then some h.choose_spec.choose else none
theorem whileN_mono {t : EB} {body : T} : ∀ {n m : Nat} {ρ : Rho} {S : Sto} {r : Fl × Rho × Sto}, n ≤ m → whileN t body n ρ S = some r → whileN t body m ρ S = some r
  | 0, _, _, _, _, _, h => by simp [whileN] at h
  | n + 1, 0, _, _, _, hm, _ => by omega
  | n + 1, m + 1, ρ, S, r, hm, h => by
    simp only [whileN, Option.bind_eq_some_iff] at h ⊢
    obtain ⟨b, e1, h⟩ := h
    refine ⟨b, e1, ?_⟩
    cases b with
    | false => exact h
    | true =>
      rw [if_pos rfl] at h ⊢
      rw [Option.bind_eq_some_iff] at h ⊢
      obtain ⟨⟨fl, ρ', S'⟩, e2, h⟩ := h
      refine ⟨_, e2, ?_⟩
      cases fl with
      | nx => exact whileN_mono (by omega) h
      | ct => exact whileN_mono (by omega) h
      | _ => exact h
theorem sWhile_of {t : EB} {body : T} {n : Nat} {ρ : Rho} {S : Sto} {r : Fl × Rho × Sto} (h : whileN t body n ρ S = some r) : sWhile t body ρ S = some r := by
  have hx : ∃ n r, whileN t body n ρ S = some r := ⟨n, r, h⟩
  unfold sWhile
  rw [dif_pos hx]
  have h2 := hx.choose_spec.choose_spec
  have a := whileN_mono (Nat.le_max_left n hx.choose) h
  have b := whileN_mono (Nat.le_max_right n hx.choose) h2
  rw [a] at b
  exact b.symm
theorem of_sWhile {t : EB} {body : T} {ρ : Rho} {S : Sto} {r : Fl × Rho × Sto} (h : sWhile t body ρ S = some r) : ∃ n, whileN t body n ρ S = some r := by
  unfold sWhile at h
  split at h
  · rename_i hx
    simp only [Option.some.injEq] at h
    rw [← h]
    exact ⟨_, hx.choose_spec.choose_spec⟩
  · cases h

section
variable {K : PySem.W.Frag} {Z : Fr} {μ μ' : List Addr} {H H1 H' : Hp} {S S' : Sto} {σ σ' : L2.St} {ρ ρ' : Rho}
/-- the frame of a loop: what stood at its start, but the cells -/
def Fr.rb (Z : Fr) (μ : List Addr) (H : Hp) : Fr := { Z with Hb := fun a => if a ∈ μ then none else H a, μ0 := μ }
theorem RC.fr {Z' : Fr} (hA : Z'.A = Z.A) {a : Addr} {c : Cell} (h : RC K Z μ H a c) : RC K Z' μ H a c := by
  have e : avd Z' μ = avd Z μ := by unfold avd; rw [hA]
  cases c with
  | lst ds => obtain ⟨xs, q, r⟩ := h; exact ⟨xs, q, by unfold RVLz; rw [e]; exact r⟩
  | dic t ks vs =>
    rcases h with ⟨t, kvs, q, k, r⟩ | ⟨t, kvs, q, k, r⟩
    · exact .inl ⟨t, kvs, q, k, by unfold RVLz; rw [e]; exact r⟩
    · exact .inr ⟨t, kvs, q, k, by unfold RVLz; rw [e]; exact r⟩
  | ins c fs vs => obtain ⟨C, dx, fvs, q, k, f, r⟩ := h; exact ⟨C, dx, fvs, q, k, f, by unfold RVLz; rw [e]; exact r⟩
  | lck => exact h
theorem Rel.rb (R : Rel K Z μ σ H ρ S) : Rel K (Z.rb μ H) μ σ H ρ S := by
  refine ⟨⟨R.wd.len, R.wd.nd, fun n c a h1 h2 => RC.fr rfl (R.wd.cell n c a h1 h2), fun a o e => ?_, fun a h => ?_, R.wd.av, R.wd.disA, List.prefix_refl μ⟩, R.len, R.env⟩
  · have e' : (if a ∈ μ then none else H a) = some o := e
    split at e'
    · cases e'
    · exact e'
  · show (if a ∈ μ then none else H a) = none
    rw [if_pos h]
theorem rb_none (W : Wd K Z μ H S) {a : Addr} (h : (Z.rb μ H).Hb a = none) : Z.Hb a = none := by
  cases q : Z.Hb a with
  | none => rfl
  | some o =>
    have h' : (if a ∈ μ then none else H a) = none := h
    have nm : ¬ a ∈ μ := fun m => by rw [W.dis a m] at q; cases q
    rw [if_neg nm, W.base a o q] at h'
    cases h'
theorem Rel.ub (W : Wd K Z μ H S) (R : Rel K (Z.rb μ H) μ' σ' H' ρ' S') : Rel K Z μ' σ' H' ρ' S' := by
  refine ⟨⟨R.wd.len, R.wd.nd, fun n c a h1 h2 => RC.fr (Z := Z.rb μ H) rfl (R.wd.cell n c a h1 h2), fun a o e => ?_, fun a h => rb_none W (R.wd.dis a h), R.wd.av, R.wd.disA, W.root.trans R.wd.root⟩, R.len, R.env⟩
  refine R.wd.base a o ?_
  show (if a ∈ μ then none else H a) = some o
  have nm : ¬ a ∈ μ := fun m => by rw [W.dis a m] at e; cases e
  rw [if_neg nm]
  exact W.base a o e
/-- between the start of a loop and now all stands but the cells -/
theorem Rel.kept (W : Wd K Z μ H S) (R : Rel K (Z.rb μ H) μ' σ' H' ρ' S') : ∀ a o, H a = some o → ¬ a ∈ μ → H' a = some o := fun a o e nm => R.wd.base a o (by
  show (if a ∈ μ then none else H a) = some o
  rw [if_neg nm]; exact e)
theorem RV.later (W : Wd K Z μ H S) (R : Rel K (Z.rb μ H) μ' σ' H' ρ' S') {H2 : Hp} (s : Same H' H2) {d : D} {v : V} (h : RV K (fun a => avd Z μ a ∨ H a = none) μ H2 d v) : RVz K (Z.rb μ H) μ' H2 d v := by
  refine RV.tr (fun a o e hn => ⟨e, fun m q => ?_⟩) (fun n a e => ?_) d v h
  · rcases q with q | q
    · exact hn m (.inl (.inl q))
    · by_cases hm : a ∈ μ
      · exact hn m (.inl (.inr hm))
      · refine hn m (.inr ?_)
        have z := R.wd.dis a q
        have z' : (if a ∈ μ then none else H a) = none := z
        rw [if_neg hm] at z'
        exact z'
  · obtain ⟨t, ht⟩ := R.wd.root
    have ht' : μ ++ t = μ' := ht
    rw [← ht', List.getElem?_append_left (List.getElem?_eq_some_iff.mp e).1]
    exact e
theorem cont_ub (W : Wd K Z μ H S) {De : Ends} {fl : Fl} (h : cont K Z De ρ' S' fl) : cont K (Z.rb μ H) De ρ' S' fl := by
  cases fl with
  | nx => exact fun σ H' μ' R => h σ H' μ' (R.ub W)
  | bk => exact fun σ H' μ' R => h σ H' μ' (R.ub W)
  | ct => exact fun σ H' μ' R => h σ H' μ' (R.ub W)
  | rt d => exact fun v σ H' μ' R r => h v σ H' μ' (R.ub W) r
  | rf ds => exact fun a xs σ H' μ' R n na h1 r => h a xs σ H' μ' (R.ub W) (rb_none W n) na h1 r
/-- the body's ends within a loop -/
theorem cont_loop {De : Ends} {N : L2.St → Hp → Prop} {fl : Fl} (h : ∀ r, (match fl with | .nx => none | .ct => none | .bk => some Fl.nx | f => some f) = some r → cont K Z De ρ' S' r)
    (hN : (fl = .nx ∨ fl = .ct) → ∀ σ H μ, Rel K Z μ σ H ρ' S' → N σ H) : cont K Z { De with nx := N, ct := N, bk := De.nx } ρ' S' fl := by
  cases fl with
  | nx => exact fun σ H μ R => hN (.inl rfl) σ H μ R
  | ct => exact fun σ H μ R => hN (.inr rfl) σ H μ R
  | bk => exact h .nx rfl
  | rt d => exact h (.rt d) rfl
  | rf d => exact h (.rf d) rfl
end

section
variable {X : Cx} {st : Stmt} {rest body ss : List Stmt} {e c : Expr} {pos : Pos} {f g : T} {fa : E} {fl : EL} {t : EB}
theorem dss_nil : PSs X [] (tS X.K sSkip) := pss_imp pss_nil fun De σ H ⟨Z, μ, ρ, S, R, fl, ρ', S', e, q⟩ => by
  simp only [sSkip, Option.some.injEq, Prod.mk.injEq] at e
  obtain ⟨rfl, rfl, rfl⟩ := e
  exact q σ H μ R
theorem dss_one (h : PS X st (tS X.K f)) : PSs X [st] (tS X.K f) := pss_one h
theorem dss_cons (h1 : PS X st (tS X.K f)) (h2 : PSs X rest (tS X.K g)) : PSs X (st :: rest) (tS X.K (sSeq f g)) :=
  pss_imp (pss_cons h1 h2) fun De σ H ⟨Z, μ, ρ, S, R, fl, ρ', S', e, q⟩ => by
    simp only [sSeq, Option.bind_eq_some_iff] at e
    obtain ⟨⟨fl1, ρ1, S1⟩, e1, e2⟩ := e
    refine ⟨Z, μ, ρ, S, R, fl1, ρ1, S1, e1, ?_⟩
    cases fl1 with
    | nx => exact fun σ1 H1 μ1 R1 => ⟨Z, μ1, ρ1, S1, R1, fl, ρ', S', e2, q⟩
    | bk => simp only [Option.some.injEq, Prod.mk.injEq] at e2; obtain ⟨rfl, rfl, rfl⟩ := e2; exact q
    | ct => simp only [Option.some.injEq, Prod.mk.injEq] at e2; obtain ⟨rfl, rfl, rfl⟩ := e2; exact q
    | rt d => simp only [Option.some.injEq, Prod.mk.injEq] at e2; obtain ⟨rfl, rfl, rfl⟩ := e2; exact q
    | rf d => simp only [Option.some.injEq, Prod.mk.injEq] at e2; obtain ⟨rfl, rfl, rfl⟩ := e2; exact q
theorem ds_pass : PS X (.Pass pos) (tS X.K sSkip) := ps_imp ps_pass fun De σ H ⟨Z, μ, ρ, S, R, fl, ρ', S', e, q⟩ => by
  simp only [sSkip, Option.some.injEq, Prod.mk.injEq] at e
  obtain ⟨rfl, rfl, rfl⟩ := e
  exact q σ H μ R
theorem ds_break : PS X (.Break pos) (tS X.K sBrk) := ps_imp ps_break fun De σ H ⟨Z, μ, ρ, S, R, fl, ρ', S', e, q⟩ => by
  simp only [sBrk, Option.some.injEq, Prod.mk.injEq] at e
  obtain ⟨rfl, rfl, rfl⟩ := e
  exact q σ H μ R
theorem ds_continue : PS X (.Continue pos) (tS X.K sCnt) := ps_imp ps_continue fun De σ H ⟨Z, μ, ρ, S, R, fl, ρ', S', e, q⟩ => by
  simp only [sCnt, Option.some.injEq, Prod.mk.injEq] at e
  obtain ⟨rfl, rfl, rfl⟩ := e
  exact q σ H μ R
/-- a statement that never comes to be done -/
def sNever : T := fun _ _ => none
theorem ds_never : PS X st (tS X.K sNever) := ps_imp ps_never fun De σ H ⟨Z, μ, ρ, S, R, fl, ρ', S', e, q⟩ => by
  simp [sNever] at e
/-- x = e, by any rule of it -/
theorem ds_setA {te : TE} {i : Nat} (h : PS X st (tAsg te (L2.gName i))) (hi : ∀ σ H Q, tD X.K fa σ H Q → te σ H Q) : PS X st (tS X.K (sSet i fa)) :=
  ps_imp h fun De σ H ⟨Z, μ, ρ, S, R, fl, ρ', S', e, q⟩ => by
    simp only [sSet, Option.map_eq_some_iff, Prod.mk.injEq] at e
    obtain ⟨d, e1, rfl, rfl, rfl⟩ := e
    exact hi _ _ _ ⟨Z, μ, ρ, S, R, d, e1, fun v H' s r => q _ H' μ ((R.mono s).set r)⟩
theorem ds_newA {te : TE} {i : Nat} (h : PS X st (tAsg te (L2.gName i))) (hi : ∀ σ H Q, tF X.K fl σ H Q → te σ H Q) : PS X st (tS X.K (sNew i fl)) :=
  ps_imp h fun De σ H ⟨Z, μ, ρ, S, R, fl', ρ', S', e, q⟩ => by
    simp only [sNew, Option.map_eq_some_iff, Prod.mk.injEq] at e
    obtain ⟨ds, e1, rfl, rfl, rfl⟩ := e
    refine hi _ _ _ ⟨Z, μ, ρ, S, R, ds, e1, fun a xs H' n s h1 r => q _ H' (μ ++ [a]) ?_⟩
    have r1 : RC X.K Z (μ ++ [a]) H' a (.lst ds) := ⟨xs, h1, RVL.tr (fun b o e hn => ⟨e, fun m z => by
      rcases z with z | z
      · exact hn m (.inl (.inl z))
      · rcases List.mem_append.mp z with z | z
        · exact hn m (.inl (.inr z))
        · exact hn m (.inr (by simpa using z))⟩) (fun k b e => by rw [List.getElem?_append_left (List.getElem?_eq_some_iff.mp e).1]; exact e) _ _ r⟩
    refine (R.alloc s n r1).set (rv_ref.mpr ⟨a, rfl, ?_⟩)
    rw [R.wd.len, List.getElem?_append_right (Nat.le_refl _)]
    simp
theorem tF_tD {K : PySem.W.Frag} {te : TE} (hi : ∀ σ H Q, tF K fl σ H Q → te σ H Q) : ∀ σ H Q, tD K (fun ρ S => (fl ρ S).map .lst) σ H Q → te σ H Q := fun σ H Q ⟨Z, μ, ρ, S, R, d, e, q⟩ => by
  rw [Option.map_eq_some_iff] at e
  obtain ⟨ds, e1, rfl⟩ := e
  exact hi _ _ _ ⟨Z, μ, ρ, S, R, ds, e1, fun a xs H' n s h1 h2 => q _ _ s (RV.lst_of R.wd n h1 h2)⟩
def eF (f : EL) : E := fun ρ S => (f ρ S).map .lst
theorem d_F (h : PE X e (tF X.K fl)) : PE X e (tD X.K (eF fl)) := d_ofF h
section
variable {i : Nat} {x : Str} {pos' : Pos}
theorem ds_set (hN : X.N.Nodup) (hi : X.N[i]? = some x) (hx : Loc X.env.scope x) (he : PE X e (tD X.K fa)) (hs : swapsWith e (some (.Name x pos')) pos.line X.env = pure false := by rfl) (hf : X.fn x = true ∨ X.env.scope.names.lookup x = some .local := by first | exact .inl rfl | exact .inr rfl | assumption) :
    PS X (.Assign [.Name x pos'] e pos) (tS X.K (sSet i fa)) := ds_setA (ps_set hN hi hx he hs hf) fun _ _ _ h => h
theorem ds_new (hN : X.N.Nodup) (hi : X.N[i]? = some x) (hx : Loc X.env.scope x) (he : PE X e (tF X.K fl)) (hs : swapsWith e (some (.Name x pos')) pos.line X.env = pure false := by rfl) (hf : X.fn x = true ∨ X.env.scope.names.lookup x = some .local := by first | exact .inl rfl | exact .inr rfl | assumption) :
    PS X (.Assign [.Name x pos'] e pos) (tS X.K (sNew i fl)) := ds_newA (ps_set hN hi hx he hs hf) fun _ _ _ h => h
end
section
variable {i : Nat} {y : Str} {py : Pos} {elt tg iter : Expr} {ifs : List Expr} {scope : Scope} {own : List (Str × Nat)} {spos : Pos} {vt : List Nat} {g : G} {e : E}
/-- x = [..]: the model's own statement -/
theorem ds_setLc (hc : X.calm = true) (hN : X.N.Nodup) (hy : X.N[i]? = some y) (hyl : X.env.scope.names.lookup y = some .local)
    (hsw : swapsWith (.ListComp elt [⟨tg, iter, ifs, 0⟩] scope pos) (some (.Name y py)) spos.line X.env = pure true) (hi : PI X tg iter (tJ X.K fl)) (ok : BlkOk X.N X.env.scope scope own)
    (hg : ∀ (s : Shared) (H : Hp) (C : Addr) (cl : List (Str × Addr)) (fp : List Addr), PG (X.blk s H scope (compEnvC scope cl C X.env) fp) tg (tG X.K vt g)) (ht : ∀ (s : Shared) (H : Hp) (C : Addr) (cl : List (Str × Addr)) (fp : List Addr), PTs (X.blk s H scope (compEnvC scope cl C X.env) fp) ifs (tT X.K t))
    (he : ∀ (s : Shared) (H : Hp) (C : Addr) (cl : List (Str × Addr)) (fp : List Addr), PE (X.blk s H scope (compEnvC scope cl C X.env) fp) elt (tD X.K e)) (hv : ∀ i ∈ vt, i ∈ own.map (·.2) := by decide) (hs : ∀ x, foldedSetIterable iter X.env x = pure x := by intro _; rfl) :
    PS X (.Assign [.Name y py] (.ListComp elt [⟨tg, iter, ifs, 0⟩] scope pos) spos) (tS X.K (sSet i (eF (fComp fl (own.map (·.2)) g t e)))) :=
  ds_setA (ps_setLc hc hN hy hyl hsw hi ok hg ht he hs) (tF_tD fun _ _ _ h => tLc_of hv h)
theorem ds_newLc (hc : X.calm = true) (hN : X.N.Nodup) (hy : X.N[i]? = some y) (hyl : X.env.scope.names.lookup y = some .local)
    (hsw : swapsWith (.ListComp elt [⟨tg, iter, ifs, 0⟩] scope pos) (some (.Name y py)) spos.line X.env = pure true) (hi : PI X tg iter (tJ X.K fl)) (ok : BlkOk X.N X.env.scope scope own)
    (hg : ∀ (s : Shared) (H : Hp) (C : Addr) (cl : List (Str × Addr)) (fp : List Addr), PG (X.blk s H scope (compEnvC scope cl C X.env) fp) tg (tG X.K vt g)) (ht : ∀ (s : Shared) (H : Hp) (C : Addr) (cl : List (Str × Addr)) (fp : List Addr), PTs (X.blk s H scope (compEnvC scope cl C X.env) fp) ifs (tT X.K t))
    (he : ∀ (s : Shared) (H : Hp) (C : Addr) (cl : List (Str × Addr)) (fp : List Addr), PE (X.blk s H scope (compEnvC scope cl C X.env) fp) elt (tD X.K e)) (hv : ∀ i ∈ vt, i ∈ own.map (·.2) := by decide) (hs : ∀ x, foldedSetIterable iter X.env x = pure x := by intro _; rfl) :
    PS X (.Assign [.Name y py] (.ListComp elt [⟨tg, iter, ifs, 0⟩] scope pos) spos) (tS X.K (sNew i (fComp fl (own.map (·.2)) g t e))) :=
  ds_newA (ps_setLc hc hN hy hyl hsw hi ok hg ht he hs) fun _ _ _ h => tLc_of hv h
end
/-- targets of any kind -/
def sAsg (f : E) (g : G) : T := fun ρ S => (f ρ S).bind fun d => (g d ρ).map fun ρ' => (.nx, ρ', S)
theorem ds_asg {tg : Expr} {g : G} {vs : List Nat} (he : PE X e (tD X.K fa)) (hg : PG X tg (tG X.K vs g)) (hs : swapsWithSole [tg] e pos.line X.env = pure false := by rfl) (hw : swappedStores [tg] e X.env = pure none := by rfl)
    (h1 : (assignEach [tg] X.env).map (·.2) = [assign tg X.env] := by rfl) : PS X (.Assign [tg] e pos) (tS X.K (sAsg fa g)) :=
  ps_imp (ps_asg he hg hs hw h1) fun De σ H ⟨Z, μ, ρ, S, R, fl, ρ', S', e, q⟩ => by
    simp only [sAsg, Option.bind_eq_some_iff, Option.map_eq_some_iff, Prod.mk.injEq] at e
    obtain ⟨d, e1, ρ1, e2, rfl, rfl, rfl⟩ := e
    exact ⟨Z, μ, ρ, S, R, d, e1, fun v H' s r => ⟨Z, μ, ρ, S, d, R.mono s, r, ρ1, e2, fun σ1 R1 _ _ => q σ1 H' μ R1⟩⟩
/-- a, b = x, y -/
def sPar (i j : Nat) (fs : EL) : T := fun ρ S => (fs ρ S).bind fun ds => match ds with
  | [d, e] => some (.nx, (ρ.set i (some d)).set j (some e), S)
  | _ => none
theorem ds_par {i j : Nat} {x y : Str} {a b : Expr} {fs : EL} {px py pt : Pos} {kt k2 pt2} (hc : X.calm = true) (hN : X.N.Nodup) (hi : X.N[i]? = some x) (hj : X.N[j]? = some y) (hij : i ≠ j)
    (hx : X.env.scope.names.lookup x = some .local) (hy : X.env.scope.names.lookup y = some .local) (ha : PA X [a, b] (tA X.K fs))
    (hw : swappedStores [.Tuple [.Name x px, .Name y py] kt pt] (.Tuple [a, b] k2 pt2) X.env = pure (some [x, y]))
    (hs : swapsWithSole [.Tuple [.Name x px, .Name y py] kt pt] (.Tuple [a, b] k2 pt2) pos.line X.env = pure false := by rfl) :
    PS X (.Assign [.Tuple [.Name x px, .Name y py] kt pt] (.Tuple [a, b] k2 pt2) pos) (tS X.K (sPar i j fs)) :=
  ps_imp (ps_par hc hN hi hj hij hx hy ha hw hs) fun De σ H ⟨Z, μ, ρ, S, R, fl, ρ', S', e, q⟩ => by
    simp only [sPar, Option.bind_eq_some_iff] at e
    obtain ⟨ds, e1, e2⟩ := e
    refine ⟨Z, μ, ρ, S, R, ds, e1, fun vs H1 s1 r1 => ?_⟩
    split at e2
    · simp only [Option.some.injEq, Prod.mk.injEq] at e2
      obtain ⟨rfl, rfl, rfl⟩ := e2
      obtain ⟨v, u, rfl, rv, ru⟩ := rvl2 r1
      exact ⟨v, u, rfl, q _ H1 μ (((R.mono s1).set rv).set ru)⟩
    · cases e2
/-- n += e of ints -/
def sAugI (i : Nat) (f : E) : T := fun ρ S => (f ρ S).bind fun d => match ρ[i]?, d with
  | some (some (.int a)), .int b => some (.nx, ρ.set i (some (.int (a + b))), S)
  | _, _ => none
theorem ds_aug {i : Nat} {x : Str} {pos' : Pos} (hN : X.N.Nodup) (hi : X.N[i]? = some x) (hx : Loc X.env.scope x) (he : PE X e (tD X.K fa)) (hf : X.fn x = true ∨ X.env.scope.names.lookup x = some .local := by first | exact .inl rfl | exact .inr rfl | assumption) :
    PS X (.AugAssign (.Name x pos') .Add e pos) (tS X.K (sAugI i fa)) :=
  ps_imp (ps_aug hN hi hx he ip_add hf) fun De σ H ⟨Z, μ, ρ, S, R, fl, ρ', S', e, q⟩ => by
    simp only [sAugI, Option.bind_eq_some_iff] at e
    obtain ⟨d, e1, e2⟩ := e
    split at e2
    · rename_i a b ha
      simp only [Option.some.injEq, Prod.mk.injEq] at e2
      obtain ⟨rfl, rfl, rfl⟩ := e2
      obtain ⟨v, h1, h2⟩ := R.env i _ ha
      rw [rv_int.mp h2] at h1
      refine ⟨_, h1, Z, μ, ρ, S, R, _, e1, fun u H1 s1 r1 => ?_⟩
      rw [rv_int.mp r1]
      exact ⟨_, _, rfl, rfl, q _ H1 μ ((R.mono s1).set (rv_int.mpr rfl))⟩
    · cases e2
theorem ds_expr (he : PE X e (tD X.K fa)) (hs : swapsWith e none pos.line X.env = pure false := by rfl) : PS X (.Expr e pos) (tS X.K (sDrop fa)) :=
  ps_imp (ps_expr he hs) fun De σ H ⟨Z, μ, ρ, S, R, fl, ρ', S', e, q⟩ => by
    simp only [sDrop, Option.map_eq_some_iff, Prod.mk.injEq] at e
    obtain ⟨d, e1, rfl, rfl, rfl⟩ := e
    exact ⟨Z, μ, ρ, S, R, d, e1, fun v H' s r => q σ H' μ (R.mono s)⟩
theorem ds_ret (he : PE X e (tD X.K fa)) : PS X (.Return (some e) pos) (tS X.K (sRet fa)) :=
  ps_imp (ps_ret he) fun De σ H ⟨Z, μ, ρ, S, R, fl, ρ', S', e, q⟩ => by
    simp only [sRet, Option.map_eq_some_iff, Prod.mk.injEq] at e
    obtain ⟨d, e1, rfl, rfl, rfl⟩ := e
    exact ⟨Z, μ, ρ, S, R, d, e1, fun v H' s r => q v σ H' μ (R.mono s) r⟩
theorem ds_retF (he : PE X e (tF X.K fl)) : PS X (.Return (some e) pos) (tS X.K (sRetF fl)) :=
  ps_imp (ps_ret he) fun De σ H ⟨Z, μ, ρ, S, R, fl', ρ', S', e, q⟩ => by
    simp only [sRetF, Option.map_eq_some_iff, Prod.mk.injEq] at e
    obtain ⟨d, e1, rfl, rfl, rfl⟩ := e
    exact ⟨Z, μ, ρ, S, R, d, e1, fun a xs H' n s h1 r => q a xs σ H' μ (R.mono s) (R.wd.newB n) (R.wd.fresh n) h1 r⟩
theorem ds_retN : PS X (.Return none pos) (tS X.K (sRet (eC .non))) :=
  ps_imp ps_retN fun De σ H ⟨Z, μ, ρ, S, R, fl, ρ', S', e, q⟩ => by
    simp only [sRet, eC, Option.map_some, Option.some.injEq, Prod.mk.injEq] at e
    obtain ⟨rfl, rfl, rfl⟩ := e
    exact q .non σ H μ R (rv_non.mpr rfl)
theorem ds_if {a b : List Stmt} (hc : PT X c (tT X.K t)) (ha : PSs X a (tS X.K f)) (hb : PSs X b (tS X.K g)) : PS X (.If c a b pos) (tS X.K (sIf t f g)) :=
  ps_imp (ps_if hc ha hb) fun De σ H ⟨Z, μ, ρ, S, R, fl, ρ', S', e, q⟩ => by
    simp only [sIf, Option.bind_eq_some_iff] at e
    obtain ⟨k, e1, e2⟩ := e
    refine ⟨Z, μ, ρ, S, R, k, e1, fun H' s => ?_⟩
    cases k with
    | true => rw [if_pos rfl] at e2; exact iteT ⟨Z, μ, ρ, S, R.mono s, fl, ρ', S', e2, q⟩
    | false => rw [if_neg Bool.false_ne_true] at e2; exact iteF ⟨Z, μ, ρ, S, R.mono s, fl, ρ', S', e2, q⟩
theorem ds_for {iter tg : Expr} {vt : List Nat} {g : G} (hp : PassesOwn (model X.prog X.w) X.A X.env X.xe) (hc : X.calm = true) (hi : PI X tg iter (tI X.K fl)) (hg : PG X tg (tG X.K vt g)) (hb : PSs X body (tS X.K f))
    (hs : ∀ x, foldedSetIterable iter X.env x = pure x := by intro _; rfl) : PS X (.For tg iter body [] pos) (tS X.K (sFor fl g f)) :=
  ps_imp (ps_for hp hc hi hg hb hs) fun De σ H ⟨Z, μ, ρ, S, R, fl', ρ', S', e, q⟩ => by
    simp only [sFor, Option.bind_eq_some_iff] at e
    obtain ⟨ds, e1, e2⟩ := e
    refine ⟨Z, μ, ρ, S, R, ds, e1, fun J H1 s1 it => ?_⟩
    have R1 := R.mono s1
    have W1 := R1.wd
    refine ⟨fun i m σ' H' => m = ds.length - i ∧ i ≤ ds.length ∧ ∃ μ2 ρ2 S2, Rel X.K (Z.rb μ H1) μ2 σ' H' ρ2 S2 ∧ loopL g f (ds.drop i) ρ2 S2 = some (fl', ρ', S'), ⟨ds.length, by simp, Nat.zero_le _, μ, ρ, S, R1.rb, by simpa using e2⟩, ?_⟩
    rintro i m σ2 H2 ⟨rfl, hi', μ2, ρ2, S2, R2, el⟩
    obtain ⟨it1, it2⟩ := it i H2 (fun a o h nm => R2.kept W1 a o h nm)
    by_cases hlt : i < ds.length
    · obtain ⟨hgo, hyld⟩ := it1 ds[i] (List.getElem?_eq_getElem hlt)
      rw [List.drop_eq_getElem_cons hlt] at el
      simp only [loopL, Option.bind_eq_some_iff] at el
      obtain ⟨ρ3, eg, ⟨fl3, ρ4, S4⟩, eb, el⟩ := el
      refine .inr ⟨hgo, _, fun σ' H' h => ⟨ds.length - (i + 1), by omega, rfl, hlt, h⟩, fun x H3 hy => ?_⟩
      obtain ⟨s3, rx⟩ := hyld x H3 hy
      refine ⟨Z.rb μ H1, μ2, ρ2, S2, ds[i], R2.mono s3, RV.later W1 R2 s3 rx, ρ3, eg, fun σ3 R3 _ _ => ?_⟩
      refine ⟨Z.rb μ H1, μ2, ρ3, S2, R3, fl3, ρ4, S4, eb, ?_⟩
      refine cont_loop (fun r hr => ?_) (fun hf σ4 H4 μ4 R4 => ?_)
      · refine cont_ub W1 ?_
        cases fl3 with
        | nx => cases hr
        | ct => cases hr
        | bk =>
          simp only [Option.some.injEq, Prod.mk.injEq] at el hr
          obtain ⟨rfl, rfl, rfl⟩ := el
          subst hr; exact q
        | rt d =>
          simp only [Option.some.injEq, Prod.mk.injEq] at el hr
          obtain ⟨rfl, rfl, rfl⟩ := el
          subst hr; exact q
        | rf d =>
          simp only [Option.some.injEq, Prod.mk.injEq] at el hr
          obtain ⟨rfl, rfl, rfl⟩ := el
          subst hr; exact q
      · rcases hf with rfl | rfl
        · exact ⟨μ4, ρ4, S4, R4, el⟩
        · exact ⟨μ4, ρ4, S4, R4, el⟩
    · have hi2 : i = ds.length := by omega
      subst hi2
      simp only [List.drop_length, loopL, Option.some.injEq, Prod.mk.injEq] at el
      obtain ⟨rfl, rfl, rfl⟩ := el
      exact .inl ⟨it2 (Nat.le_refl _), q σ2 H2 μ2 (R2.ub W1)⟩
theorem ds_while (hp : PassesOwn (model X.prog X.w) X.A X.env X.xe) (hc : PT X c (tT X.K t)) (hb : PSs X body (tS X.K f)) : PS X (.While c body [] pos) (tS X.K (sWhile t f)) :=
  ps_imp (ps_while hp hc hb) fun De σ H ⟨Z, μ, ρ, S, R, fl', ρ', S', e, q⟩ => by
    obtain ⟨n, e⟩ := of_sWhile e
    refine ⟨fun m σ' H' => ∃ μ2 ρ2 S2, Rel X.K Z μ2 σ' H' ρ2 S2 ∧ whileN t f m ρ2 S2 = some (fl', ρ', S'), ⟨n, μ, ρ, S, R, e⟩, ?_⟩
    rintro m σ2 H2 ⟨μ2, ρ2, S2, R2, el⟩
    cases m with
    | zero => simp [whileN] at el
    | succ m =>
      simp only [whileN, Option.bind_eq_some_iff] at el
      obtain ⟨b, et, el⟩ := el
      refine ⟨Z, μ2, ρ2, S2, R2, b, et, fun H3 s3 => ?_⟩
      cases b with
      | false =>
        rw [if_neg Bool.false_ne_true] at el
        simp only [Option.some.injEq, Prod.mk.injEq] at el
        obtain ⟨rfl, rfl, rfl⟩ := el
        exact iteF (q σ2 H3 μ2 (R2.mono s3))
      | true =>
        rw [if_pos rfl] at el
        rw [Option.bind_eq_some_iff] at el
        obtain ⟨⟨fl3, ρ4, S4⟩, eb, el⟩ := el
        refine iteT ⟨_, fun σ' H' h => ⟨m, Nat.lt_succ_self m, h⟩, Z, μ2, ρ2, S2, R2.mono s3, fl3, ρ4, S4, eb, ?_⟩
        refine cont_loop (fun r hr => ?_) (fun hf σ4 H4 μ4 R4 => ?_)
        · cases fl3 with
          | nx => cases hr
          | ct => cases hr
          | bk =>
            simp only [Option.some.injEq, Prod.mk.injEq] at el hr
            obtain ⟨rfl, rfl, rfl⟩ := el
            subst hr; exact q
          | rt d =>
            simp only [Option.some.injEq, Prod.mk.injEq] at el hr
            obtain ⟨rfl, rfl, rfl⟩ := el
            subst hr; exact q
          | rf d =>
            simp only [Option.some.injEq, Prod.mk.injEq] at el hr
            obtain ⟨rfl, rfl, rfl⟩ := el
            subst hr; exact q
        · rcases hf with rfl | rfl
          · exact ⟨μ4, ρ4, S4, R4, el⟩
          · exact ⟨μ4, ρ4, S4, R4, el⟩
end

/-! ### lists that are changed -/
/-- the cell that an expression tells -/
def cellD (S : Sto) : D → Option (Nat × List D)
  | .ref n => match S[n]? with
    | some (.lst ds) => some (n, ds)
    | _ => none
  | _ => none
theorem cell_of {K : PySem.W.Frag} {Z : Fr} {μ : List Addr} {H : Hp} {S : Sto} {d : D} {n : Nat} {ds : List D} {v : V} (W : Wd K Z μ H S) (r : RVz K Z μ H d v) (h : cellD S d = some (n, ds)) :
    ∃ a xs, v = .ref a ∧ μ[n]? = some a ∧ H a = some (.lst xs) ∧ RVLz K Z μ H ds xs ∧ S[n]? = some (.lst ds) := by
  cases d with
  | ref m =>
    simp only [cellD] at h
    split at h
    · rename_i es hc
      simp only [Option.some.injEq, Prod.mk.injEq] at h
      obtain ⟨rfl, rfl⟩ := h
      obtain ⟨a, e, hn⟩ := rv_ref.mp r
      obtain ⟨xs, h1, h2⟩ := W.cell m _ a hc hn
      exact ⟨a, xs, e, hn, h1, h2, hc⟩
    · cases h
  | _ => simp [cellD] at h
theorem tyV_lst {K : PySem.W.Frag} {H : Hp} {a : Addr} {xs : List V} (h : H a = some (.lst xs)) : tyV K "list" (.ref a) H := .inl ⟨rfl, _, SqL.of h⟩
theorem Rel.wrL {K : PySem.W.Frag} {Z : Fr} {μ : List Addr} {H : Hp} {S : Sto} {σ : L2.St} {ρ : Rho} {n : Nat} {a : Addr} {ys : List V} {es : List D} (R : Rel K Z μ σ H ρ S) (hn : μ[n]? = some a) (r : RVLz K Z μ H es ys) : Rel K Z μ σ (upd H a (.lst ys)) ρ (S.set n (.lst es)) :=
  R.wr hn ⟨ys, upd_same, RVL.wr R.wd (List.mem_of_getElem? hn) r⟩
section
variable {X : Cx} {o e e2 : Expr} {pos cpos apos : Pos} {fo fa fb : E}
def sApp (fo f : E) : T := fun ρ S => (fo ρ S).bind fun o => (f ρ S).bind fun d => (cellD S o).bind fun c => if small c.2.length then some (.nx, ρ, S.set c.1 (.lst (c.2 ++ [d]))) else none
theorem small_lt {n : Nat} (h : small n = true) : n < sizeLine := Nat.lt_of_le_of_lt (of_decide_eq_true h) (by decide)
theorem ds_append (ho : PE X o (tD X.K fo)) (he : PE X e (tD X.K fa)) (hbase : attributeBase o "append" X.env (eval o X.env) = eval o X.env := by rfl)
    (hfew : ((backTo cpos (starEach [e] X.env)).all (fun x => !x.1) && (backToKw cpos (keywordEach [] X.env)).all (fun x => x.1.isSome)
      && decide ([e].length + ([] : List Keyword).length + (if ([] : List Keyword).isEmpty then 0 else 1) < 30)) = true := by rfl)
    (hline : (apos.endLine == cpos.line) = true := by rfl) (hs : starEach [e] X.env = (false, eval e X.env) :: starEach [] X.env := by rfl) (hplain : (backTo cpos (starEach [] X.env)).any (·.1) = false := by rfl) (hsw : swapsWith (.Call (.Attribute o "append" apos) [e] [] cpos) none pos.line X.env = pure false := by rfl) :
    PS X (.Expr (.Call (.Attribute o "append" apos) [e] [] cpos) pos) (tS X.K (sApp fo fa)) :=
  ps_imp (ps_expr (pe_bm PySem.F.plainAttrs_list PySem.F.slot_list_append PySem.F.type_list_append mt_append ho (pa_cons he pa_nil hs) hbase hfew hline hs hplain) hsw) fun De σ H ⟨Z, μ, ρ, S, R, fl, ρ', S', e, q⟩ => by
    simp only [sApp, Option.bind_eq_some_iff] at e
    obtain ⟨od, e1, d, e2, ⟨n, ds⟩, e3, e4⟩ := e
    split at e4
    case isFalse => cases e4
    rename_i hsm
    simp only [Option.some.injEq, Prod.mk.injEq] at e4
    obtain ⟨rfl, rfl, rfl⟩ := e4
    refine ⟨Z, μ, ρ, S, R, od, e1, fun v H1 s1 r1 => ?_⟩
    obtain ⟨a, xs, rfl, hn, h1, hr, _⟩ := cell_of (R.wd.mono s1) r1 e3
    refine ⟨tyV_lst h1, Z, μ, ρ, S, R.mono s1, d, e2, fun u H2 s2 r2 => ?_⟩
    have hr2 : RVLz X.K Z μ H2 ds xs := RVL.mono s2 hr
    refine ⟨a, xs, u, rfl, rfl, s2 _ _ h1, by rw [RVL.length hr2]; exact small_lt hsm, ?_⟩
    exact q _ _ μ (((R.mono s1).mono s2).wrL hn (RVL.app hr2 (RVL.one r2)))
def sExt (fo f : E) : T := fun ρ S => (fo ρ S).bind fun o => (f ρ S).bind fun d => (lstD S d).bind fun es => (cellD S o).bind fun c => if small (c.2.length + es.length) then some (.nx, ρ, S.set c.1 (.lst (c.2 ++ es))) else none
theorem ds_extend (ho : PE X o (tD X.K fo)) (he : PE X e (tD X.K fa)) (hbase : attributeBase o "extend" X.env (eval o X.env) = eval o X.env := by rfl)
    (hfew : ((backTo cpos (starEach [e] X.env)).all (fun x => !x.1) && (backToKw cpos (keywordEach [] X.env)).all (fun x => x.1.isSome)
      && decide ([e].length + ([] : List Keyword).length + (if ([] : List Keyword).isEmpty then 0 else 1) < 30)) = true := by rfl)
    (hline : (apos.endLine == cpos.line) = true := by rfl) (hs : starEach [e] X.env = (false, eval e X.env) :: starEach [] X.env := by rfl) (hplain : (backTo cpos (starEach [] X.env)).any (·.1) = false := by rfl) (hsw : swapsWith (.Call (.Attribute o "extend" apos) [e] [] cpos) none pos.line X.env = pure false := by rfl) :
    PS X (.Expr (.Call (.Attribute o "extend" apos) [e] [] cpos) pos) (tS X.K (sExt fo fa)) :=
  ps_imp (ps_expr (pe_bm PySem.F.plainAttrs_list PySem.F.slot_list_extend PySem.F.type_list_extend mt_extend ho (pa_cons he pa_nil hs) hbase hfew hline hs hplain) hsw) fun De σ H ⟨Z, μ, ρ, S, R, fl, ρ', S', e, q⟩ => by
    simp only [sExt, Option.bind_eq_some_iff] at e
    obtain ⟨od, e1, d, e2, es, e5, ⟨n, ds⟩, e3, e4⟩ := e
    split at e4
    case isFalse => cases e4
    rename_i hsm
    simp only [Option.some.injEq, Prod.mk.injEq] at e4
    obtain ⟨rfl, rfl, rfl⟩ := e4
    refine ⟨Z, μ, ρ, S, R, od, e1, fun v H1 s1 r1 => ?_⟩
    obtain ⟨a, xs, rfl, hn, h1, hr, _⟩ := cell_of (R.wd.mono s1) r1 e3
    refine ⟨tyV_lst h1, Z, μ, ρ, S, R.mono s1, d, e2, fun u H2 s2 r2 => ?_⟩
    have hr2 : RVLz X.K Z μ H2 ds xs := RVL.mono s2 hr
    obtain ⟨b, zs, rfl, h3, h4⟩ := lst_of ((R.wd.mono s1).mono s2) r2 e5
    refine ⟨a, b, xs, zs, rfl, rfl, s2 _ _ h1, h3, by rw [RVL.length hr2, RVL.length h4]; exact small_le hsm, ?_⟩
    exact q _ _ μ (((R.mono s1).mono s2).wrL hn (RVL.app hr2 h4))
def sIns (fo f g : E) : T := fun ρ S => (fo ρ S).bind fun o => (f ρ S).bind fun i => (g ρ S).bind fun d => (cellD S o).bind fun c => match i with
  | .int i => if small c.2.length && decide (0 ≤ i) && decide (i < 2 ^ 62) then some (.nx, ρ, S.set c.1 (.lst (c.2.take i.toNat ++ [d] ++ c.2.drop i.toNat))) else none
  | _ => none
theorem ds_insert (ho : PE X o (tD X.K fo)) (he : PE X e (tD X.K fa)) (he2 : PE X e2 (tD X.K fb)) (hbase : attributeBase o "insert" X.env (eval o X.env) = eval o X.env := by rfl)
    (hfew : ((backTo cpos (starEach [e, e2] X.env)).all (fun x => !x.1) && (backToKw cpos (keywordEach [] X.env)).all (fun x => x.1.isSome)
      && decide ([e, e2].length + ([] : List Keyword).length + (if ([] : List Keyword).isEmpty then 0 else 1) < 30)) = true := by rfl)
    (hline : (apos.endLine == cpos.line) = true := by rfl) (hs : starEach [e, e2] X.env = (false, eval e X.env) :: starEach [e2] X.env := by rfl) (hs2 : starEach [e2] X.env = (false, eval e2 X.env) :: starEach [] X.env := by rfl) (hplain : (backTo cpos (starEach [e2] X.env)).any (·.1) = false := by rfl) (hsw : swapsWith (.Call (.Attribute o "insert" apos) [e, e2] [] cpos) none pos.line X.env = pure false := by rfl) :
    PS X (.Expr (.Call (.Attribute o "insert" apos) [e, e2] [] cpos) pos) (tS X.K (sIns fo fa fb)) :=
  ps_imp (ps_expr (pe_bm PySem.F.plainAttrs_list PySem.F.slot_list_insert PySem.F.type_list_insert mt_insert ho (pa_cons he (pa_cons he2 pa_nil hs2) hs) hbase hfew hline hs hplain) hsw) fun De σ H ⟨Z, μ, ρ, S, R, fl, ρ', S', e, q⟩ => by
    simp only [sIns, Option.bind_eq_some_iff] at e
    obtain ⟨od, e1, i, e2, d, e5, ⟨n, ds⟩, e3, e4⟩ := e
    split at e4
    case h_2 => cases e4
    rename_i i
    split at e4
    case isFalse => cases e4
    rename_i hsm
    simp only [Bool.and_eq_true, decide_eq_true_eq] at hsm
    obtain ⟨⟨hsm, hi0⟩, hi1⟩ := hsm
    simp only [Option.some.injEq, Prod.mk.injEq] at e4
    obtain ⟨rfl, rfl, rfl⟩ := e4
    refine ⟨Z, μ, ρ, S, R, od, e1, fun v H1 s1 r1 => ?_⟩
    obtain ⟨a, xs, rfl, hn, h1, hr, _⟩ := cell_of (R.wd.mono s1) r1 e3
    refine ⟨tyV_lst h1, Z, μ, ρ, S, R.mono s1, _, e2, fun u H2 s2 r2 => ?_⟩
    refine ⟨Z, μ, ρ, S, (R.mono s1).mono s2, d, e5, fun w H3 s3 r3 => ?_⟩
    have hr2 : RVLz X.K Z μ H3 ds xs := RVL.mono (s2.trans s3) hr
    rw [rv_int.mp r2]
    refine ⟨a, xs, i, w, rfl, rfl, s3 _ _ (s2 _ _ h1), by rw [RVL.length hr2]; exact small_lt hsm, hi0, by omega, ?_⟩
    exact q _ _ μ ((((R.mono s1).mono s2).mono s3).wrL hn (RVL.app (RVL.app (RVL.take _ hr2) (RVL.one r3)) (RVL.drop _ hr2)))
/-- x = xs.pop() -/
def sPop (i : Nat) (fo : E) : T := fun ρ S => (fo ρ S).bind fun o => (cellD S o).bind fun c => (c.2[c.2.length - 1]?).map fun d => (.nx, ρ.set i (some d), S.set c.1 (.lst c.2.dropLast))
theorem RVL.dropLast' {K : PySem.W.Frag} {av : Addr → Prop} {μ : List Addr} {H : Hp} {ds : List D} {xs : List V} (h : RVL K av μ H ds xs) : RVL K av μ H ds.dropLast xs.dropLast := by
  rw [List.dropLast_eq_take, List.dropLast_eq_take, RVL.length h]
  exact RVL.take _ h
theorem ds_pop {i : Nat} {x : Str} {pos' : Pos} (hN : X.N.Nodup) (hi : X.N[i]? = some x) (hx : Loc X.env.scope x) (ho : PE X o (tD X.K fo)) (hbase : attributeBase o "pop" X.env (eval o X.env) = eval o X.env := by rfl)
    (hline : (apos.endLine == cpos.line) = true := by rfl)
    (hs : swapsWith (.Call (.Attribute o "pop" apos) [] [] cpos) (some (.Name x pos')) pos.line X.env = pure false := by rfl) (hf : X.fn x = true ∨ X.env.scope.names.lookup x = some .local := by first | exact .inl rfl | exact .inr rfl | assumption) :
    PS X (.Assign [.Name x pos'] (.Call (.Attribute o "pop" apos) [] [] cpos) pos) (tS X.K (sPop i fo)) :=
  ps_imp (ps_set hN hi hx (pe_bm0 PySem.F.plainAttrs_list PySem.F.slot_list_pop PySem.F.type_list_pop mt_pop ho hbase hline) hs hf) fun De σ H ⟨Z, μ, ρ, S, R, fl, ρ', S', e, q⟩ => by
    simp only [sPop, Option.bind_eq_some_iff, Option.map_eq_some_iff, Prod.mk.injEq] at e
    obtain ⟨od, e1, ⟨n, ds⟩, e3, d, e4, rfl, rfl, rfl⟩ := e
    refine ⟨Z, μ, ρ, S, R, od, e1, fun v H1 s1 r1 => ?_⟩
    obtain ⟨a, xs, rfl, hn, h1, hr, _⟩ := cell_of (R.wd.mono s1) r1 e3
    obtain ⟨y, hy, ry⟩ := RVL.get hr e4
    refine ⟨tyV_lst h1, a, xs, y, rfl, rfl, h1, by rw [RVL.length hr]; exact hy, ?_⟩
    exact q _ _ μ (((R.mono s1).wrL hn (RVL.dropLast' hr)).set (RV.wr (R.wd.mono s1) (List.mem_of_getElem? hn) ry))
/-- xs[k] = e -/
def sPut (f fo fi : E) : T := fun ρ S => (f ρ S).bind fun d => (fo ρ S).bind fun o => (fi ρ S).bind fun i => (cellD S o).bind fun c => match i with
  | .int k => (ixN c.2.length k).map fun j => (.nx, ρ, S.set c.1 (.lst (c.2.set j d)))
  | _ => none
theorem ds_put {i : Expr} {fi : E} {spos : Pos} (he : PE X e (tD X.K fa)) (ho : PE X o (tD X.K fo)) (hi : PE X i (tD X.K fi))
    (ha : ∀ v, assign (.Subscript o i spos) X.env v = (do
      let ov ← holding [v] (eval o X.env)
      let iv ← holding [v, ov] (eval i X.env)
      standAt spos
      holding [v, ov, iv] (setItem ov iv v)
      release [v, ov, iv] []) := by intro _; rfl)
    (hs : swapsWithSole [.Subscript o i spos] e pos.line X.env = pure false := by rfl) (hw : swappedStores [.Subscript o i spos] e X.env = pure none := by rfl)
    (h1 : (assignEach [.Subscript o i spos] X.env).map (·.2) = [assign (.Subscript o i spos) X.env] := by rfl) : PS X (.Assign [.Subscript o i spos] e pos) (tS X.K (sPut fa fo fi)) :=
  ps_imp (ps_asg he (pg_sub ho hi set_list ha) hs hw h1) fun De σ H ⟨Z, μ, ρ, S, R, fl, ρ', S', e, q⟩ => by
    simp only [sPut, Option.bind_eq_some_iff] at e
    obtain ⟨d, e0, od, e1, iD, e2, ⟨n, ds⟩, e3, e4⟩ := e
    split at e4
    case h_2 => cases e4
    rename_i k
    simp only [Option.map_eq_some_iff, Prod.mk.injEq] at e4
    obtain ⟨j, e5, rfl, rfl, rfl⟩ := e4
    refine ⟨Z, μ, ρ, S, R, d, e0, fun v H1 s1 r1 => ⟨Z, μ, ρ, S, R.mono s1, od, e1, fun u H2 s2 r2 => ⟨Z, μ, ρ, S, (R.mono s1).mono s2, _, e2, fun w H3 s3 r3 => ?_⟩⟩⟩
    obtain ⟨a, xs, rfl, hn, h1, hr, _⟩ := cell_of (((R.wd.mono s1).mono s2).mono s3) (RV.mono s3 r2) e3
    rw [rv_int.mp r3]
    refine ⟨a, xs, k, j, rfl, rfl, h1, by rw [RVL.length hr]; exact e5, ?_⟩
    exact q _ _ μ ((((R.mono s1).mono s2).mono s3).wrL hn (RVL.set (RV.mono (s2.trans s3) r1) j hr))
end
end DL

set_option maxHeartbeats 4000000
namespace DL
open PySem PySem.Spec L2

/-! ### what a def promises, as data -/
def spD (K : PySem.W.Frag) (n : Nat) (g : List D → Option D) : Sp := fun vs H Q _ => ∃ (A : Addr → Prop) (ds : List D), ds.length = n ∧ (∀ a, A a → H a ≠ none) ∧ RVL K A [] H ds vs ∧ ∃ r, g ds = some r ∧
  ∀ v H', Same H H' → RV K A [] H' r v → Q v H'
def spF (K : PySem.W.Frag) (n : Nat) (g : List D → Option (List D)) : Sp := fun vs H Q _ => ∃ (A : Addr → Prop) (ds : List D), ds.length = n ∧ (∀ a, A a → H a ≠ none) ∧ RVL K A [] H ds vs ∧ ∃ r, g ds = some r ∧
  ∀ a xs H', H a = none → Same H H' → H' a = some (.lst xs) → RVL K (fun b => A b ∨ b = a) [] H' r xs → Q (.ref a) H'
def startR (n : Nat) (ds : List D) : Rho := ds.map some ++ List.replicate (n - ds.length) none
def runD (body : T) (n : Nat) (ds : List D) : Option D := (body (startR n ds) []).bind fun r => match r with
  | (.rt d, _, S) => fz S d
  | (.rf es, _, S) => (fzs S es).map .lst
  | (.nx, _, _) => some .non
  | _ => none
def runF (body : T) (n : Nat) (ds : List D) : Option (List D) := (body (startR n ds) []).bind fun r => match r with
  | (.rf es, _, _) => if nrs es then some es else none
  | (.rt (.ref m), _, S) => match S[m]? with
    | some (.lst es) => if nrs es then some es else none
    | _ => none
  | _ => none
/-- the def stands in the module under its name -/
def Tx (K : PySem.W.Frag) (mg : Str → Option Value) (x : Str) (st : Stmt) (ps : List Str) : Prop := ∃ f fd, mg x = some (.ref f) ∧ Fun K x x st f fd ∧ Binds K fd ps []
def At (P : Program) (w : World) (K : PySem.W.Frag) (mg : Str → Option Value) (base : Heap) (x : Str) (k n : Nat) (g : List D → Option D) : Prop :=
  ∃ f fd ps, mg x = some (.ref f) ∧ PySem.W.keepIn K (.ref f) = true ∧ Binds K fd ps [] ∧ FnOk P w K mg base CX0 k f fd ps (spD K n g)
def AtF (P : Program) (w : World) (K : PySem.W.Frag) (mg : Str → Option Value) (base : Heap) (x : Str) (k n : Nat) (g : List D → Option (List D)) : Prop :=
  ∃ f fd ps, mg x = some (.ref f) ∧ PySem.W.keepIn K (.ref f) = true ∧ Binds K fd ps [] ∧ FnOk P w K mg base CX0 k f fd ps (spF K n g)

theorem startR_get {n : Nat} {ds : List D} {i : Nat} {d : D} (h : (startR n ds)[i]? = some (some d)) : ds[i]? = some d := by
  unfold startR at h
  by_cases hi : i < ds.length
  · rw [List.getElem?_append_left (by simpa using hi), List.getElem?_map] at h
    rw [Option.map_eq_some_iff] at h
    obtain ⟨e, h1, h2⟩ := h
    cases h2
    exact h1
  · rw [List.getElem?_append_right (by simpa using hi), List.getElem?_replicate] at h
    split at h <;> cases h
theorem rel_start {K : PySem.W.Frag} {H : Hp} {A : Addr → Prop} {ds : List D} {vs : List V} {N : List Str} {cl : Nat → Addr} (hA : ∀ a, A a → H a ≠ none) (hl : ds.length ≤ N.length) (r : RVL K A [] H ds vs) :
    Rel K ⟨H, A, [], cl⟩ [] (L2.start N vs) H (startR N.length ds) [] := by
  have hv := RVL.length r
  refine ⟨⟨rfl, List.nodup_nil, fun n c a h _ => by simp at h, fun a o e => e, fun a h => by simp at h, hA, fun a h => by simp at h, List.prefix_refl _⟩, ?_, fun i d h => ?_⟩
  · unfold L2.start startR
    simp only [List.length_append, List.length_map, List.length_replicate]
    omega
  · obtain ⟨v, h1, h2⟩ := RVL.get r (startR_get h)
    refine ⟨v, ?_, RV.tr (fun a o e hn => ⟨e, fun m q => by
      rcases q with q | q
      · exact hn m q
      · simp at q⟩) (fun _ _ e => e) d v h2⟩
    unfold L2.start
    have hi := (List.getElem?_eq_some_iff.mp h1).1
    rw [List.getElem?_append_left (by simpa using hi), List.getElem?_map, h1]
    rfl
section
variable {P : Program} {w : World} {K : PySem.W.Frag} {mg : Str → Option Value} {base : Heap} {x : Str} {st : Stmt} {N ps : List Str} {k : Nat} {body : T}
theorem fnO {f : Addr} {fd : FuncData} (F : Fun K x x st f fd) (S : FnScope N ps (defScope st))
    (hb : ∀ (f : Addr) (cdv : Value) (A : Around) (outer : List Env) (s : Shared) (H : Hp) (E : XK), Room k (A.deeper (PyProof.Rows.envOfC x (defScope st) s.heap.objs.size f cdv)) → PSs (cxOf CX0 P w K mg base N x (defScope st) f cdv A outer s H E).nox (defBody st) (tS K body)) :
    FnOk P w K mg base CX0 (k + 1) f fd ps (spD K ps.length (runD body N.length)) := by
  have hlN : ps.length ≤ N.length := by
    have := congrArg List.length S.pre
    rw [List.length_take] at this
    omega
  refine F.ok S (fun vs H Q E h => ?_) fun cdv A outer s H vs Q E hr h => ?_
  · obtain ⟨A, ds, hl, _, r, _⟩ := h
    rw [RVL.length r, hl]
  · obtain ⟨Av, ds, hl, hA, r, d, hg, q⟩ := h
    refine ⟨_, hb f cdv A outer s H E hr, ?_⟩
    simp only [runD, Option.bind_eq_some_iff] at hg
    obtain ⟨⟨fl, ρ', S'⟩, e1, e2⟩ := hg
    refine ⟨⟨H, Av, [], fun _ => 0⟩, [], _, [], rel_start hA (by omega) r, fl, ρ', S', e1, ?_⟩
    cases fl with
    | nx =>
      simp only [Option.some.injEq] at e2
      subst e2
      exact fun σ H' μ R => q .non H' (fun a o e => R.wd.base a o e) (rv_non.mpr rfl)
    | bk => simp at e2
    | ct => simp at e2
    | rt e => exact fun v σ H' μ R rv => q v H' (fun a o e => R.wd.base a o e) (RV.fz R.wd e2 rv)
    | rf es =>
      simp only [Option.map_eq_some_iff] at e2
      obtain ⟨es', e3, rfl⟩ := e2
      exact fun a xs σ H' μ R n na h1 rv => q _ H' (fun a o e => R.wd.base a o e) (rv_lst.mpr ⟨a, xs, rfl, h1, fun z => na (.inl z), RVL.fzs R.wd e3 rv.weakO⟩)
theorem fnD (h : Tx K mg x st ps) (S : FnScope N ps (defScope st))
    (hb : ∀ (f : Addr) (cdv : Value) (A : Around) (outer : List Env) (s : Shared) (H : Hp) (E : XK), Room k (A.deeper (PyProof.Rows.envOfC x (defScope st) s.heap.objs.size f cdv)) → PSs (cxOf CX0 P w K mg base N x (defScope st) f cdv A outer s H E).nox (defBody st) (tS K body)) :
    At P w K mg base x (k + 1) ps.length (runD body N.length) := by
  obtain ⟨f, fd, hm, F, hbi⟩ := h
  exact ⟨f, fd, ps, hm, F.kp, hbi, fnO F S hb⟩
theorem fnF (h : Tx K mg x st ps) (S : FnScope N ps (defScope st))
    (hb : ∀ (f : Addr) (cdv : Value) (A : Around) (outer : List Env) (s : Shared) (H : Hp) (E : XK), Room k (A.deeper (PyProof.Rows.envOfC x (defScope st) s.heap.objs.size f cdv)) → PSs (cxOf CX0 P w K mg base N x (defScope st) f cdv A outer s H E).nox (defBody st) (tS K body)) :
    AtF P w K mg base x (k + 1) ps.length (runF body N.length) := by
  obtain ⟨f, fd, hm, F, hbi⟩ := h
  have hlN : ps.length ≤ N.length := by
    have := congrArg List.length S.pre
    rw [List.length_take] at this
    omega
  refine ⟨f, fd, ps, hm, F.kp, hbi, F.ok S (fun vs H Q E h => ?_) fun cdv A outer s H vs Q E hr h => ?_⟩
  · obtain ⟨A, ds, hl, _, r, _⟩ := h
    rw [RVL.length r, hl]
  · obtain ⟨Av, ds, hl, hA, r, d, hg, q⟩ := h
    refine ⟨_, hb f cdv A outer s H E hr, ?_⟩
    simp only [runF, Option.bind_eq_some_iff] at hg
    obtain ⟨⟨fl, ρ', S'⟩, e1, e2⟩ := hg
    refine ⟨⟨H, Av, [], fun _ => 0⟩, [], _, [], rel_start hA (by omega) r, fl, ρ', S', e1, ?_⟩
    cases fl with
    | nx => simp at e2
    | bk => simp at e2
    | ct => simp at e2
    | rt e =>
      cases e with
      | ref m =>
        simp only at e2
        split at e2
        · rename_i es hc
          split at e2
          · rename_i hnr
            simp only [Option.some.injEq] at e2
            subst e2
            intro v σ H' μ R rv
            obtain ⟨a, rfl, hna⟩ := rv_ref.mp rv
            obtain ⟨xs, h1, h2⟩ := R.wd.cell m _ a hc hna
            have hm : a ∈ μ := List.mem_of_getElem? hna
            refine q a xs H' (R.wd.dis a hm) (fun a o e => R.wd.base a o e) h1 (RVL.nr (μ := μ) _ _ hnr (RVL.tr (av := avd _ μ) (μ := μ) (fun b o e hn => ⟨e, fun m z => ?_⟩) (fun _ _ e => e) _ _ h2))
            rcases z with z | z
            · exact hn m (.inl z)
            · subst z; exact hn m (.inr hm)
          · cases e2
        · cases e2
      | _ => simp at e2
    | rf es =>
      simp only at e2
      split at e2
      · rename_i hnr
        simp only [Option.some.injEq] at e2
        subst e2
        intro a xs σ H' μ R n na h1 rv
        refine q a xs H' n (fun a o e => R.wd.base a o e) h1 (RVL.nr (μ := μ) _ _ hnr (RVL.tr (av := avO _ μ a) (μ := μ) (fun b o e hn => ⟨e, fun m z => ?_⟩) (fun _ _ e => e) _ _ rv))
        rcases z with z | z
        · exact hn m (.inl (.inl z))
        · exact hn m (.inr z)
      · cases e2
end

/-! ### calls of the program's own defs -/
def eFn (g : List D → Option D) (fs : EL) : E := fun ρ S => (fs ρ S).bind fun ds => if nrs ds then g ds else (fzs S ds).bind fun es => (g es).bind fun r => if imm r then some r else none
def fFn (g : List D → Option (List D)) (fs : EL) : EL := fun ρ S => (fs ρ S).bind fun ds => if nrs ds then g ds else (fzs S ds).bind fun es => (g es).bind fun r => if imms r then some r else none
section
variable {K : PySem.W.Frag} {Z : Fr} {μ : List Addr} {H : Hp} {S : Sto}
theorem RV.toMu {d : D} {v : V} {av : Addr → Prop} (h : RV K av [] H d v) : RV K av μ H d v := RV.tr (fun a o e hn => ⟨e, hn⟩) (fun n a e => by simp at e) d v h
theorem RVL.toMu {d : List D} {v : List V} {av : Addr → Prop} (h : RVL K av [] H d v) : RVL K av μ H d v := RVL.tr (fun a o e hn => ⟨e, hn⟩) (fun n a e => by simp at e) d v h
theorem Wd.avd (W : Wd K Z μ H S) : ∀ a, DL.avd Z μ a → H a ≠ none := fun a h q => W.fresh q h
theorem fzs_len : ∀ {ds es : List D}, fzs S ds = some es → es.length = ds.length
  | [], es, h => by simp only [fzs, Option.some.injEq] at h; subst h; rfl
  | d :: ds, es, h => by
    simp only [fzs, Option.bind_eq_some_iff, Option.map_eq_some_iff] at h
    obtain ⟨e, _, es', h2, rfl⟩ := h
    simp [fzs_len h2]
/-- the callee's answer, from what the caller has -/
theorem sp_of {n : Nat} {g : List D → Option D} {ds : List D} {d : D} {vs : List V} {Q : VK} {E : XK} (W : Wd K Z μ H S) (hl : ds.length = n) (r : RVLz K Z μ H ds vs)
    (e : (if nrs ds then g ds else (fzs S ds).bind fun es => (g es).bind fun r => if imm r then some r else none) = some d) (q : ∀ w H', Same H H' → RVz K Z μ H' d w → Q w H') : spD K n g vs H Q E := by
  by_cases hn : nrs ds = true
  · rw [if_pos hn] at e
    exact ⟨avd Z μ, ds, hl, W.avd, RVL.nr _ _ hn r, d, e, fun v H' s rv => q v H' s (RV.toMu rv)⟩
  · rw [if_neg hn] at e
    simp only [Option.bind_eq_some_iff] at e
    obtain ⟨es, e1, r', e2, e3⟩ := e
    split at e3
    · rename_i hi
      cases e3
      exact ⟨Z.A, es, (fzs_len e1).trans hl, W.av, RVL.fzs W e1 r, d, e2, fun v H' s rv => q v H' s (RV.imm _ _ hi rv)⟩
    · cases e3
theorem spF_of {n : Nat} {g : List D → Option (List D)} {ds es : List D} {vs : List V} {Q : VK} {E : XK} (W : Wd K Z μ H S) (hl : ds.length = n) (r : RVLz K Z μ H ds vs)
    (e : (if nrs ds then g ds else (fzs S ds).bind fun es => (g es).bind fun r => if imms r then some r else none) = some es) (q : ∀ a xs H', H a = none → Same H H' → H' a = some (.lst xs) → RVL K (avO Z μ a) μ H' es xs → Q (.ref a) H') : spF K n g vs H Q E := by
  by_cases hn : nrs ds = true
  · rw [if_pos hn] at e
    exact ⟨avd Z μ, ds, hl, W.avd, RVL.nr _ _ hn r, es, e, fun a xs H' n s h1 rv => q a xs H' n s h1 (RVL.toMu rv)⟩
  · rw [if_neg hn] at e
    simp only [Option.bind_eq_some_iff] at e
    obtain ⟨es', e1, r', e2, e3⟩ := e
    split at e3
    · rename_i hi
      simp only [Option.some.injEq] at e3
      subst e3
      exact ⟨Z.A, es', (fzs_len e1).trans hl, W.av, RVL.fzs W e1 r, _, e2, fun a xs H' n s h1 rv => q a xs H' n s h1 (RVL.imm _ _ hi rv)⟩
    · cases e3
end
section
variable {X : Cx} {e : Expr} {es : List Expr} {x : Str} {p pos : Pos} {k j n : Nat} {fs : EL}
theorem d_call {g : List D → Option D} (h : At X.prog X.w X.K X.mg X.base x k n g) (hr : Room j X.A) (hk : k ≤ j) (hg : Gl X x) (ha : PA X (e :: es) (tA X.K fs)) (hl : ∀ {ρ : Rho} {S : Sto} {ds : List D}, fs ρ S = some ds → ds.length = n)
    (hdb : (x == ("__debug__" : Str)) = false := by decide) (he : starEach (e :: es) X.env = (false, eval e X.env) :: starEach es X.env := by rfl) (hpl : (backTo pos (starEach es X.env)).any (·.1) = false := by rfl) :
    PE X (.Call (.Name x p) (e :: es) [] pos) (tD X.K (eFn g fs)) := by
  obtain ⟨f, fd, ps, hm, hkp, hb, F⟩ := h
  refine pe_imp (pe_call F (hr.mono hk) hg hm hkp hb .nil pass0 ha hdb he hpl) fun σ H Q ⟨Z, μ, ρ, S, R, d, ef, q⟩ => ?_
  simp only [eFn, Option.bind_eq_some_iff] at ef
  obtain ⟨ds, e1, e2⟩ := ef
  refine ⟨Z, μ, ρ, S, R, ds, e1, fun vs H1 s1 r1 => ?_⟩
  show spD _ _ _ (vs ++ []) _ _ _
  rw [List.append_nil]
  exact sp_of (R.wd.mono s1) (hl e1) r1 e2 fun w H' s2 r2 => q w H' (s1.trans s2) r2
theorem d_callF {g : List D → Option (List D)} (h : AtF X.prog X.w X.K X.mg X.base x k n g) (hr : Room j X.A) (hk : k ≤ j) (hg : Gl X x) (ha : PA X (e :: es) (tA X.K fs)) (hl : ∀ {ρ : Rho} {S : Sto} {ds : List D}, fs ρ S = some ds → ds.length = n)
    (hdb : (x == ("__debug__" : Str)) = false := by decide) (he : starEach (e :: es) X.env = (false, eval e X.env) :: starEach es X.env := by rfl) (hpl : (backTo pos (starEach es X.env)).any (·.1) = false := by rfl) :
    PE X (.Call (.Name x p) (e :: es) [] pos) (tF X.K (fFn g fs)) := by
  obtain ⟨f, fd, ps, hm, hkp, hb, F⟩ := h
  refine pe_imp (pe_call F (hr.mono hk) hg hm hkp hb .nil pass0 ha hdb he hpl) fun σ H Q ⟨Z, μ, ρ, S, R, d, ef, q⟩ => ?_
  simp only [fFn, Option.bind_eq_some_iff] at ef
  obtain ⟨ds, e1, e2⟩ := ef
  refine ⟨Z, μ, ρ, S, R, ds, e1, fun vs H1 s1 r1 => ?_⟩
  show spF _ _ _ (vs ++ []) _ _ _
  rw [List.append_nil]
  exact spF_of (R.wd.mono s1) (hl e1) r1 e2 fun a xs H' n s2 h1 r2 => q a xs H' (s1.free n) (s1.trans s2) h1 r2
end
/-- how many: by the row's own make -/
theorem len_nil {ρ : Rho} {S : Sto} {ds : List D} (h : aNil ρ S = some ds) : ds.length = 0 := by
  simp only [aNil, Option.some.injEq] at h; subst h; rfl
theorem len_cons {f : E} {fs : EL} {n : Nat} (ih : ∀ {ρ : Rho} {S : Sto} {ds : List D}, fs ρ S = some ds → ds.length = n) {ρ : Rho} {S : Sto} {ds : List D} (h : aCons f fs ρ S = some ds) : ds.length = n + 1 := by
  simp only [aCons, Option.bind_eq_some_iff, Option.map_eq_some_iff] at h
  obtain ⟨d, _, es, h2, rfl⟩ := h
  simp [ih h2]
end DL

set_option maxHeartbeats 4000000
namespace DL
open PySem PySem.Spec L2

/-! ### the order of data -/
section order
open PySem.W PyProof.Rows
theorem swo_data : SrtO.Swo dataLt := by
  refine ⟨fun x y h => ?_, fun x y z h1 h2 => ?_⟩
  · cases e : dataLt y x with
    | false => rfl
    | true =>
      have q := lex_trans (O := itemOrd) _ _ _ h e
      rw [lex_irrefl] at q
      cases q
  · cases e : dataLt z x with
    | false => rfl
    | true =>
      rcases lex_negTrans (O := itemOrd) _ (keyToks y) _ e with q | q
      · exact absurd (q.symm.trans h2) (by decide)
      · exact absurd (q.symm.trans h1) (by decide)
end order
section reading
open PySem.W PyProof.Rows SeqAt
variable {h : Heap} {xs : List PyData}
def AlkAll (xs : List PyData) : Prop := ∀ x ∈ xs, ∀ y ∈ xs, alike x y = true
open Classical in
noncomputable def rdV (h : Heap) (xs : List PyData) (v : Value) : PyData := if q : ∃ d, d ∈ xs ∧ ∃ as, Reads h v d as then q.choose else .none
theorem rdV_of (hal : AlkAll xs) {d : PyData} {v : Value} {as : List Addr} (hd : d ∈ xs) (r : Reads h v d as) : rdV h xs v = d := by
  have q : ∃ d, d ∈ xs ∧ ∃ as, Reads h v d as := ⟨d, hd, as, r⟩
  unfold rdV
  rw [dif_pos q]
  obtain ⟨h1, bs, h2⟩ := q.choose_spec
  exact alike_unique _ _ _ _ _ (hal _ h1 _ hd) h2 r
end reading

section kinds
open PySem.W PyProof.Rows SeqAt
variable {prog : Program} {w : World} {A : Around} {E : Value → Shared → Prop} {s : Shared}
theorem call_tuple_lt' {Q : Value → Shared → Prop} {l b : Addr} {its jts : Array Value} {e r : Nat → Bool} (x : s.heap.IsTuple l its) (y : s.heap.IsTuple b jts)
    (he : ∀ j (h1 : j < its.size) (h2 : j < jts.size), EqAt A.in1 s its[j] jts[j] (e j))
    (hr : ∀ j (h1 : j < its.size) (h2 : j < jts.size), e j = false → RcLt A.in1 s its[j] jts[j] (r j))
    (q : Q (.bool (firstLt e r (decide (its.size < jts.size)) (List.range (min its.size jts.size)))) s) :
    wpAny (model prog w) A (call (.builtin "tuple.__lt__") [.ref l, .ref b]) Q E s := by
  obtain ⟨o1, g1, c1, n1, d1⟩ := id x
  obtain ⟨o2, g2, c2, n2, d2⟩ := id y
  obtain ⟨k1, dd1, da1, sl1⟩ := o1
  obtain ⟨k2, dd2, da2, sl2⟩ := o2
  have c1' : k1 = .type "tuple" := c1
  have c2' : k2 = .type "tuple" := c2
  have d1' : da1 = .seq its n1 := d1
  have d2' : da2 = .seq jts n2 := d2
  subst c1' c2' d1' d2'
  have M := tuple_ltAt l b its jts n1 n2 dd1 dd2 sl1 sl2 e r
  exact call_meets F.slot_tuple_lt ⟨_, g1, rfl⟩ F.entry_tuple_lt (F.args_tuple_lt_2 _ _) M ⟨g1, g2, he, hr, q⟩
/-- one key against another, any alike data -/
theorem oneLt_any {f : Bool} {da db : PyData} {a b : Value} {as bs : List Addr} {Q : Bool → Shared → Prop} (ra : Reads s.heap a da as) (rb : Reads s.heap b db bs) (h : alike da db = true) (hn : da ≠ .none)
    (hu : A.units + min da.depth db.depth < cLine) (q : Q (dataLt da db) s) : wpAny (model prog w) A (oneLt' f a b) Q E s := by
  by_cases hf : f = true ∧ ∃ xs, da = .tuple xs
  · obtain ⟨rfl, xs, rfl⟩ := hf
    cases db with
    | tuple ys =>
      have al : alikeAll xs ys = true := by simpa [alike] using h
      cases ra with
      | @tuple l o vs n _ _ g1 c1 d1 r1 =>
        cases rb with
        | @tuple l' o' vs' n' _ _ g2 c2 d2 r2 =>
          have n1 : vs.size = xs.length := by simpa using ReadsAll.length _ _ _ r1
          have n2 : vs'.size = ys.length := by simpa using ReadsAll.length _ _ _ r2
          rw [dataLt_tuple, ← firstLt_toks xs ys al, ← n1, ← n2] at q
          rw [oneLt'_eq]
          simp only [if_true]
          refine wpAny_bind (wpAny_cRoomFor (room_here hu) (wpAny_bind ?_))
          have hE : ∀ j (h1 : j < vs.size) (h2 : j < vs'.size), EqAt A.in1 s vs[j] vs'[j] (pairEq xs ys j) := fun j j1 j2 => by
            have z := eqAt_alikeAll xs ys A.in1 s vs.toList vs'.toList _ _ r1 r2 al (room_in hu) j (by simpa using j1) (by simpa using j2)
            simpa using z
          have hL : ∀ j (h1 : j < vs.size) (h2 : j < vs'.size), pairEq xs ys j = false → RcLt A.in1 s vs[j] vs'[j] (dataLt (xs.getD j .none) (ys.getD j .none)) := fun j j1 j2 hj => by
            have z := rcLt_alikeAll xs ys A.in1 s vs.toList vs'.toList _ _ r1 r2 al (room_in hu) j (by simpa using j1) (by simpa using j2) hj
            simpa using z
          exact wpAny_callSpecialIfBound?_slot (T := "tuple") ⟨_, g1, c1⟩ F.slot_tuple_lt (call_tuple_lt' ⟨_, g1, c1, _, d1⟩ ⟨_, g2, c2, _, d2⟩ hE hL (wpAny_truthy_bool q))
    | _ => exact absurd h (by simp [alike])
  · exact oneLt_alike (fun e xs q => hf ⟨e, xs, q⟩) ra rb h hn hu q

def tyP : PyData → Value
  | .none => .type "NoneType"
  | .bool _ => .type "bool"
  | .int _ => .type "int"
  | .str _ => .type "str"
  | .list _ => .type "list"
  | .tuple _ => .type "tuple"
  | .dict _ => .type "dict"
theorem tyP_looks {M : Model} {h : Heap} {v : Value} {d : PyData} {as : List Addr} (r : Reads h v d as) : Looks M h (typeOf v) (tyP d) := by
  cases r with
  | none => exact .now
  | bool => exact .now
  | int => exact .now
  | str => exact .now
  | list g c d r => exact (show tyP (.list _) = _ from c.symm) ▸ (Looks.ld g).andThen .now
  | tuple g c d r => exact (show tyP (.tuple _) = _ from c.symm) ▸ (Looks.ld g).andThen .now
  | dict g c d r1 r2 => exact (show tyP (.dict _) = _ from c.symm) ▸ (Looks.ld g).andThen .now
theorem alike_ty {x y : PyData} (h : alike x y = true) : tyP x = tyP y := by
  cases x <;> cases y <;> first | rfl | (exact absurd h (by simp [alike]))
def isNe : PyData → Bool
  | .tuple (_ :: _) => true
  | _ => false
theorem types_of {M : Model} : ∀ {vs : List Value} {xs : List PyData} {as : List Addr}, ReadsAll s.heap vs xs as → ∃ ts : List Value, ∀ (Q : List Value → Shared → Prop) (E : Value → Shared → Prop), Q ts s → wpAny M A (vs.mapM typeOf) Q E s
  | _, _, _, .nil => ⟨[], fun Q E q => by rw [List.mapM_nil]; exact wpAny_pure q⟩
  | _, _, _, .cons (d := d) r rs => by
    obtain ⟨ts, ih⟩ := types_of (M := M) rs
    refine ⟨tyP d :: ts, fun Q E q => ?_⟩
    rw [List.mapM_cons]
    exact wpAny_bind ((tyP_looks r).here (wpAny_bind (ih (fun bs s' => wpAny M A (pure (_ :: bs)) Q E s') E (wpAny_pure q))))
theorem firstsD {M : Model} : ∀ {vs : List Value} {xs : List PyData} {as : List Addr}, ReadsAll s.heap vs xs as → ∃ os : List (Option Value), os.all (·.isSome) = xs.all isNe ∧ ∀ (Q : List (Option Value) → Shared → Prop) (E : Value → Shared → Prop), Q os s → wpAny M A (vs.mapM firstOfTuple') Q E s
  | _, _, _, .nil => ⟨[], rfl, fun Q E q => by rw [List.mapM_nil]; exact wpAny_pure q⟩
  | _, _, _, .cons (v := v) (d := d) r rs => by
    obtain ⟨os, e, ih⟩ := firstsD (M := M) rs
    have one : ∃ o : Option Value, o.isSome = isNe d ∧ ∀ (Q : Option Value → Shared → Prop) (E : Value → Shared → Prop), Q o s → wpAny M A (firstOfTuple' v) Q E s := by
      by_cases ht : tyP d = .type "tuple"
      · cases r with
        | @tuple l o us n zs _ g c dd r =>
          refine ⟨us[0]?, ?_, fun Q E q => ?_⟩
          · have hl : us.size = zs.length := by simpa using ReadsAll.length _ _ _ r
            cases zs with
            | nil =>
              rw [List.length_nil] at hl
              have : us[0]? = none := by simp [hl]
              rw [this]; rfl
            | cons z zs =>
              rw [List.length_cons] at hl
              have : us[0]? = some us[0] := by simp
              rw [this]; rfl
          · rw [kas_first_eq]
            refine wpAny_bind ((tyP_looks (.tuple g c dd r)).here ?_)
            rw [if_neg (by first | decide | simp [tyP])]
            exact wpAny_bind (listItems_at g dd (wpAny_pure q))
        | none => exact absurd ht (by simp [tyP])
        | bool => exact absurd ht (by simp [tyP])
        | int => exact absurd ht (by simp [tyP])
        | str => exact absurd ht (by simp [tyP])
        | list => exact absurd ht (by simp [tyP])
        | dict => exact absurd ht (by simp [tyP])
      · refine ⟨none, ?_, fun Q E q => ?_⟩
        · cases d <;> first | rfl | exact absurd rfl ht
        · rw [kas_first_eq]
          refine wpAny_bind ((tyP_looks r).here ?_)
          have hb : (tyP d != Value.type "tuple") = true := by
            cases d <;> first | (exact absurd rfl ht) | rfl | decide
          rw [if_pos hb]
          exact wpAny_pure q
    obtain ⟨o, eo, ho⟩ := one
    refine ⟨o :: os, by simp [eo, e], fun Q E q => ?_⟩
    rw [List.mapM_cons]
    exact wpAny_bind (ho _ _ (wpAny_bind (ih (fun bs s' => wpAny M A (pure (_ :: bs)) Q E s') E (wpAny_pure q))))

def GoodK (κ : SortKind) (xs : List PyData) : Prop := κ = oneType' ∨ κ = general' ∨ ∃ b, κ = tuples' b ∧ (∀ x ∈ xs, ∃ y ys, x = .tuple (y :: ys)) ∧ (b = true → ∀ x ∈ xs, ∀ y ys, x = .tuple (y :: ys) → ∀ t, y ≠ .tuple t)
theorem tups_of {h : Heap} : ∀ {vs : List Value} {xs : List PyData} {as : List Addr}, ReadsAll h vs xs as → xs.all isNe = true →
    ∃ fs : List Value, KatTups h vs fs ∧ ∀ f ∈ fs, ∃ y ys bs, .tuple (y :: ys) ∈ xs ∧ Reads h f y bs
  | _, _, _, .nil, _ => ⟨[], KatTups.nil, fun f hf => absurd hf (by simp)⟩
  | _, _, _, .cons (v := v) (d := d) r rs, e => by
    simp only [List.all_cons, Bool.and_eq_true] at e
    obtain ⟨fs, k, hf⟩ := tups_of rs e.2
    cases r with
    | @tuple l o us n zs _ g c dd r =>
      cases zs with
      | nil => exact absurd e.1 (by simp [isNe])
      | cons z zs =>
        have e0 : us = ⟨us.toList⟩ := rfl
        generalize hus : us.toList = ul at r e0
        subst e0
        cases r with
        | @cons f ul' _ _ b1 _ r1 r2 =>
          refine ⟨f :: fs, KatTups.cons g c dd (by simp) k, fun f' hf' => ?_⟩
          rcases List.mem_cons.mp hf' with rfl | hf'
          · exact ⟨z, zs, _, List.mem_cons_self, r1⟩
          · obtain ⟨y, ys, bs, m, r⟩ := hf f' hf'
            exact ⟨y, ys, bs, List.mem_cons_of_mem _ m, r⟩
    | none => exact absurd e.1 (by simp [isNe])
    | bool => exact absurd e.1 (by simp [isNe])
    | int => exact absurd e.1 (by simp [isNe])
    | str => exact absurd e.1 (by simp [isNe])
    | list => exact absurd e.1 (by simp [isNe])
    | dict => exact absurd e.1 (by simp [isNe])
theorem kind_data {M : Model} {vs : List Value} {xs : List PyData} {as : List Addr} (r : ReadsAll s.heap vs xs as) (hal : AlkAll xs) (h2 : 2 ≤ vs.length) :
    ∃ κ, GoodK κ xs ∧ ∀ (Q : SortKind → Shared → Prop) (E : Value → Shared → Prop), Q κ s → wpAny M A (keyKind' vs.toArray) Q E s := by
  by_cases hn : xs.all isNe = true
  · obtain ⟨fs, k, hf⟩ := tups_of r hn
    have hl : vs.length = xs.length := ReadsAll.length _ _ _ r
    match xs, hl, hal, hn, hf with
    | [], hl, _, _, _ => exact absurd h2 (by rw [hl]; decide)
    | x :: xs', hl, hal, hn, hf =>
      have hx : isNe x = true := by
        simp only [List.all_cons, Bool.and_eq_true] at hn
        exact hn.1
      obtain ⟨y, ys, rfl⟩ : ∃ y ys, x = .tuple (y :: ys) := by
        match x, hx with
        | .tuple (y :: ys), _ => exact ⟨y, ys, rfl⟩
      have hfl : 0 < fs.length := by
        match vs, fs, k, h2 with
        | _ :: _, _ :: _, _, _ => simp
        | _ :: _, [], k, _ => exact absurd k (by simp [KatTups])
        | [], _, _, h2 => exact absurd h2 (by simp)
      have hal0 : ∀ z zs, PyData.tuple (z :: zs) ∈ PyData.tuple (y :: ys) :: xs' → tyP z = tyP y := fun z zs m => by
        have q := hal _ m _ List.mem_cons_self
        have q' : alikeAll (z :: zs) (y :: ys) = true := by simpa [alike] using q
        exact alike_ty (alike_all_cons q').1
      refine ⟨tuples' (tyP y != Value.type "tuple"), .inr (.inr ⟨_, rfl, fun z m => ?_, fun hb z m u us e t q => ?_⟩), fun Q E q => ?_⟩
      · have hz : isNe z = true := List.all_eq_true.mp hn z m
        match z, hz with
        | .tuple (y :: ys), _ => exact ⟨y, ys, rfl⟩
      · subst e q
        have e2 := hal0 _ _ m
        rw [← e2] at hb
        exact absurd hb (by simp [tyP])
      · refine kat_kind (T := tyP y) k hfl (fun f m => ?_) (by cases y <;> rfl) q
        obtain ⟨z, zs, bs, m', r'⟩ := hf f m
        rw [← hal0 _ _ m']
        exact tyP_looks r'
  · obtain ⟨os, eo, ho⟩ := firstsD (A := A) (M := M) r
    obtain ⟨ts, ht⟩ := types_of (A := A) (M := M) r
    have en : (os.toArray.all fun x => x.isSome) = false := by
      rw [List.all_toArray, eo]
      exact Bool.eq_false_iff.mpr hn
    by_cases h0 : ((os.toArray[0]?).bind id).isSome = true
    · refine ⟨general', .inr (.inl rfl), fun Q E q => ?_⟩
      rw [kat_kind_eq, List.mapM_toArray, map_eq_pure_bind]
      refine wpAny_bind (wpAny_bind (ho _ _ (wpAny_pure ?_)))
      rw [if_neg (by rw [en]; decide), if_pos h0]
      exact wpAny_pure q
    · have rest : ∀ κ, κ = (if (match ts.toArray[0]? with | some t => if ts.toArray.all (· == t) then some t else none | none => none : Option Value).isSome then oneType' else general') →
          ∀ (Q : SortKind → Shared → Prop) (E : Value → Shared → Prop), Q κ s → wpAny M A (keyKind' vs.toArray) Q E s := fun κ hκ Q E q => by
        rw [kat_kind_eq, List.mapM_toArray, map_eq_pure_bind]
        refine wpAny_bind (wpAny_bind (ho _ _ (wpAny_pure ?_)))
        rw [if_neg (by rw [en]; decide), if_neg h0]
        rw [oneTypeOnly'_eq, List.mapM_toArray, map_eq_pure_bind]
        refine wpAny_bind (wpAny_bind (wpAny_bind (ht _ _ (wpAny_pure ?_))))
        rw [hκ] at q
        generalize ts.toArray[0]? = t0 at q ⊢
        cases t0 with
        | none => exact wpAny_pure (wpAny_pure q)
        | some t => exact wpAny_pure (wpAny_pure q)
      have gk : ∀ b : Bool, GoodK (if b then oneType' else general') xs := fun b => by
        cases b
        · exact .inr (.inl rfl)
        · exact .inl rfl
      exact ⟨_, gk _, rest _ rfl⟩
end kinds
end DL

set_option maxHeartbeats 4000000
namespace DL
open PySem PySem.Spec L2

section sorts
open PySem.W PyProof.Rows SeqAt
variable {prog : Program} {w : World} {A : Around} {E : Value → Shared → Prop} {s : Shared}
theorem readsAll_mem {h : Heap} : ∀ {vs : List Value} {xs : List PyData} {as : List Addr}, ReadsAll h vs xs as → ∀ v ∈ vs, ∃ d as, d ∈ xs ∧ Reads h v d as
  | _, _, _, .nil, _, m => absurd m (by simp)
  | _, _, _, .cons r rs, v, m => by
    rcases List.mem_cons.mp m with rfl | m
    · exact ⟨_, _, List.mem_cons_self, r⟩
    · obtain ⟨d, as, h1, h2⟩ := readsAll_mem rs v m
      exact ⟨d, as, List.mem_cons_of_mem _ h1, h2⟩
theorem readsAll_keep {h h' : Heap} (k : ∀ b o, h.get? b = some o → h'.get? b = some o) : ∀ {vs : List Value} {xs : List PyData} {as : List Addr}, ReadsAll h vs xs as → ReadsAll h' vs xs as
  | _, _, _, .nil => .nil
  | _, _, _, .cons r rs => .cons (Reads.keeps k r) (readsAll_keep k rs)
theorem depth_le {x : PyData} : ∀ {xs : List PyData}, x ∈ xs → x.depth ≤ PyData.depthAll xs
  | [], m => absurd m (by simp)
  | y :: ys, m => by
    rw [PyData.depthAll]
    rcases List.mem_cons.mp m with rfl | m
    · exact Nat.le_max_left _ _
    · exact Nat.le_trans (depth_le m) (Nat.le_max_right _ _)
theorem cmp_data {vs : List Value} {xs : List PyData} {as : List Addr} {κ : SortKind} (r : ReadsAll s.heap vs xs as) (hal : AlkAll xs) (hn : ∀ x ∈ xs, x ≠ .none) (hu : A.units + PyData.depthAll xs < cLine) (g : GoodK κ xs) :
    SrtO.Cmp prog w A s κ (fun p => p.1 ∈ vs) (SrtO.lt2 fun v u => dataLt (rdV s.heap xs v) (rdV s.heap xs u)) := by
  intro p q hp hq
  obtain ⟨da, a1, m1, r1⟩ := readsAll_mem r _ hp
  obtain ⟨db, a2, m2, r2⟩ := readsAll_mem r _ hq
  have e1 := rdV_of hal m1 r1
  have e2 := rdV_of hal m2 r2
  show wpAny (model prog w) A (keyLt' κ p.1 q.1) (fun r s' => s' = s ∧ r = dataLt (rdV s.heap xs p.1) (rdV s.heap xs q.1)) (fun _ _ => False) s
  rw [e1, e2]
  have hd := depth_le m1
  have hu' : A.units + min da.depth db.depth < cLine := Nat.lt_of_le_of_lt (Nat.add_le_add_left (Nat.le_trans (Nat.min_le_left _ _) hd) _) hu
  rcases g with rfl | rfl | ⟨b, rfl, t1, t2⟩
  · exact oneLt_any (f := true) r1 r2 (hal _ m1 _ m2) (hn _ m1) hu' ⟨rfl, rfl⟩
  · exact oneLt_any (f := false) r1 r2 (hal _ m1 _ m2) (hn _ m1) hu' ⟨rfl, rfl⟩
  · obtain ⟨y, ys, rfl⟩ := t1 _ m1
    obtain ⟨z, zs, rfl⟩ := t1 _ m2
    generalize p.1 = pv at r1 ⊢
    generalize q.1 = qv at r2 ⊢
    have al : alikeAll (y :: ys) (z :: zs) = true := by simpa [alike] using hal _ m1 _ m2
    rw [dataLt_tuple]
    cases r1 with
    | @tuple l o vs n _ _ g1 c1 d1 r1 =>
      cases r2 with
      | @tuple l' o' vs' n' _ _ g2 c2 d2 r2 =>
        have n1 : vs.size = (y :: ys).length := by simpa using ReadsAll.length _ _ _ r1
        have n2 : vs'.size = (z :: zs).length := by simpa using ReadsAll.length _ _ _ r2
        refine kat_lt g1 d1 g2 d2 (katLex_alike _ _ _ _ _ _ _ r1 r2 al ?_ (fun hb _ x r t e => ?_) (by rw [n1, n2]) ⟨rfl, rfl⟩)
        · simp only [PyData.depth] at hu'
          omega
        · cases e
          exact t2 hb _ m1 _ _ rfl t
theorem data_sortable {a : Addr} {vs : List Value} {xs : List PyData} {as : List Addr} {h0 : Heap} (r : ReadsAll h0 vs xs as) (hk : ∀ b o, h0.get? b = some o → b ≠ a ∧ s.heap.get? b = some o) (hal : AlkAll xs) (hn : ∀ x ∈ xs, x ≠ .none) (hu : A.units + PyData.depthAll xs < cLine) (h2 : 2 ≤ vs.length) :
    SrtO.SortableO prog w A s a vs fun v u => dataLt (rdV h0 xs v) (rdV h0 xs u) := by
  intro h' keep
  have r' : ReadsAll h' vs xs as := readsAll_keep (fun b o e => keep b o (hk b o e).1 (hk b o e).2) r
  obtain ⟨κ, g, hκ⟩ := kind_data (A := A) (M := model prog w) (s := { s with heap := h' }) r' hal h2
  refine ⟨κ, fun Q E q => hκ Q E q, ?_⟩
  have c := cmp_data (prog := prog) (w := w) (s := { s with heap := h' }) r' hal hn hu g
  intro p q hp hq
  have z := c p q hp hq
  obtain ⟨da, a1, m1, r1⟩ := readsAll_mem r _ hp
  obtain ⟨db, a2, m2, r2⟩ := readsAll_mem r _ hq
  obtain ⟨da', a1', m1', r1'⟩ := readsAll_mem r' _ hp
  have e1 : rdV h' xs p.1 = rdV h0 xs p.1 := by
    rw [rdV_of hal m1 r1, rdV_of hal m1 (Reads.keeps (fun b o e => keep b o (hk b o e).1 (hk b o e).2) r1)]
  have e2 : rdV h' xs q.1 = rdV h0 xs q.1 := by
    rw [rdV_of hal m2 r2, rdV_of hal m2 (Reads.keeps (fun b o e => keep b o (hk b o e).1 (hk b o e).2) r2)]
  have z' : wpAny (model prog w) A (keyLt' κ p.1 q.1) (fun r s' => s' = { s with heap := h' } ∧ r = dataLt (rdV h' xs p.1) (rdV h' xs q.1)) (fun _ _ => False) { s with heap := h' } := z
  rw [e1, e2] at z'
  exact z'
/-- sorted(x), x a list or a tuple -/
theorem sorted_seq {l : Addr} {T : String} {o : Obj} {vs : List Value} {n : Nat} {ltv : Value → Value → Bool} {Q : Value → Shared → Prop} (O : SrtO.Swo ltv) (hT : T = "list" ∨ T = "tuple") (ho : s.heap.get? l = some o) (hc : o.cls = .type T) (hd : o.data = .seq vs.toArray n) (hz : vs.length ≤ sizeLine)
    (hS : 2 ≤ vs.length → ∀ (h₁ : Heap) (a : Addr), (∀ b o, s.heap.get? b = some o → b ≠ a ∧ h₁.get? b = some o) → SrtO.SortableO prog w A.in1.in1 { s with heap := h₁ } a vs ltv)
    (h : ∀ (out : List Value), SrtO.Srtd ltv out → SrtO.Stb ltv out vs → ∀ (h' : Heap) (p : Addr), (∀ b o, s.heap.get? b = some o → h'.get? b = some o) → s.heap.get? p = none → (∃ ep, h'.get? p = some (seqObj "list" out.toArray ep)) → Q (.ref p) { s with heap := h' }) :
    wpAny (model prog w) A (call (.builtin "sorted") [.ref l]) Q E s := by
  refine Calls.call_function_entry kind_sorted plain_sorted entry_sorted (args_sorted1 _) (?_ : wpAny _ _ (Builtin.«sorted» _) _ _ _)
  unfold Builtin.«sorted»
  refine wpAny_bind (m := checkCount "sorted" 1 1 _) (wpAny_pure (wpAny_bind ?_))
  refine wpAny_collect_seq l hT ho hc hd (fun h1 k1 => ?_) (by rw [List.size_toArray]; exact hz)
  show wpAny _ _ (newList vs >>= _) _ _ _
  refine wpAny_bind (wpAny_newList ?_ hz)
  show wpAny _ _ _ _ _ { s with heap := h1.push (seqObj "list" vs.toArray 0) }
  have hp : (h1.push (seqObj "list" vs.toArray 0)).get? h1.objs.size = some (seqObj "list" vs.toArray 0) := Heap.get?_push_size _ rfl
  have hn : ∀ b u, h1.get? b = some u → b ≠ h1.objs.size := fun b u e => Nat.ne_of_lt (Heap.lt_size e)
  have kk : ∀ b o, s.heap.get? b = some o → b ≠ h1.objs.size ∧ (h1.push (seqObj "list" vs.toArray 0)).get? b = some o := fun b o e => ⟨hn b o (k1 b o e), Heap.get?_push_of_some _ (k1 b o e)⟩
  have hf : s.heap.get? h1.objs.size = none := by
    cases e : s.heap.get? h1.objs.size with
    | none => rfl
    | some u => exact absurd rfl (hn _ _ (k1 _ _ e))
  refine wpAny_bind (wpAny_holding (wpAny_call_entry slot_list_sort ⟨_, hp, rfl⟩ entry_list_sort (SrtO.list_sort_ord O hp hz (fun h2 => hS h2 _ _ kk) fun out hs hb => ⟨_, rfl, wpAny_pure ⟨_, rfl, ?_⟩⟩) (args_list_sort _)))
  exact h out hs hb _ _ (fun b o e => sortedHeap_old (kk b o e).1 (Heap.lt_size (kk b o e).2) ▸ (kk b o e).2) hf (sortedHeap_at hp)
end sorts

/-! ### permutations -/
theorem perm_map_inv {α β : Type} (f : α → β) {l k : List β} (p : l.Perm k) : ∀ m : List α, k = m.map f → ∃ m' : List α, m'.Perm m ∧ l = m'.map f := by
  induction p with
  | nil => intro m e; exact ⟨m, List.Perm.refl _, e⟩
  | cons x _ ih =>
    intro m e
    cases m with
    | nil => cases e
    | cons y ys =>
      simp only [List.map_cons, List.cons.injEq] at e
      obtain ⟨rfl, e⟩ := e
      obtain ⟨m', p', rfl⟩ := ih ys e
      exact ⟨y :: m', p'.cons y, rfl⟩
  | swap x y l =>
    intro m e
    match m, e with
    | a :: b :: r, e =>
      simp only [List.map_cons, List.cons.injEq] at e
      obtain ⟨rfl, rfl, rfl⟩ := e
      exact ⟨b :: a :: r, List.Perm.swap _ _ _, rfl⟩
  | trans _ _ ih1 ih2 =>
    intro m e
    obtain ⟨m1, p1, e1⟩ := ih2 m e
    obtain ⟨m2, p2, e2⟩ := ih1 m1 e1
    exact ⟨m2, p2.trans p1, e2⟩

/-! ### sorted, as data -/
def ltD (x y : D) : Bool := PySem.W.dataLt (toP x) (toP y)
def isNon : D → Bool
  | .non => true
  | _ => false
def alkD (x y : D) : Bool := PySem.W.alike (toP x) (toP y)
def gdS (xs : List D) : Bool := okDs 60 xs && xs.all (fun x => !isNon x) && xs.all fun x => xs.all fun y => alkD x y
def sortD (xs : List D) : List D := xs.mergeSort fun x y => !ltD y x
theorem toPs_map : ∀ xs : List D, toPs xs = xs.map toP
  | [] => rfl
  | x :: xs => by rw [toPs, toPs_map xs]; rfl
def rSortD (K : PySem.W.Frag) : List V → Hp → VK → Prop := fun vs H Q => ∃ (a : Addr) (l : List (V × D)), vs = [.ref a] ∧ (SqL K H a (l.map (·.1)) ∨ SqT K H a (l.map (·.1))) ∧ DpAll K H (l.map (·.1)) (toPs (l.map (·.2))) ∧ gdS (l.map (·.2)) = true ∧
  ∀ (l' : List (V × D)) q, l'.Perm l → (l'.Pairwise fun x y => ltD y.2 x.2 = false) → H q = none → Q (.ref q) (upd H q (.lst (l'.map (·.1))))

theorem alk_eq : ∀ (x y : D), alkD x y = true → (∃ n, okD n x = true) → (∃ m, okD m y = true) → eqD x y = true → x = y := by
  have main : ∀ (n : Nat) (x y : D) (m : Nat), okD n x = true → okD m y = true → alkD x y = true → eqD x y = true → x = y := by
    intro n
    induction n with
    | zero =>
      intro x y m h1 h2 h3 h4
      cases x <;> simp [okD] at h1 <;> cases y <;> simp_all [okD, alkD, toP, PySem.W.alike, eqD]
    | succ n ih =>
      have lst : ∀ (xs ys : List D) (m : Nat), okDs n xs = true → okDs m ys = true → PySem.W.alikeAll (toPs xs) (toPs ys) = true → eqDs xs ys = true → xs = ys := by
        intro xs
        induction xs with
        | nil =>
          intro ys m _ _ _ h4
          cases ys with
          | nil => rfl
          | cons y ys => simp [eqDs] at h4
        | cons x xs ihx =>
          intro ys m h1 h2 h3 h4
          cases ys with
          | nil => simp [eqDs] at h4
          | cons y ys =>
            simp only [okDs, Bool.and_eq_true] at h1 h2
            simp only [eqDs, Bool.and_eq_true] at h4
            simp only [toPs] at h3
            have h5 := PySem.W.alike_all_cons h3
            rw [ih x y m h1.1 h2.1 h5.1 h4.1, ihx ys m h1.2 h2.2 h5.2 h4.2]
      intro x y m h1 h2 h3 h4
      cases x with
      | tup xs =>
        cases y with
        | tup ys =>
          cases m with
          | zero => simp [okD] at h2
          | succ m =>
            simp only [okD] at h1 h2
            simp only [eqD] at h4
            simp only [alkD, toP, PySem.W.alike] at h3
            rw [lst xs ys m h1 h2 h3 h4]
        | _ => simp [eqD] at h4
      | lst xs =>
        cases y with
        | lst ys =>
          cases m with
          | zero => simp [okD] at h2
          | succ m =>
            simp only [okD] at h1 h2
            simp only [eqD] at h4
            simp only [alkD, toP, PySem.W.alike] at h3
            rw [lst xs ys m h1 h2 h3 h4]
        | _ => simp [eqD] at h4
      | _ => simp [okD] at h1 <;> cases y <;> simp_all [okD, alkD, toP, PySem.W.alike, eqD]
  intro x y h3 ⟨n, h1⟩ ⟨m, h2⟩ h4
  exact main n x y m h1 h2 h3 h4
theorem toks_inj {x y : PyData} (h : PySem.W.alike x y = true) (e : PySem.W.keyToks x = PySem.W.keyToks y) : PyData.eqv x y = true := by
  cases q : PyData.eqv x y with
  | true => rfl
  | false =>
    have z := (PySem.W.toks_eqv x y h).2 q [] [.inl 0]
    rw [e, PySem.W.lex_pre, PyProof.Rows.lex_irrefl] at z
    simp [PyProof.Rows.lexLt] at z
theorem ltD_anti {x y : D} {n m : Nat} (h : alkD x y = true) (h1 : okD n x = true) (h2 : okD m y = true) (a : ltD y x = false) (b : ltD x y = false) : x = y := by
  have e := PyProof.Rows.lex_total (O := PyProof.Rows.itemOrd) _ _ b a
  have q := toks_inj h e
  rw [eqv_eqD n m x y h1 h2] at q
  exact alk_eq x y h ⟨n, h1⟩ ⟨m, h2⟩ q
theorem okDs_mem {n : Nat} {x : D} : ∀ {xs : List D}, okDs n xs = true → x ∈ xs → okD n x = true
  | [], _, m => absurd m (by simp)
  | y :: ys, h, m => by
    simp only [okDs, Bool.and_eq_true] at h
    rcases List.mem_cons.mp m with rfl | m
    · exact h.1
    · exact okDs_mem h.2 m
theorem gdS_alk {xs : List D} (h : gdS xs = true) : ∀ x ∈ xs, ∀ y ∈ xs, alkD x y = true := fun x hx y hy => by
  simp only [gdS, Bool.and_eq_true] at h
  exact List.all_eq_true.mp (List.all_eq_true.mp h.2 x hx) y hy
theorem sortD_perm (xs : List D) : (sortD xs).Perm xs := List.mergeSort_perm _ _
theorem sortD_pw (xs : List D) : (sortD xs).Pairwise fun x y => ltD y x = false := by
  have q := List.pairwise_mergeSort (le := fun x y => !ltD y x) (fun a b c h1 h2 => by
    have h1' : ltD b a = false := by simpa using h1
    have h2' : ltD c b = false := by simpa using h2
    have := swo_data.tr _ _ _ h1' h2'
    simpa [ltD] using this) (fun a b => by
    cases e : ltD b a with
    | false => simp
    | true =>
      have := swo_data.asym _ _ e
      simp [ltD] at this ⊢
      simp [this]) xs
  exact q.imp fun h => by simpa using h
theorem sortD_uniq {xs l : List D} (h : gdS xs = true) (p : l.Perm xs) (s : l.Pairwise fun x y => ltD y x = false) : l = sortD xs := by
  refine List.Perm.eq_of_pairwise (le := fun x y => ltD y x = false) (fun a b ha hb h1 h2 => ?_) s (sortD_pw xs) (p.trans (sortD_perm xs).symm)
  have ha' := p.mem_iff.mp ha
  have hb' := (sortD_perm xs).mem_iff.mp hb
  have ok : okDs 60 xs = true := by
    simp only [gdS, Bool.and_eq_true] at h
    exact h.1.1
  exact ltD_anti (gdS_alk h _ ha' _ hb') (okDs_mem ok ha') (okDs_mem ok hb') h1 h2

section
open PyProof.Rows
theorem objOk_there {P : Program} {w : World} {H : Hp} {h : Heap} {a : Addr} {o : HO} (x : ObjOk P w H h a o) : ∃ u, h.get? a = some u := by
  cases o with
  | lst xs => obtain ⟨_, _, _, _, e⟩ := x; exact ⟨_, e⟩
  | tup xs => obtain ⟨_, _, _, _, e, _⟩ := x; exact ⟨_, e⟩
  | dK kvs => obtain ⟨_, _, _, _, o, _, _, e, _⟩ := x; exact ⟨_, e⟩
  | dT kvs => obtain ⟨_, _, _, _, o, _, _, e, _⟩ := x; exact ⟨_, e⟩
  | set S n => obtain ⟨o, _, _, _, e, _⟩ := x; exact ⟨_, e⟩
  | ins C dx fs => obtain ⟨_, _, _, e, _⟩ := x; exact ⟨_, e⟩
  | own y => obtain ⟨_, e⟩ := x; exact ⟨_, e⟩
  | xd fs => obtain ⟨_, ⟨_, _, _, e, _⟩, _⟩ := x; exact ⟨_, e⟩
  | rng lo hi => obtain ⟨_, _, _, e⟩ := x; exact ⟨_, e⟩
  | frz ob u => obtain ⟨e, _⟩ := x; exact ⟨_, e⟩
  | tbl ps => exact ⟨_, x⟩
  | met f y => exact ⟨_, x⟩
  | ext φ => obtain ⟨_, e, _⟩ := x; exact e
theorem hok_none {P : Program} {w : World} {H : Hp} {h : Heap} {a : Addr} (x : HOk P w H h) (e : h.get? a = none) : H a = none := by
  cases q : H a with
  | none => rfl
  | some o =>
    obtain ⟨u, z⟩ := objOk_there (x a o q)
    rw [e] at z
    cases z
theorem zipR {h : Heap} : ∀ {l : List (V × D)} {its : List Value} {as : List Addr}, Vals (l.map (·.1)) its → ReadsAll h its (toPs (l.map (·.2))) as → (its.zip l).map (·.1) = its ∧ (its.zip l).map (·.2) = l ∧ ∀ p ∈ its.zip l, RelV p.2.1 p.1 ∧ ∃ bs, Reads h p.1 (toP p.2.2) bs
  | [], its, as, hv, hr => by
    cases hv
    exact ⟨rfl, rfl, fun p m => absurd m (by simp)⟩
  | x :: l, its, as, hv, hr => by
    cases hv with
    | cons h1 h2 =>
      simp only [List.map_cons, toPs] at hr
      cases hr with
      | cons r1 r2 =>
        obtain ⟨e1, e2, ih⟩ := zipR h2 r2
        refine ⟨by simp only [List.zip_cons_cons, List.map_cons, e1], by simp only [List.zip_cons_cons, List.map_cons, e2], fun p m => ?_⟩
        rw [List.zip_cons_cons] at m
        rcases List.mem_cons.mp m with rfl | m
        · exact ⟨h1, _, r1⟩
        · exact ih p m
theorem valsR : ∀ {m : List (Value × (V × D))}, (∀ p ∈ m, RelV p.2.1 p.1) → Vals ((m.map (·.2)).map (·.1)) (m.map (·.1))
  | [], _ => .nil
  | x :: m, h => .cons (h x List.mem_cons_self) (valsR fun p q => h p (List.mem_cons_of_mem _ q))
theorem pwR {h : Heap} {xs : List PyData} {m : List (Value × (V × D))} (hal : AlkAll xs) (hm : ∀ p ∈ m, (toP p.2.2 ∈ xs) ∧ ∃ bs, Reads h p.1 (toP p.2.2) bs)
    (hs : SrtO.Srtd (fun v u => PySem.W.dataLt (rdV h xs v) (rdV h xs u)) (m.map (·.1))) : (m.map (·.2)).Pairwise fun x y => ltD y.2 x.2 = false := by
  rw [List.pairwise_map]
  have hs' := List.pairwise_map.mp hs
  refine hs'.imp_of_mem fun {a b} ha hb q => ?_
  obtain ⟨m1, b1, r1⟩ := hm a ha
  obtain ⟨m2, b2, r2⟩ := hm b hb
  have q' : PySem.W.dataLt (rdV h xs b.1) (rdV h xs a.1) = false := q
  rw [rdV_of hal m1 r1, rdV_of hal m2 r2] at q'
  exact q'
variable {X : Cx}
theorem cr_sortD (hu : X.A.units + 64 < cLine) : CallR X (.builtin "sorted") (rSortD X.K) := by
  intro pins s σ H vs us Q I r h
  obtain ⟨a, l, rfl, hs, hd, hg, q⟩ := h
  rw [Vals.ref1 r]
  have get : ∃ (its : List Value) (T : String) (o : Obj) (n : Nat), Vals (l.map (·.1)) its ∧ (T = "list" ∨ T = "tuple") ∧ s.heap.get? a = some o ∧ o.cls = .type T ∧ o.data = .seq its.toArray n ∧ (l.map (·.1)).length ≤ sizeLine := by
    rcases hs with hs | hs
    · obtain ⟨its, rv, pl, hz⟩ := I.list hs
      obtain ⟨o, e, c, n, d⟩ := pl.isList
      exact ⟨its, "list", o, n, rv, .inl rfl, e, c, d, hz⟩
    · obtain ⟨its, rv, pl, hz⟩ := I.tuple hs
      obtain ⟨o, e, c, n, d⟩ := pl
      exact ⟨its, "tuple", o, n, rv, .inr rfl, e, c, d, hz⟩
  obtain ⟨its, T, o, n, rv, hT, ho, hc, hdat, hz⟩ := get
  obtain ⟨as, ra⟩ := Dp.readsAll I _ _ _ hd rv
  obtain ⟨z1, z2, z3⟩ := zipR rv ra
  have ok : okDs 60 (l.map (·.2)) = true := by
    simp only [gdS, Bool.and_eq_true] at hg
    exact hg.1.1
  have hal : AlkAll (toPs (l.map (·.2))) := by
    rw [toPs_map]
    intro x hx y hy
    obtain ⟨x', hx', rfl⟩ := List.mem_map.mp hx
    obtain ⟨y', hy', rfl⟩ := List.mem_map.mp hy
    exact gdS_alk hg _ hx' _ hy'
  have hnn : ∀ x ∈ toPs (l.map (·.2)), x ≠ .none := by
    rw [toPs_map]
    intro x hx
    obtain ⟨x', hx', rfl⟩ := List.mem_map.mp hx
    simp only [gdS, Bool.and_eq_true] at hg
    have := List.all_eq_true.mp hg.1.2 x' hx'
    have k := okDs_mem ok hx'
    cases x' <;> simp [isNon] at this <;> simp [toP]
  have hdep := (okDs_lay 60 _ ok).2
  have huu : X.A.in1.in1.units + PyData.depthAll (toPs (l.map (·.2))) < cLine := by
    show X.A.units + 1 + 1 + _ < _
    omega
  have hlen : l.length = its.length := by
    have := rv.length
    simpa using this
  refine sorted_seq (n := n) (T := T) (o := o) (vs := its) (ltv := fun v u => PySem.W.dataLt (rdV s.heap (toPs (l.map (·.2))) v) (rdV s.heap (toPs (l.map (·.2))) u)) ⟨fun x y => swo_data.asym _ _, fun x y z => swo_data.tr _ _ _⟩ hT ho hc hdat (by rw [← rv.length]; exact hz) (fun h2 h₁ a' kk => data_sortable ra kk hal hnn huu h2) fun out hs hb h' p keep hf he => ?_
  obtain ⟨m', pm, eo⟩ := perm_map_inv (fun p : Value × (V × D) => p.1) hb.perm (its.zip l) z1.symm
  have hm : ∀ p ∈ m', RelV p.2.1 p.1 ∧ ∃ bs, Reads s.heap p.1 (toP p.2.2) bs := fun p hp => z3 p (pm.mem_iff.mp hp)
  have pl : (m'.map (·.2)).Perm l := by
    have := pm.map (·.2)
    rwa [z2] at this
  have hn := hok_none I.hok hf
  subst eo
  have hv' := valsR fun p hp => (hm p hp).1
  obtain ⟨ep, he⟩ := he
  have hz' : ((m'.map (·.2)).map (·.1)).length ≤ sizeLine := by
    rw [List.length_map, pl.length_eq]
    rwa [List.length_map] at hz
  refine ⟨.ref p, upd H p (.lst ((m'.map (·.2)).map (·.1))), I.laidN (t' := s.toks) keep hf hn ⟨hz', _, ep, hv', he⟩, rfl, q _ p pl (pwR hal (fun x hx => ⟨?_, (hm x hx).2⟩) hs) hn⟩
  rw [toPs_map]
  exact List.mem_map_of_mem (f := toP) (List.mem_map_of_mem (f := fun p : V × D => p.2) (pl.mem_iff.mp (List.mem_map_of_mem (f := fun p : Value × (V × D) => p.2) hx)))
end

def cSorted : Sto → List D → Option (List D) := fun S ds => match ds with
  | [x] => (seqD S x).bind fun xs => if gdS xs then some (sortD xs) else none
  | _ => none
theorem rvl_zip {K : PySem.W.Frag} {av : Addr → Prop} {μ : List Addr} {H : Hp} : ∀ {ds : List D} {ys : List V}, RVL K av μ H ds ys → (ys.zip ds).map (·.1) = ys ∧ (ys.zip ds).map (·.2) = ds ∧ ∀ p ∈ ys.zip ds, RV K av μ H p.2 p.1
  | [], ys, h => by
    unfold RVL at h
    subst h
    exact ⟨rfl, rfl, fun p m => absurd m (by simp)⟩
  | d :: ds, ys, h => by
    unfold RVL at h
    obtain ⟨y, ys, rfl, h1, h2⟩ := h
    obtain ⟨e1, e2, ih⟩ := rvl_zip h2
    refine ⟨by simp only [List.zip_cons_cons, List.map_cons, e1], by simp only [List.zip_cons_cons, List.map_cons, e2], fun p m => ?_⟩
    rw [List.zip_cons_cons] at m
    rcases List.mem_cons.mp m with rfl | m
    · exact h1
    · exact ih p m
theorem rvl_unzip {K : PySem.W.Frag} {av : Addr → Prop} {μ : List Addr} {H : Hp} : ∀ {l : List (V × D)}, (∀ p ∈ l, RV K av μ H p.2 p.1) → RVL K av μ H (l.map (·.2)) (l.map (·.1))
  | [], _ => RVL.nil'
  | x :: l, h => RVL.cons' (h x List.mem_cons_self) (rvl_unzip fun p m => h p (List.mem_cons_of_mem _ m))
theorem cf_sorted {K : PySem.W.Frag} : CallF K (rSortD K) cSorted := by
  intro Z μ H S ds es vs Q W r e q
  unfold cSorted at e
  split at e
  · rw [Option.bind_eq_some_iff] at e
    obtain ⟨xs, e1, e2⟩ := e
    split at e2
    · rename_i hg
      cases e2
      obtain ⟨v, rfl, rx⟩ := rvl1 r
      obtain ⟨a, ys, rfl, hs, hr⟩ := seq_of W rx e1
      obtain ⟨z1, z2, z3⟩ := rvl_zip hr
      have ok : okDs 60 xs = true := by
        have hg' := hg
        simp only [gdS, Bool.and_eq_true] at hg'
        exact hg'.1.1
      refine ⟨a, ys.zip xs, rfl, by rw [z1]; exact hs, by rw [z1, z2]; exact dps_of _ _ _ ok hr, by rw [z2]; exact hg, fun l' p pl pw hn => ?_⟩
      have es : l'.map (·.2) = sortD xs := sortD_uniq hg (by have := pl.map (·.2); rwa [z2] at this) (List.pairwise_map.mpr pw)
      have rl : RVLz K Z μ H (sortD xs) (l'.map (·.1)) := by
        rw [← es]
        exact rvl_unzip fun p m => z3 p (pl.mem_iff.mp m)
      have s : Same H (upd H p (.lst (l'.map (·.1)))) := fun c o z => by rw [upd_ne (ne_of_none z hn)]; exact z
      exact q p _ _ hn s upd_same (RVL.newO s hn rl)
    · cases e2
  · cases e
end DL

set_option maxHeartbeats 4000000
namespace DL
open PySem PySem.Spec L2

/-! ### tuple * int, 0 and 1 -/
section
theorem tupMul1 (l : Addr) (items : Array Value) (n : Nat) (dd : Option Addr) (sl : Array (Option Value)) (u : Tok) :
    Meets (Builtin.«tuple.__mul__» ⟨[.ref l, .int 1 u], []⟩) (fun _ R s => s.heap.get? l = some { cls := .type "tuple", dict := dd, data := .seq items n, slots := sl } ∧ R (.ok (.ret (Value.ref l))) s) :=
  .of_wp fun prog w A R s h => by
    obtain ⟨hp, g, d, tk, os⟩ := s
    obtain ⟨hl, h⟩ := h
    have f1 := AutoSeq1.idx_int
    have c1 : (items.isEmpty || ((1 : Int) == 1)) = true := by simp
    have hT : Shared.TypeIs ⟨hp, g, d, tk, os⟩ (.ref l) "tuple" := ⟨_, hl, rfl⟩
    wp_walk using wpAny_loadPart' hl, wpAny_typeOf hT
    repeat (first
      | (refine wpAny_ite_false (decide_eq_false (by decide)) ?_; wp_walk using wpAny_loadPart' hl, wpAny_typeOf hT)
      | (refine wpAny_ite_true (decide_eq_true (by rw [c1])) ?_; wp_walk using wpAny_loadPart' hl, wpAny_typeOf hT))
    exact ⟨_, rfl, h⟩
theorem tupMul0 (l : Addr) (items : Array Value) (n : Nat) (dd : Option Addr) (sl : Array (Option Value)) (u : Tok) (c1 : items.isEmpty = false) :
    Meets (Builtin.«tuple.__mul__» ⟨[.ref l, .int 0 u], []⟩) (fun _ R s => s.heap.get? l = some { cls := .type "tuple", dict := dd, data := .seq items n, slots := sl } ∧
      R (.ok (.ret (Value.ref s.heap.objs.size))) { s with heap := s.heap.push { cls := Value.type "tuple", data := Data.seq #[] }, toks := s.toks }) :=
  .of_wp fun prog w A R s h => by
    obtain ⟨hp, g, d, tk, os⟩ := s
    obtain ⟨hl, h⟩ := h
    have f1 := AutoSeq1.idx_int
    have c2 : (items.isEmpty || ((0 : Int) == 1)) = false := by rw [c1]; rfl
    have c3 : (decide ((0 : Int) ≤ 0) || items.isEmpty) = true := by rfl
    have hT : Shared.TypeIs ⟨hp, g, d, tk, os⟩ (.ref l) "tuple" := ⟨_, hl, rfl⟩
    wp_walk using wpAny_loadPart' hl, wpAny_typeOf hT
    repeat (first
      | (refine wpAny_ite_false (decide_eq_false (by decide)) ?_; wp_walk using wpAny_loadPart' hl, wpAny_typeOf hT)
      | (refine wpAny_ite_false (decide_eq_false (by rw [c2]; exact Bool.false_ne_true)) ?_; wp_walk using wpAny_loadPart' hl, wpAny_typeOf hT)
      | (refine wpAny_ite_true (decide_eq_true (by rw [c3])) ?_; wp_walk using wpAny_loadPart' hl, wpAny_typeOf hT))
    exact ⟨_, rfl, h⟩
variable {X : Cx}
/-- xs * 1 is xs; xs * 0 is new, of nothing -/
def rRep01 (K : PySem.W.Frag) : R2 := fun x y H Q => ∃ l k xs, x = .ref l ∧ y = .int k ∧ SqT K H l xs ∧ ((k = 1 ∧ Q (.ref l) H) ∨ (k = 0 ∧ xs ≠ [] ∧ ∀ p, H p = none → Q (.ref p) (upd H p (.tup []))))
theorem op_rep01 : OpR X (binaryOp .Mult) (rRep01 X.K) := by
  intro pins s σ H x y v u Q I rx ry h
  obtain ⟨l, k, xs, rfl, rfl, hT, q⟩ := h
  cases rx
  obtain ⟨t, rfl⟩ := ry
  obtain ⟨its, r, ⟨⟨cls, dd, data, sl⟩, ho, hc, n, hd⟩, hs⟩ := I.tuple hT
  have hc' : cls = .type "tuple" := hc
  have hd' : data = .seq its.toArray n := hd
  subst hc' hd'
  have road : ∀ (QQ : Value → Shared → Prop) (E : Value → Shared → Prop), wpAny (model X.prog X.w) X.A (call (.builtin "tuple.__mul__") [.ref l, .int k t]) QQ E s → wpAny (model X.prog X.w) X.A (binaryOp .Mult (.ref l) (.int k t)) QQ E s := fun QQ E z =>
    wpAny_binaryOp_repeat_ref (T := "tuple") (U := "int") (by decide) ⟨_, ho, rfl⟩ (fun s' => typeIs_int s' k t) noFill_tuple_mul F.fills_int_mul F.slot_int_rmul repeat_tuple F.slot_int_index.lookup
      (call_meets F.slot_int_rmul (typeIs_int s k t) F.entry_int_rmul (F.args_int_rmul_2 _ _) (int_rmul_tuple k t l its.toArray n dd sl) ⟨ho, rfl, ⟨_, ho, rfl⟩, z⟩)
  refine road _ _ ?_
  rcases q with ⟨rfl, q⟩ | ⟨rfl, hne, q⟩
  · exact call_meets F.slot_tuple_mul ⟨_, ho, rfl⟩ F.entry_tuple_mul (F.args_tuple_mul_2 _ _) (tupMul1 l its.toArray n dd sl t) ⟨ho, .ref l, H, I, rfl, q⟩
  · have hi : its.toArray.isEmpty = false := by
      cases its with
      | nil =>
        have := r.length
        exact absurd (List.eq_nil_of_length_eq_zero this) hne
      | cons a b => rfl
    refine call_meets F.slot_tuple_mul ⟨_, ho, rfl⟩ F.entry_tuple_mul (F.args_tuple_mul_2 _ _) (tupMul0 l its.toArray n dd sl t hi) ⟨ho, ?_⟩
    refine ⟨.ref s.heap.objs.size, _, I.laid (t' := s.toks) (o := .tup []) (fun b ob q => Heap.get?_push_of_some _ q) (Nat.le_refl _) ?_, rfl, q _ (I.hok.fresh (Nat.le_refl _))⟩
    exact ⟨Nat.zero_le _, [], .nil, PyProof.Rows.IsTup.new _ _⟩
end
/-- xs * k, k 0 or 1 -/
def gRep01 : Sto → D → D → Option D := fun _ x y => match x, y with
  | .tup ds, .int k => if k = 1 then some (.tup ds) else if k = 0 && !ds.isEmpty then some (.tup []) else none
  | _, _ => none
theorem od_rep01 {K : PySem.W.Frag} : OpD K (rRep01 K) gRep01 := by
  intro Z μ H S x y d v u Q W rx ry e q
  unfold gRep01 at e
  split at e
  · rename_i ds k
    obtain ⟨a, xs, rfl, hs, hr⟩ := rv_tup.mp rx
    have hy := rv_int.mp ry
    subst hy
    refine ⟨a, k, xs, rfl, rfl, SqT.of hs, ?_⟩
    split at e
    · rename_i hk
      cases e
      exact .inl ⟨hk, q _ H (Same.refl H) (rv_tup.mpr ⟨a, xs, rfl, hs, hr⟩)⟩
    · split at e
      · rename_i hk
        cases e
        simp only [Bool.and_eq_true, decide_eq_true_eq, Bool.not_eq_true'] at hk
        refine .inr ⟨hk.1, fun z => ?_, fun p hp => ?_⟩
        · subst z
          have := hr.length
          rw [List.length_nil] at this
          have := List.eq_nil_of_length_eq_zero this.symm
          rw [this] at hk
          exact absurd hk.2 (by decide)
        · have s : Same H (upd H p (.tup [])) := fun c o z => by rw [upd_ne (ne_of_none z hp)]; exact z
          exact q _ _ s (rv_tup.mpr ⟨p, [], rfl, upd_same, RVL.nil'⟩)
      · cases e
  · cases e
/-! ### is True, is not True -/
def gIsB (neg : Bool) : Sto → D → D → Option D := fun _ x y => match x, y with
  | .bl a, .bl b => some (.bl (if a == b then !neg else neg))
  | _, _ => none
theorem od_isB {K : PySem.W.Frag} : OpD K rIsB (gIsB false) := by
  intro Z μ H S x y d v u Q W rx ry e q
  unfold gIsB at e
  split at e
  · cases e
    have hx := rv_bl.mp rx
    have hy := rv_bl.mp ry
    subst hx hy
    refine ⟨_, _, rfl, rfl, q _ H (Same.refl H) ?_⟩
    rename_i a b
    cases a <;> cases b <;> exact rv_bl.mpr rfl
  · cases e
theorem od_notB {K : PySem.W.Frag} : OpD K rNotB (gIsB true) := by
  intro Z μ H S x y d v u Q W rx ry e q
  unfold gIsB at e
  split at e
  · cases e
    have hx := rv_bl.mp rx
    have hy := rv_bl.mp ry
    subst hx hy
    refine ⟨_, _, rfl, rfl, q _ H (Same.refl H) ?_⟩
    rename_i a b
    cases a <;> cases b <;> exact rv_bl.mpr rfl
  · cases e
end DL

set_option maxHeartbeats 4000000
namespace DL
open PySem PySem.Spec L2

/-! ### list + list, slices of lists as values -/
theorem OpD.or {K : PySem.W.Frag} {r r' : R2} {g g' : Sto → D → D → Option D} (h : OpD K r g) (h' : OpD K r' g') : OpD K (fun x y H Q => r x y H Q ∨ r' x y H Q) (fun S x y => (g S x y).or (g' S x y)) := by
  intro Z μ H S x y d v u Q W rx ry e q
  have e' : (g S x y).or (g' S x y) = some d := e
  cases h1 : g S x y with
  | some d1 =>
    rw [h1] at e'
    have : d1 = d := by simpa using e'
    subst this
    exact .inl (h Z μ H S x y d1 v u Q W rx ry h1 q)
  | none =>
    rw [h1] at e'
    exact .inr (h' Z μ H S x y d v u Q W rx ry (by simpa using e') q)
theorem OpF.val {K : PySem.W.Frag} {r : R2} {g : Sto → D → D → Option (List D)} (h : OpF K r g) : OpD K r (fun S x y => (g S x y).map .lst) := by
  intro Z μ H S x y d v u Q W rx ry e q
  rw [Option.map_eq_some_iff] at e
  obtain ⟨ds, e1, rfl⟩ := e
  exact h Z μ H S x y ds v u Q W rx ry e1 fun a xs H' n s h1 h2 => q _ H' s (RV.lst_of W n h1 h2)
def gAddA : Sto → D → D → Option D := fun S x y => match x with
  | .int i => match y with | .int j => some (.int (i + j)) | _ => none
  | .tup a => match y with | .tup b => if small (a.length + b.length) then some (.tup (a ++ b)) else none | _ => none
  | _ => (gCatF S x y).map .lst
theorem gAddA_eq (S : Sto) (x y : D) : gAddA S x y = (gAdd S x y).or ((gCatF S x y).map .lst) := by
  cases x <;> cases y <;> simp [gAddA, gAdd, gCatF, lstD]
abbrev rAddA (K : PySem.W.Frag) : R2 := fun x y H Q => ((rI0 fun i j => .int (i + j)) x y H Q ∨ rCatA K x y H Q) ∨ rCat x y H Q
theorem op_addA {X : Cx} : OpR X (binaryOp .Add) (rAddA X.K) := op_addD.or op_cat
theorem od_addA {K : PySem.W.Frag} : OpD K (rAddA K) gAddA := by
  have h := OpD.or (od_add (K := K)) (OpF.val od_catF)
  have e : gAddA = fun S x y => (gAdd S x y).or ((gCatF S x y).map .lst) := by
    funext S x y
    exact gAddA_eq S x y
  rw [e]
  exact h
section
variable {X : Cx} {a : Expr} {pos : Pos} {fa : E}
def eCutA (f : E) (lo hi : EO) : E := fun ρ S => (f ρ S).bind fun d => (lo ρ S).bind fun l => (hi ρ S).bind fun h => match d with
  | .tup ds => some (.tup (cutD ds l h))
  | d => (lstD S d).map fun ds => .lst (cutD ds l h)
theorem d_cutA {lo hi : Option Expr} {fl fh : EO} {p2 : Pos} (ha : PE X a (tD X.K fa)) (hl : PO X lo (tP X.K fl)) (hh : PO X hi (tP X.K fh)) : PE X (.Subscript a (.Slice lo hi none p2) pos) (tD X.K (eCutA fa fl fh)) :=
  pe_imp (pe_slice (SlR.or sl_tupA sl_list) ha hl hh) fun σ H Q ⟨Z, μ, ρ, S, R, d, e, q⟩ => by
    simp only [eCutA, Option.bind_eq_some_iff] at e
    obtain ⟨x, e1, l, e2, h, e3, e4⟩ := e
    refine ⟨Z, μ, ρ, S, R, x, e1, fun v H1 s1 r1 => ⟨Z, μ, ρ, S, R.mono s1, l, e2, fun H2 s2 => ⟨Z, μ, ρ, S, (R.mono s1).mono s2, h, e3, fun H3 s3 => ?_⟩⟩⟩
    have W3 := ((R.wd.mono s1).mono s2).mono s3
    split at e4
    · rename_i ds
      simp only [Option.some.injEq] at e4
      subst e4
      obtain ⟨p, xs, rfl, hs, hr⟩ := rv_tup.mp (RV.mono (s2.trans s3) r1)
      refine .inl ⟨p, xs, rfl, SqT.of hs, fun hw => ?_, fun hw t ht => ?_⟩
      · refine q _ H3 (s1.trans (s2.trans s3)) (rv_tup.mpr ⟨p, xs, rfl, hs, ?_⟩)
        have hc : cutD ds l h = ds := by
          unfold cutD
          rw [← RVL.length hr, hw.1, hw.2]
          simp [RVL.length hr]
        rw [hc]; exact hr
      · have s : Same H3 (upd H3 t (.tup (cutV xs l h))) := fun c o z => by rw [upd_ne (ne_of_none z ht)]; exact z
        exact q _ _ ((s1.trans (s2.trans s3)).trans s) (rv_tup.mpr ⟨t, _, rfl, upd_same, RVL.mono s (rvl_cut l h hr)⟩)
    · rw [Option.map_eq_some_iff] at e4
      obtain ⟨es, e4, rfl⟩ := e4
      obtain ⟨p, xs, rfl, hs, hr⟩ := lst_of W3 (RV.mono (s2.trans s3) r1) e4
      refine .inr ⟨p, xs, rfl, SqL.of hs, fun t ht => ?_⟩
      have s : Same H3 (upd H3 t (.lst (cutV xs l h))) := fun c o z => by rw [upd_ne (ne_of_none z ht)]; exact z
      exact q _ _ ((s1.trans (s2.trans s3)).trans s) (RV.lst_of W3 ht upd_same (RVL.newO s ht (rvl_cut l h hr)))
end
/-- int * int, tuple * 0 or 1 -/
def gMulA : Sto → D → D → Option D := fun S x y => match x with
  | .tup _ => gRep01 S x y
  | _ => gMul S x y
abbrev rMulA (K : PySem.W.Frag) : R2 := fun x y H Q => (rI CMul fun i j => .int (i * j)) x y H Q ∨ rRep01 K x y H Q
theorem op_mulA {X : Cx} : OpR X (binaryOp .Mult) (rMulA X.K) := op_mul.or op_rep01
theorem od_mulA {K : PySem.W.Frag} : OpD K (rMulA K) gMulA := by
  have h := OpD.or (od_mul (K := K)) (od_rep01 (K := K))
  have e : gMulA = fun S x y => (gMul S x y).or (gRep01 S x y) := by
    funext S x y
    cases x <;> cases y <;> simp [gMulA, gI, gRep01]
  rw [e]
  exact h

/-! ### room -/
theorem hu64 {k : Nat} {A : Around} (h : Room k A) : A.units + 64 < cLine := by have := h.un; omega
theorem hu65 {k : Nat} {A : Around} (h : Room k A) : A.units + 65 < cLine := by have := h.un; omega
section
variable {X : Cx} {pos : Pos}
theorem d_globI {x : Str} {i : Int} (hg : Gl X x) (hm : ∃ t, X.mg x = some (.int i t)) (hdb : (x == ("__debug__" : Str)) = false := by decide) : PE X (.Name x pos) (tD X.K (eC (.int i))) := by
  obtain ⟨t, hm⟩ := hm
  exact d_glob (d := .int i) hg hm ⟨t, rfl⟩ rfl hdb
end
end DL

set_option maxHeartbeats 4000000
namespace DL
open PySem PySem.Spec L2

/-! ### tuple(range(..)), list(range(..)) -/
def rg1 (f : E) : EL := fun ρ S => (f ρ S).bind fun d => match d with
  | .int n => if lim62 n && small n.toNat then some (rngD 0 1 n.toNat) else none
  | _ => none
def rg2 (f g : E) : EL := fun ρ S => (f ρ S).bind fun d => (g ρ S).bind fun e => match d, e with
  | .int i, .int j => if lim62 i && lim62 j && small (j - i).toNat then some (rngD i 1 (j - i).toNat) else none
  | _, _ => none
def eTupL (f : EL) : E := fun ρ S => (f ρ S).map .tup
theorem rvl_rg {K : PySem.W.Frag} {av : Addr → Prop} {μ : List Addr} {H : Hp} (a b : Int) : RVL K av μ H (rngD a 1 (b - a).toNat) (rgV a b) := by
  unfold rngD rgV
  generalize List.range (b - a).toNat = l
  induction l with
  | nil => exact RVL.nil'
  | cons k l ih => exact RVL.cons' (rv_int.mpr (by rw [Int.mul_one])) ih
theorem rgOk_of {i j : Int} (h1 : lim62 i = true) (h2 : lim62 j = true) (h3 : small (j - i).toNat = true) : RgOk i j := by
  have a := lim62_of h1
  have b := lim62_of h2
  have c : (j - i).toNat ≤ 1000000 := of_decide_eq_true h3
  exact ⟨a.1, a.2, b.1, b.2, by omega⟩
section
variable {X : Cx} {a b : Expr} {p p2 q pos : Pos} {fa fb : E}
theorem rg1_of {K : PySem.W.Frag} {σ : L2.St} {H : Hp} {R : Int → Int → Hp → Prop} {Z : Fr} {μ : List Addr} {ρ : Rho} {S : Sto} {ds : List D} (Rl : Rel K Z μ σ H ρ S) (e : rg1 fa ρ S = some ds)
    (h : ∀ i j H', Same H H' → RgOk i j → ds = rngD i 1 (j - i).toNat → R i j H') : tRg1 (tD K fa) σ H R := by
  simp only [rg1, Option.bind_eq_some_iff] at e
  obtain ⟨d, e1, e2⟩ := e
  refine ⟨Z, μ, ρ, S, Rl, d, e1, fun v H1 s1 r1 => ?_⟩
  split at e2
  · rename_i n
    split at e2
    · rename_i hl
      rw [Bool.and_eq_true] at hl
      cases e2
      refine ⟨n, rv_int.mp r1, h 0 n H1 s1 (rgOk_of (by decide) hl.1 (by rw [Int.sub_zero]; exact hl.2)) (by rw [Int.sub_zero])⟩
    · cases e2
  · cases e2
theorem rg2_of {K : PySem.W.Frag} {σ : L2.St} {H : Hp} {R : Int → Int → Hp → Prop} {Z : Fr} {μ : List Addr} {ρ : Rho} {S : Sto} {ds : List D} (Rl : Rel K Z μ σ H ρ S) (e : rg2 fa fb ρ S = some ds)
    (h : ∀ i j H', Same H H' → RgOk i j → ds = rngD i 1 (j - i).toNat → R i j H') : tRg2 (tD K fa) (tD K fb) σ H R := by
  simp only [rg2, Option.bind_eq_some_iff] at e
  obtain ⟨d, e1, d2, e3, e2⟩ := e
  refine ⟨Z, μ, ρ, S, Rl, d, e1, fun v H1 s1 r1 => ⟨Z, μ, ρ, S, Rl.mono s1, d2, e3, fun u H2 s2 r2 => ?_⟩⟩
  split at e2
  · rename_i n m
    split at e2
    · rename_i hl
      simp only [Bool.and_eq_true] at hl
      cases e2
      exact ⟨n, m, rv_int.mp r1, rv_int.mp r2, h n m H2 (s1.trans s2) (rgOk_of hl.1.1 hl.1.2 hl.2) rfl⟩
    · cases e2
  · cases e2
theorem d_tupRg1 (hc : X.calm = true) (hg : Gl X "tuple") (hm : X.mg "tuple" = none) (hg2 : Gl X "range") (hm2 : X.mg "range" = none) (ha : PE X a (tD X.K fa)) (na : starEach [a] X.env = (false, eval a X.env) :: starEach [] X.env := by rfl)
    (n2 : starEach [.Call (.Name "range" p2) [a] [] p] X.env = (false, eval (.Call (.Name "range" p2) [a] [] p) X.env) :: starEach [] X.env := by rfl) : PE X (.Call (.Name "tuple" q) [.Call (.Name "range" p2) [a] [] p] [] pos) (tD X.K (eTupL (rg1 fa))) :=
  pe_imp (pe_tupRg hc hg hm (prg_1 hg2 hm2 ha na) n2) fun σ H Q ⟨Z, μ, ρ, S, R, d, e, q⟩ => by
    simp only [eTupL, Option.map_eq_some_iff] at e
    obtain ⟨ds, e1, rfl⟩ := e
    refine rg1_of R e1 fun i j H' s ok ed => ⟨ok, fun t ht => ?_⟩
    subst ed
    have s2 : Same H' (upd H' t (.tup (rgV i j))) := fun c o z => by rw [upd_ne (ne_of_none z ht)]; exact z
    exact q _ _ (s.trans s2) (rv_tup.mpr ⟨t, _, rfl, upd_same, rvl_rg i j⟩)
theorem d_tupRg2 (hc : X.calm = true) (hg : Gl X "tuple") (hm : X.mg "tuple" = none) (hg2 : Gl X "range") (hm2 : X.mg "range" = none) (ha : PE X a (tD X.K fa)) (hb : PE X b (tD X.K fb)) (na : starEach [a, b] X.env = (false, eval a X.env) :: starEach [b] X.env := by rfl) (nb : starEach [b] X.env = (false, eval b X.env) :: starEach [] X.env := by rfl)
    (hp : (backTo p (starEach [b] X.env)).any (·.1) = false := by rfl)
    (n2 : starEach [.Call (.Name "range" p2) [a, b] [] p] X.env = (false, eval (.Call (.Name "range" p2) [a, b] [] p) X.env) :: starEach [] X.env := by rfl) : PE X (.Call (.Name "tuple" q) [.Call (.Name "range" p2) [a, b] [] p] [] pos) (tD X.K (eTupL (rg2 fa fb))) :=
  pe_imp (pe_tupRg hc hg hm (prg_2 hg2 hm2 ha hb na nb hp) n2) fun σ H Q ⟨Z, μ, ρ, S, R, d, e, q⟩ => by
    simp only [eTupL, Option.map_eq_some_iff] at e
    obtain ⟨ds, e1, rfl⟩ := e
    refine rg2_of R e1 fun i j H' s ok ed => ⟨ok, fun t ht => ?_⟩
    subst ed
    have s2 : Same H' (upd H' t (.tup (rgV i j))) := fun c o z => by rw [upd_ne (ne_of_none z ht)]; exact z
    exact q _ _ (s.trans s2) (rv_tup.mpr ⟨t, _, rfl, upd_same, rvl_rg i j⟩)
theorem d_lstRg1 (hc : X.calm = true) (hg : Gl X "list") (hm : X.mg "list" = none) (hg2 : Gl X "range") (hm2 : X.mg "range" = none) (ha : PE X a (tD X.K fa)) (na : starEach [a] X.env = (false, eval a X.env) :: starEach [] X.env := by rfl)
    (n2 : starEach [.Call (.Name "range" p2) [a] [] p] X.env = (false, eval (.Call (.Name "range" p2) [a] [] p) X.env) :: starEach [] X.env := by rfl) : PE X (.Call (.Name "list" q) [.Call (.Name "range" p2) [a] [] p] [] pos) (tF X.K (rg1 fa)) :=
  pe_imp (pe_listRg hc hg hm (prg_1 hg2 hm2 ha na) n2) fun σ H Q ⟨Z, μ, ρ, S, R, ds, e1, q⟩ => by
    refine rg1_of R e1 fun i j H' s ok ed => ⟨ok, fun t ht => ?_⟩
    subst ed
    have s2 : Same H' (upd H' t (.lst (rgV i j))) := fun c o z => by rw [upd_ne (ne_of_none z ht)]; exact z
    exact q t _ _ (s.free ht) (s.trans s2) upd_same (rvl_rg i j)
theorem d_lstRg2 (hc : X.calm = true) (hg : Gl X "list") (hm : X.mg "list" = none) (hg2 : Gl X "range") (hm2 : X.mg "range" = none) (ha : PE X a (tD X.K fa)) (hb : PE X b (tD X.K fb)) (na : starEach [a, b] X.env = (false, eval a X.env) :: starEach [b] X.env := by rfl) (nb : starEach [b] X.env = (false, eval b X.env) :: starEach [] X.env := by rfl)
    (hp : (backTo p (starEach [b] X.env)).any (·.1) = false := by rfl)
    (n2 : starEach [.Call (.Name "range" p2) [a, b] [] p] X.env = (false, eval (.Call (.Name "range" p2) [a, b] [] p) X.env) :: starEach [] X.env := by rfl) : PE X (.Call (.Name "list" q) [.Call (.Name "range" p2) [a, b] [] p] [] pos) (tF X.K (rg2 fa fb)) :=
  pe_imp (pe_listRg hc hg hm (prg_2 hg2 hm2 ha hb na nb hp) n2) fun σ H Q ⟨Z, μ, ρ, S, R, ds, e1, q⟩ => by
    refine rg2_of R e1 fun i j H' s ok ed => ⟨ok, fun t ht => ?_⟩
    subst ed
    have s2 : Same H' (upd H' t (.lst (rgV i j))) := fun c o z => by rw [upd_ne (ne_of_none z ht)]; exact z
    exact q t _ _ (s.free ht) (s.trans s2) upd_same (rvl_rg i j)
end

/-! ### what is built in -/
theorem bt_int : bootBuiltins "int" = some (.type "int") := by decide +kernel
theorem bt_bool : bootBuiltins "bool" = some (.type "bool") := by decide +kernel
theorem bt_str : bootBuiltins "str" = some (.type "str") := by decide +kernel
theorem bt_list : bootBuiltins "list" = some (.type "list") := by decide +kernel
theorem bt_tuple : bootBuiltins "tuple" = some (.type "tuple") := by decide +kernel
theorem bt_dict : bootBuiltins "dict" = some (.type "dict") := by decide +kernel
theorem bt_set : bootBuiltins "set" = some (.type "set") := by decide +kernel
theorem bt_len : bootBuiltins "len" = some (.builtin "len") := by decide +kernel
theorem bt_abs : bootBuiltins "abs" = some (.builtin "abs") := by decide +kernel
theorem bt_sum : bootBuiltins "sum" = some (.builtin "sum") := by decide +kernel
theorem bt_any : bootBuiltins "any" = some (.builtin "any") := by decide +kernel
theorem bt_all : bootBuiltins "all" = some (.builtin "all") := by decide +kernel
theorem bt_max : bootBuiltins "max" = some (.builtin "max") := by decide +kernel
theorem bt_min : bootBuiltins "min" = some (.builtin "min") := by decide +kernel
theorem bt_sorted : bootBuiltins "sorted" = some (.builtin "sorted") := by decide +kernel
theorem bt_isinstance : bootBuiltins "isinstance" = some (.builtin "isinstance") := by decide +kernel

section
variable {P : Program} {w : World} {K : PySem.W.Frag} {mg : Str → Option Value} {base : Heap} {x : Str} {st : Stmt} {N ps : List Str} {k : Nat} {body : T}
theorem fnDn {n m j : Nat} (h : Tx K mg x st ps) (S : FnScope N ps (defScope st)) (hn : N.length = n) (hm : ps.length = m) (hj : k + 1 = j)
    (hb : ∀ (f : Addr) (cdv : Value) (A : Around) (outer : List Env) (s : Shared) (H : Hp) (E : XK), Room k (A.deeper (PyProof.Rows.envOfC x (defScope st) s.heap.objs.size f cdv)) → PSs (cxOf CX0 P w K mg base N x (defScope st) f cdv A outer s H E).nox (defBody st) (tS K body)) :
    At P w K mg base x j m (runD body n) := by
  subst hn hm hj
  exact fnD h S hb
theorem fnFn {n m j : Nat} (h : Tx K mg x st ps) (S : FnScope N ps (defScope st)) (hn : N.length = n) (hm : ps.length = m) (hj : k + 1 = j)
    (hb : ∀ (f : Addr) (cdv : Value) (A : Around) (outer : List Env) (s : Shared) (H : Hp) (E : XK), Room k (A.deeper (PyProof.Rows.envOfC x (defScope st) s.heap.objs.size f cdv)) → PSs (cxOf CX0 P w K mg base N x (defScope st) f cdv A outer s H E).nox (defBody st) (tS K body)) :
    AtF P w K mg base x j m (runF body n) := by
  subst hn hm hj
  exact fnF h S hb
theorem fnOn {f : Addr} {fd : FuncData} {n m j : Nat} (F : Fun K x x st f fd) (S : FnScope N ps (defScope st)) (hn : N.length = n) (hm : ps.length = m) (hj : k + 1 = j)
    (hb : ∀ (f : Addr) (cdv : Value) (A : Around) (outer : List Env) (s : Shared) (H : Hp) (E : XK), Room k (A.deeper (PyProof.Rows.envOfC x (defScope st) s.heap.objs.size f cdv)) → PSs (cxOf CX0 P w K mg base N x (defScope st) f cdv A outer s H E).nox (defBody st) (tS K body)) :
    FnOk P w K mg base CX0 j f fd ps (spD K m (runD body n)) := by
  subst hn hm hj
  exact fnO F S hb
end
end DL

set_option maxHeartbeats 4000000
namespace DL
open PySem PySem.Spec L2

/-! ### the ends: what the top has written, the law -/
theorem tx_mk {K : PySem.W.Frag} {h : Heap} {mg : Str → Option Value} (X : K.In h) (G : h.Ns mainGlobals mg) {x : Str} {st : Stmt} {ps : List Str} {f : Addr} {od an : Option Addr} {sl : Array (Option Value)} {oc kV dc pm cd ct : Value}
    (hb : ∀ (kV doc pm : Value) (an : Option Addr) (cdv ct : Value) (us : List Value), us.length = ps.length → bindArgs (PySem.W.fnOf x x (defArgs st) (defBody st) (defScope st) .none kV doc pm an cdv ct) ⟨us, []⟩ = pure (ps.zip us))
    (a : PySem.W.nsIn K mainGlobals x = some (some (.ref f))) (l : K.lookup f = some ⟨oc, od, .func (PySem.W.fnOf x x (defArgs st) (defBody st) (defScope st) .none kV dc pm an cd ct), sl⟩)
    (c : PySem.W.codeIn K cd x = true) (k : PySem.W.keepIn K (.ref f) = true) : Tx K mg x st ps :=
  ⟨f, _, PySem.W.mg_of X G a, fun_mk (st := st) l c k, (fun_mk (st := st) l c k).binds hb⟩
theorem scr_of {K : PySem.W.Frag} {H : Hp} {a : Addr} {ns : List Int} (hO : Only H) (hS : SqL K H a (ns.map V.int)) : RVL K (fun _ => False) [] H [.scr ns] [.ref a] := by
  refine RVL.one (rv_scr.mpr ⟨a, rfl, ?_⟩)
  rcases hS with (h | ⟨o, h⟩) | h
  · rcases hO a with z | ⟨o, xs, z⟩
    · rw [z] at h; cases h
    · rw [z] at h; cases h
  · exact .inl ⟨o, h⟩
  · exact .inr fun H' => .inr h
/-- the law's promise, from the plain law -/
theorem sp_law {K : PySem.W.Frag} {g : List D → Option D} {n : Nat} (pl : ∀ ns : List Int, ns.length ≤ n → g [.scr ns] = some (.bl true)) (H : Hp) (a : Addr) (ns : List Int) (hl : ns.length ≤ n) (hO : Only H) (hS : SqL K H a (ns.map V.int)) :
    spD K 1 g [.ref a] H (fun v _ => v = .bl true) fun _ _ _ => False :=
  ⟨fun _ => False, [.scr ns], rfl, fun _ z => z.elim, scr_of hO hS, .bl true, pl ns hl, fun v H' _ r => rv_bl.mp r⟩
theorem law_walk {l : PySem.W.OpenLaw} {n k : Nat} {q : Program} {loose : List Str} {XP : (Str → Option Value) → Heap → Prop} {YP : World → Heap → Prop} {d : DefRec} {K : Params → PySem.W.Frag} {g : List D → Option D} {x : Str}
    (hn : l.most = some n) (hn2 : n ≤ sizeLine) (hdf : d.params.defaults = []) (hr : Room k callerA) (hY : ∀ (w : World) (h : Heap), YP w h → (K w.params).In h) (pl : ∀ ns : List Int, ns.length ≤ n → g [.scr ns] = some (.bl true))
    (F : ∀ (w : World) (mg : Str → Option Value) (fa : Addr) (h : Heap), (K w.params).In h → h.Ns mainGlobals mg → mg d.name = some (.ref fa) →
      ∃ fd : FuncData, (∀ (s : Shared) (u : Value), BindsTo s fd ⟨[u], []⟩ [(x, u)]) ∧
        ∀ base : Heap, (K w.params).In base → base.Ns mainGlobals mg → FnOk l.prog w (K w.params) mg base CX0 k fa fd [x] (spD (K w.params) 1 g)) :
    PySem.W.WalkO q loose XP YP l.row.toRowW d [] (fun f vs => PySem.call f vs) :=
  L2.walk_of (n := n) (k := k) (x := x) (CX := fun _ => CX0) (sp := fun w => spD (K w.params) 1 g) hn hn2 hdf hr hY F (fun _ H a ns hl hO hS => sp_law pl H a ns hl hO hS) fun _ _ _ _ _ z => z
end DL

set_option maxHeartbeats 4000000
namespace DL
open PySem PySem.Spec L2

/-! ### dicts: keys are ints and texts (false), or tuples of these (true) -/
def keyOf : D → Option Key
  | .int i => some (.inl i)
  | .str s => some (.inr s)
  | _ => none
def keysOf : List D → Option (List Key)
  | [] => some []
  | d :: ds => (keyOf d).bind fun k => (keysOf ds).map fun ks => k :: ks
def keyT (t : Bool) (d : D) : Bool := match t, d with
  | false, d => (keyOf d).isSome
  | true, .tup ds => (keysOf ds).isSome
  | _, _ => false
/-- what stands at a key -/
def lookD : List D → List D → D → Option D
  | k :: ks, v :: vs, x => if eqD k x then some v else lookD ks vs x
  | _, _, _ => none
def hasD (ks : List D) (x : D) : Bool := ks.any fun k => eqD k x
def putV : List D → List D → D → D → List D
  | k :: ks, w :: vs, x, v => (if eqD k x then v else w) :: putV ks vs x v
  | _, _, _, _ => []
/-- the dict that an expression tells -/
def dicD (S : Sto) : D → Option (Bool × List D × List D)
  | .dic t ks vs => some (t, ks, vs)
  | .ref n => match S[n]? with
    | some (.dic t ks vs) => some (t, ks, vs)
    | _ => none
  | _ => none
theorem keyD_inj {a b : Key} : eqD (keyD a) (keyD b) = decide (a = b) := by
  cases a with
  | inl i =>
    cases b with
    | inl j =>
      simp only [keyD, eqD, Sum.inl.injEq]
      by_cases h : i = j <;> simp [h]
    | inr y => simp [keyD, eqD]
  | inr x =>
    cases b with
    | inl j => simp [keyD, eqD]
    | inr y =>
      simp only [keyD, eqD, Sum.inr.injEq]
      by_cases h : x = y <;> simp [h]
theorem keyDs_inj : ∀ {a b : List Key}, eqDs (a.map keyD) (b.map keyD) = decide (a = b)
  | [], [] => rfl
  | [], _ :: _ => by simp [eqDs]
  | _ :: _, [] => by simp [eqDs]
  | x :: a, y :: b => by
    simp only [List.map_cons, eqDs, keyD_inj, keyDs_inj, List.cons.injEq]
    by_cases h1 : x = y <;> by_cases h2 : a = b <;> simp [h1, h2]
theorem keyOf_some {d : D} {k : Key} (h : keyOf d = some k) : d = keyD k := by
  cases d <;> simp [keyOf] at h <;> subst h <;> rfl
theorem keysOf_some : ∀ {ds : List D} {ks : List Key}, keysOf ds = some ks → ds = ks.map keyD
  | [], ks, h => by simp [keysOf] at h; subst h; rfl
  | d :: ds, ks, h => by
    simp only [keysOf, Option.bind_eq_some_iff, Option.map_eq_some_iff] at h
    obtain ⟨k, h1, ks', h2, rfl⟩ := h
    rw [keyOf_some h1, keysOf_some h2]; rfl
section
variable {K : PySem.W.Frag} {av : Addr → Prop} {μ : List Addr} {H : Hp}
theorem rv_key {k : Key} {v : V} (h : RV K av μ H (keyD k) v) : v = kV k := by
  cases k with
  | inl i => exact rv_int.mp h
  | inr s => exact rv_str.mp h
theorem rvl_keys : ∀ {ks : List Key} {vs : List V}, RVL K av μ H (ks.map keyD) vs → vs = ks.map kV
  | [], vs, h => by simpa [rvl_nil] using h
  | k :: ks, vs, h => by
    simp only [List.map_cons, rvl_cons] at h
    obtain ⟨y, ys, rfl, h1, h2⟩ := h
    rw [rv_key h1, rvl_keys h2]; rfl
theorem look_k {κ : Type} [DecidableEq κ] (f : κ → D) (hf : ∀ a b, eqD (f a) (f b) = decide (a = b)) (k : κ) : ∀ {kvs : List (κ × V)} {vs : List D}, RVL K av μ H vs (kvs.map (·.2)) →
    match lookD (kvs.map fun p => f p.1) vs (f k) with
    | some d => ∃ v, valV kvs k = some v ∧ RV K av μ H d v
    | none => valV kvs k = none
  | [], vs, h => by
    have : lookD [] vs (f k) = none := by cases vs <;> rfl
    simp only [List.map_nil, this]
    rfl
  | p :: kvs, vs, h => by
    cases vs with
    | nil => rw [rvl_nil] at h; cases h
    | cons d vs =>
      rw [List.map_cons, rvl_cons] at h
      obtain ⟨y, ys, e, h1, h2⟩ := h
      cases e
      simp only [List.map_cons, lookD, hf]
      by_cases e : p.1 = k
      · rw [decide_eq_true e, if_pos rfl]
        exact ⟨_, valV_pos e, h1⟩
      · rw [decide_eq_false e, if_neg (by decide), valV_neg e]
        exact look_k f hf k h2
theorem has_k {κ : Type} [DecidableEq κ] (f : κ → D) (hf : ∀ a b, eqD (f a) (f b) = decide (a = b)) (k : κ) (kvs : List (κ × V)) : hasD (kvs.map fun p => f p.1) (f k) = (valV kvs k).isSome := by
  rw [← valV_any]
  unfold hasD
  rw [List.any_map]
  congr 1
  funext p
  exact hf p.1 k
theorem put_k {κ : Type} [DecidableEq κ] (f : κ → D) (hf : ∀ a b, eqD (f a) (f b) = decide (a = b)) (k : κ) {d : D} {v : V} (r : RV K av μ H d v) : ∀ {kvs : List (κ × V)} {vs : List D}, RVL K av μ H vs (kvs.map (·.2)) →
    RVL K av μ H (putV (kvs.map fun p => f p.1) vs (f k) d) ((kvs.map fun kv => if kv.1 = k then (kv.1, v) else kv).map (·.2)) ∧ (kvs.map fun kv => if kv.1 = k then (kv.1, v) else kv).map (fun p => f p.1) = kvs.map fun p => f p.1
  | [], vs, h => by
    have : putV [] vs (f k) d = [] := by cases vs <;> rfl
    simp only [List.map_nil, this]
    exact ⟨RVL.nil', trivial⟩
  | p :: kvs, vs, h => by
    cases vs with
    | nil => rw [rvl_nil] at h; cases h
    | cons w vs =>
      rw [List.map_cons, rvl_cons] at h
      obtain ⟨y, ys, e, h1, h2⟩ := h
      cases e
      obtain ⟨i1, i2⟩ := put_k f hf k r h2
      simp only [List.map_cons, putV, hf]
      by_cases e : p.1 = k
      · rw [decide_eq_true e, if_pos rfl, if_pos e]
        exact ⟨RVL.cons' r i1, by rw [i2]⟩
      · rw [decide_eq_false e, if_neg (by decide), if_neg e]
        exact ⟨RVL.cons' h1 i1, by rw [i2]⟩
end
theorem tupD_inj {a b : List Key} : eqD (.tup (a.map keyD)) (.tup (b.map keyD)) = decide (a = b) := by
  show eqDs _ _ = _
  exact keyDs_inj
/-- the object behind -/
theorem dic_of {K : PySem.W.Frag} {Z : Fr} {μ : List Addr} {H : Hp} {S : Sto} {d : D} {t : Bool} {ks vs : List D} {v : V} (W : Wd K Z μ H S) (r : RVz K Z μ H d v) (h : dicD S d = some (t, ks, vs)) :
    ∃ a, v = .ref a ∧ ((t = false ∧ ∃ kvs, H a = some (.dK kvs) ∧ ks = dicKs kvs ∧ RVLz K Z μ H vs (kvs.map (·.2))) ∨ (t = true ∧ ∃ kvs, H a = some (.dT kvs) ∧ ks = dicKsT kvs ∧ RVLz K Z μ H vs (kvs.map (·.2)))) := by
  cases d with
  | dic t' ks' vs' =>
    simp only [dicD, Option.some.injEq, Prod.mk.injEq] at h
    obtain ⟨rfl, rfl, rfl⟩ := h
    obtain ⟨a, e, _, h⟩ := rv_dic.mp r
    exact ⟨a, e, h⟩
  | ref n =>
    simp only [dicD] at h
    split at h
    · rename_i t' ks' vs' hc
      simp only [Option.some.injEq, Prod.mk.injEq] at h
      obtain ⟨rfl, rfl, rfl⟩ := h
      obtain ⟨a, e, hn⟩ := rv_ref.mp r
      exact ⟨a, e, W.cell n _ a hc hn⟩
    · cases h
  | _ => simp [dicD] at h
/-- what the dict holds at the key -/
theorem dget_of {K : PySem.W.Frag} {Z : Fr} {μ : List Addr} {H : Hp} {S : Sto} {d x : D} {t : Bool} {ks vs : List D} {v u : V} (W : Wd K Z μ H S) (r : RVz K Z μ H d v) (rx : RVz K Z μ H x u) (h : dicD S d = some (t, ks, vs)) (hk : keyT t x = true) :
    ∃ a o, v = .ref a ∧ DGet H a u o ∧ o.isSome = hasD ks x ∧ ∀ y, lookD ks vs x = some y → ∃ w, o = some w ∧ RVz K Z μ H y w := by
  obtain ⟨a, e, h⟩ := dic_of W r h
  rcases h with ⟨rfl, kvs, h1, rfl, h2⟩ | ⟨rfl, kvs, h1, rfl, h2⟩
  · have hk' : (keyOf x).isSome = true := hk
    obtain ⟨k, ek⟩ := Option.isSome_iff_exists.mp hk'
    have ex := keyOf_some ek
    subst ex
    rw [rv_key rx]
    refine ⟨a, _, e, DGet.k h1, (has_k keyD (fun _ _ => keyD_inj) k kvs).symm, fun y hy => ?_⟩
    have q := look_k (K := K) (av := avd Z μ) (μ := μ) (H := H) keyD (fun _ _ => keyD_inj) k h2
    have hy' : lookD (kvs.map fun p => keyD p.1) vs (keyD k) = some y := hy
    rw [hy'] at q
    exact q
  · cases x with
    | tup ds =>
      have hk' : (keysOf ds).isSome = true := hk
      obtain ⟨k, ek⟩ := Option.isSome_iff_exists.mp hk'
      have ex := keysOf_some ek
      subst ex
      obtain ⟨b, xs, rfl, hb, hr⟩ := rv_tup.mp rx
      rw [rvl_keys hr] at hb
      refine ⟨a, _, e, DGet.t h1 hb, (has_k (fun k : List Key => D.tup (k.map keyD)) (fun _ _ => tupD_inj) k kvs).symm, fun y hy => ?_⟩
      have q := look_k (K := K) (av := avd Z μ) (μ := μ) (H := H) (fun k : List Key => D.tup (k.map keyD)) (fun _ _ => tupD_inj) k h2
      have hy' : lookD (kvs.map fun p => D.tup (p.1.map keyD)) vs (.tup (k.map keyD)) = some y := hy
      rw [hy'] at q
      exact q
    | _ => simp [keyT] at hk
end DL

set_option maxHeartbeats 4000000
namespace DL
open PySem PySem.Spec L2

/-! ### dicts: words of the text -/
def gDGet : Sto → D → D → Option D := fun S d x => (dicD S d).bind fun p => if keyT p.1 x then lookD p.2.1 p.2.2 x else none
def gDIn (neg : Bool) : Sto → D → D → Option D := fun S x d => (dicD S d).bind fun p => if keyT p.1 x then some (.bl (if neg then !hasD p.2.1 x else hasD p.2.1 x)) else none
section
variable {X : Cx} {o i e : Expr} {pos pos' : Pos} {fo fi fa : E}
theorem d_dget (hu : X.A.units + 1 < cLine) (ho : PE X o (tD X.K fo)) (hi : PE X i (tD X.K fi)) (hs : NoSl i := by intro _ _; rfl) : PE X (.Subscript o i pos) (tD X.K (e2 gDGet fo fi)) :=
  pe_imp (pe_dget hu ho hi hs) fun σ H Q ⟨Z, μ, ρ, S, R, d, e, q⟩ => by
    simp only [e2, gDGet, Option.bind_eq_some_iff] at e
    obtain ⟨x, ex, y, ey, ⟨t, ks, vs⟩, ed, e⟩ := e
    split at e
    case isFalse => cases e
    rename_i hk
    refine ⟨Z, μ, ρ, S, R, x, ex, fun v H1 s1 r1 => ⟨Z, μ, ρ, S, R.mono s1, y, ey, fun u H2 s2 r2 => ?_⟩⟩
    obtain ⟨a, ov, rfl, g, _, h⟩ := dget_of ((R.wd.mono s1).mono s2) (RV.mono s2 r1) r2 ed hk
    obtain ⟨w, rfl, rw'⟩ := h d e
    exact ⟨a, w, rfl, g, q w H2 (s1.trans s2) rw'⟩
theorem tDIn_of {K : PySem.W.Frag} {σ : L2.St} {H : Hp} {Q : VK} (h : tD K (e2 (gDIn false) fi fo) σ H Q) : tDIn (tD K fi) (tD K fo) σ H Q := by
  obtain ⟨Z, μ, ρ, S, R, d, e, q⟩ := h
  simp only [e2, gDIn, Option.bind_eq_some_iff] at e
  obtain ⟨x, ex, y, ey, ⟨t, ks, vs⟩, ed, e⟩ := e
  split at e
  case isFalse => cases e
  rename_i hk
  cases e
  refine ⟨Z, μ, ρ, S, R, x, ex, fun v H1 s1 r1 => ⟨Z, μ, ρ, S, R.mono s1, y, ey, fun u H2 s2 r2 => ?_⟩⟩
  obtain ⟨a, ov, rfl, g, hs, _⟩ := dget_of ((R.wd.mono s1).mono s2) r2 (RV.mono s2 r1) ed hk
  exact ⟨a, ov, rfl, g, q _ H2 (s1.trans s2) (rv_bl.mpr (by rw [hs]; rfl))⟩
theorem tDNotIn_of {K : PySem.W.Frag} {σ : L2.St} {H : Hp} {Q : VK} (h : tD K (e2 (gDIn true) fi fo) σ H Q) : tDNotIn (tD K fi) (tD K fo) σ H Q := by
  obtain ⟨Z, μ, ρ, S, R, d, e, q⟩ := h
  simp only [e2, gDIn, Option.bind_eq_some_iff] at e
  obtain ⟨x, ex, y, ey, ⟨t, ks, vs⟩, ed, e⟩ := e
  split at e
  case isFalse => cases e
  rename_i hk
  cases e
  refine ⟨Z, μ, ρ, S, R, x, ex, fun v H1 s1 r1 => ⟨Z, μ, ρ, S, R.mono s1, y, ey, fun u H2 s2 r2 => ?_⟩⟩
  obtain ⟨a, ov, rfl, g, hs, _⟩ := dget_of ((R.wd.mono s1).mono s2) r2 (RV.mono s2 r1) ed hk
  exact ⟨a, ov, rfl, g, q _ H2 (s1.trans s2) (rv_bl.mpr (by rw [hs]; rfl))⟩
theorem d_din (hu : X.A.units + 1 < cLine) (hi : PE X i (tD X.K fi)) (ho : PE X o (tD X.K fo)) (hm : behindInMarks .In o = false := by rfl) : PE X (.Compare i [.In] [o] pos) (tD X.K (e2 (gDIn false) fi fo)) :=
  pe_imp (pe_cmp (pc_din hu hi ho) hm) fun _ _ _ h => tDIn_of h
theorem d_dnotin (hu : X.A.units + 1 < cLine) (hi : PE X i (tD X.K fi)) (ho : PE X o (tD X.K fo)) (hm : behindInMarks .NotIn o = false := by rfl) : PE X (.Compare i [.NotIn] [o] pos) (tD X.K (e2 (gDIn true) fi fo)) :=
  pe_imp (pe_cmp (pc_dnotin hu hi ho) hm) fun _ _ _ h => tDNotIn_of h
theorem tBB_of {K : PySem.W.Frag} {f : E} {t : TE} (i : ∀ σ H Q, tD K f σ H Q → t σ H Q) {σ : L2.St} {H : Hp} {Q : Bool → Hp → Prop} (h : tT K (eB f) σ H Q) : tB t σ H Q := by
  obtain ⟨Z, μ, ρ, S, R, k, e, q⟩ := h
  simp only [eB, Option.bind_eq_some_iff] at e
  obtain ⟨d, e1, e2⟩ := e
  refine i _ _ _ ⟨Z, μ, ρ, S, R, d, e1, fun v H' s r => ?_⟩
  cases d <;> simp at e2
  subst e2
  exact ⟨_, rv_bl.mp r, q H' s⟩
theorem dt_din (hu : X.A.units + 1 < cLine) (hi : PE X i (tD X.K fi)) (ho : PE X o (tD X.K fo)) (hm : behindInMarks .In o = false := by rfl) : PT X (.Compare i [.In] [o] pos) (tT X.K (eB (e2 (gDIn false) fi fo))) :=
  pt_imp (pt_cmp (pc_din hu hi ho) hm) fun _ _ _ h => tBB_of (fun _ _ _ h => tDIn_of h) h
theorem dt_dnotin (hu : X.A.units + 1 < cLine) (hi : PE X i (tD X.K fi)) (ho : PE X o (tD X.K fo)) (hm : behindInMarks .NotIn o = false := by rfl) : PT X (.Compare i [.NotIn] [o] pos) (tT X.K (eB (e2 (gDIn true) fi fo))) :=
  pt_imp (pt_cmp (pc_dnotin hu hi ho) hm) fun _ _ _ h => tBB_of (fun _ _ _ h => tDNotIn_of h) h
/-- the cell of a dict -/
def dcell (S : Sto) : D → Option (Nat × Bool × List D × List D)
  | .ref n => match S[n]? with
    | some (.dic t ks vs) => some (n, t, ks, vs)
    | _ => none
  | _ => none
/-- d[x] = v -/
def sDPutD (f fo fi : E) : T := fun ρ S => (f ρ S).bind fun v => (fo ρ S).bind fun o => (fi ρ S).bind fun x => (dcell S o).bind fun c =>
  if keyT c.2.1 x && small c.2.2.1.length then some (.nx, ρ, S.set c.1 (if hasD c.2.2.1 x then .dic c.2.1 c.2.2.1 (putV c.2.2.1 c.2.2.2 x v) else .dic c.2.1 (c.2.2.1 ++ [x]) (c.2.2.2 ++ [v]))) else none
theorem ds_dput (hu : X.A.units + 1 < cLine) (hv : PE X e (tD X.K fa)) (ho : PE X o (tD X.K fo)) (hi : PE X i (tD X.K fi)) (hs : swapsWith e (some (.Subscript o i pos')) pos.line X.env = pure false := by rfl) : PS X (.Assign [.Subscript o i pos'] e pos) (tS X.K (sDPutD fa fo fi)) :=
  ps_imp (ps_dput hu ho hi hv hs) fun De σ H ⟨Z, μ, ρ, S, R, fl, ρ', S', e, q⟩ => by
    simp only [sDPutD, Option.bind_eq_some_iff] at e
    obtain ⟨d, e0, od, e1, x, e2, ⟨n, t, ks, vs⟩, e3, e4⟩ := e
    split at e4
    case isFalse => cases e4
    rename_i hk
    simp only [Bool.and_eq_true] at hk
    obtain ⟨hk, hsm⟩ := hk
    simp only [Option.some.injEq, Prod.mk.injEq] at e4
    obtain ⟨rfl, rfl, rfl⟩ := e4
    refine ⟨Z, μ, ρ, S, R, d, e0, fun v H1 s1 r1 => ⟨Z, μ, ρ, S, R.mono s1, od, e1, fun u H2 s2 r2 => ⟨Z, μ, ρ, S, (R.mono s1).mono s2, x, e2, fun w H3 s3 r3 => ?_⟩⟩⟩
    have R3 := ((R.mono s1).mono s2).mono s3
    have rd : RVz X.K Z μ H3 d v := RV.mono (s2.trans s3) r1
    have ro : RVz X.K Z μ H3 od u := RV.mono s3 r2
    cases od with
    | ref m =>
      simp only [dcell] at e3
      split at e3
      case h_2 => cases e3
      rename_i t' ks' vs' hc
      simp only [Option.some.injEq, Prod.mk.injEq] at e3
      obtain ⟨rfl, rfl, rfl, rfl⟩ := e3
      obtain ⟨a, rfl, hn⟩ := rv_ref.mp ro
      have hm : a ∈ μ := List.mem_of_getElem? hn
      have small_of : ∀ {κ : Type} {kvs : List (κ × V)} {f : κ → D}, small (kvs.map fun p => f p.1).length = true → kvs.length < sizeLine := fun {κ kvs f} h => by
        rw [List.length_map] at h
        exact small_lt h
      rcases R3.wd.cell m _ a hc hn with ⟨rfl, kvs, h1, rfl, h2⟩ | ⟨rfl, kvs, h1, rfl, h2⟩
      · have hk' : (keyOf x).isSome = true := hk
        obtain ⟨k, ek⟩ := Option.isSome_iff_exists.mp hk'
        have ex := keyOf_some ek
        subst ex
        rw [rv_key r3]
        refine ⟨a, _, rfl, DPut.k h1 (small_of (f := keyD) hsm), q _ _ μ ?_⟩
        have hh : hasD (dicKs kvs) (keyD k) = (kvs.any fun kv => decide (kv.1 = k)) := by
          rw [valV_any]
          exact has_k keyD (fun _ _ => keyD_inj) k kvs
        refine R3.wr hn (c := _) ?_
        rw [hh]
        by_cases ha : (kvs.any fun kv => decide (kv.1 = k)) = true
        · obtain ⟨p1, p2⟩ := put_k keyD (fun _ _ => keyD_inj) k rd h2
          have ep : putK kvs k v = kvs.map (fun kv => if kv.1 = k then (kv.1, v) else kv) := if_pos ha
          rw [if_pos ha, ep]
          exact .inl ⟨rfl, _, upd_same, by unfold dicKs; rw [p2], RVL.wr R3.wd hm p1⟩
        · have ep : putK kvs k v = kvs ++ [(k, v)] := if_neg ha
          rw [if_neg ha, ep]
          refine .inl ⟨rfl, _, upd_same, by simp [dicKs], RVL.wr R3.wd hm ?_⟩
          rw [List.map_append]
          exact RVL.app h2 (RVL.one rd)
      · cases x with
        | tup ds =>
          have hk' : (keysOf ds).isSome = true := hk
          obtain ⟨k, ek⟩ := Option.isSome_iff_exists.mp hk'
          have ex := keysOf_some ek
          subst ex
          obtain ⟨b, xs, rfl, hb, hr⟩ := rv_tup.mp r3
          rw [rvl_keys hr] at hb
          refine ⟨a, _, rfl, DPut.t h1 hb (small_of (f := fun k : List Key => D.tup (k.map keyD)) hsm), q _ _ μ ?_⟩
          have hh : hasD (dicKsT kvs) (.tup (k.map keyD)) = (kvs.any fun kv => decide (kv.1 = k)) := by
            rw [valV_any]
            exact has_k (fun k : List Key => D.tup (k.map keyD)) (fun _ _ => tupD_inj) k kvs
          refine R3.wr hn (c := _) ?_
          rw [hh]
          by_cases ha : (kvs.any fun kv => decide (kv.1 = k)) = true
          · obtain ⟨p1, p2⟩ := put_k (fun k : List Key => D.tup (k.map keyD)) (fun _ _ => tupD_inj) k rd h2
            have ep : putK kvs k v = kvs.map (fun kv => if kv.1 = k then (kv.1, v) else kv) := if_pos ha
            rw [if_pos ha, ep]
            exact .inr ⟨rfl, _, upd_same, by unfold dicKsT; rw [p2], RVL.wr R3.wd hm p1⟩
          · have ep : putK kvs k v = kvs ++ [(k, v)] := if_neg ha
            rw [if_neg ha, ep]
            refine .inr ⟨rfl, _, upd_same, by simp [dicKsT], RVL.wr R3.wd hm ?_⟩
            rw [List.map_append]
            exact RVL.app h2 (RVL.one rd)
        | _ => simp [keyT] at hk
    | _ => simp [dcell] at e3
end
end DL
namespace DL
open PySem PySem.Spec L2
/-! ### new dicts -/
def sNewD (t : Bool) (i : Nat) : T := fun ρ S => some (.nx, ρ.set i (some (.ref S.length)), S ++ [.dic t [] []])
/-- x = {k: v} -/
def sNewD1 (i : Nat) (fk fv : E) : T := fun ρ S => (fk ρ S).bind fun k => (fv ρ S).bind fun v => if keyT false k then some (.nx, ρ.set i (some (.ref S.length)), S ++ [.dic false [k] [v]]) else none
section
variable {X : Cx} {e k w : Expr} {pos pos' dpos : Pos} {fk fv : E} {i : Nat} {x : Str}
theorem Rel.newC {K : PySem.W.Frag} {Z : Fr} {μ : List Addr} {H H' : Hp} {S : Sto} {σ : L2.St} {ρ : Rho} {a : Addr} {c : Cell} {i : Nat} (R : Rel K Z μ σ H ρ S) (s : Same H H') (n : H a = none) (r : RC K Z (μ ++ [a]) H' a c) :
    Rel K Z (μ ++ [a]) (σ.set i (some (.ref a))) H' (ρ.set i (some (.ref S.length))) (S ++ [c]) := by
  refine (R.alloc s n r).set (rv_ref.mpr ⟨a, rfl, ?_⟩)
  rw [R.wd.len, List.getElem?_append_right (Nat.le_refl _)]
  simp
theorem ds_newD {t : Bool} (hN : X.N.Nodup) (hi : X.N[i]? = some x) (hx : Loc X.env.scope x) (hs : swapsWith (.Dict [] [] dpos) (some (.Name x pos')) pos.line X.env = pure false := by rfl) (hf : X.fn x = true ∨ X.env.scope.names.lookup x = some .local := by first | exact .inl rfl | exact .inr rfl | assumption) :
    PS X (.Assign [.Name x pos'] (.Dict [] [] dpos) pos) (tS X.K (sNewD t i)) := by
  cases t with
  | false =>
    refine ps_imp (ps_set hN hi hx pe_dnewK hs hf) fun De σ H ⟨Z, μ, ρ, S, R, fl, ρ', S', e, q⟩ => ?_
    simp only [sNewD, Option.some.injEq, Prod.mk.injEq] at e
    obtain ⟨rfl, rfl, rfl⟩ := e
    intro p hp
    have s : Same H (upd H p (.dK [])) := fun c o z => by rw [upd_ne (ne_of_none z hp)]; exact z
    exact q _ _ (μ ++ [p]) (R.newC s hp (.inl ⟨rfl, [], upd_same, rfl, RVL.nil'⟩))
  | true =>
    refine ps_imp (ps_set hN hi hx pe_dnewT hs hf) fun De σ H ⟨Z, μ, ρ, S, R, fl, ρ', S', e, q⟩ => ?_
    simp only [sNewD, Option.some.injEq, Prod.mk.injEq] at e
    obtain ⟨rfl, rfl, rfl⟩ := e
    intro p hp
    have s : Same H (upd H p (.dT [])) := fun c o z => by rw [upd_ne (ne_of_none z hp)]; exact z
    exact q _ _ (μ ++ [p]) (R.newC s hp (.inr ⟨rfl, [], upd_same, rfl, RVL.nil'⟩))
theorem ds_newD1 (hN : X.N.Nodup) (hi : X.N[i]? = some x) (hx : Loc X.env.scope x) (hk : PE X k (tD X.K fk)) (hw : PE X w (tD X.K fv)) (hs : swapsWith (.Dict [some k] [w] dpos) (some (.Name x pos')) pos.line X.env = pure false := by rfl)
    (hf : X.fn x = true ∨ X.env.scope.names.lookup x = some .local := by first | exact .inl rfl | exact .inr rfl | assumption) :
    PS X (.Assign [.Name x pos'] (.Dict [some k] [w] dpos) pos) (tS X.K (sNewD1 i fk fv)) := by
  refine ps_imp (ps_set hN hi hx (pe_disp (pps_cons hk hw pps_nil) rfl rfl (by simp) (by simp)) hs hf) fun De σ H ⟨Z, μ, ρ, S, R, fl, ρ', S', e, q⟩ => ?_
  simp only [sNewD1, Option.bind_eq_some_iff] at e
  obtain ⟨dk, e1, dv, e2, e3⟩ := e
  split at e3
  case isFalse => cases e3
  rename_i hkk
  simp only [Option.some.injEq, Prod.mk.injEq] at e3
  obtain ⟨rfl, rfl, rfl⟩ := e3
  intro p hp
  have s : Same H (upd H p (.dK [])) := fun c o z => by rw [upd_ne (ne_of_none z hp)]; exact z
  have R1 := R.plus s hp (by rw [upd_same]; exact fun z => by cases z)
  refine ⟨Z.plus p, μ, ρ, S, R1, dk, e1, fun u H1 s1 r1 => ⟨Z.plus p, μ, ρ, S, R1.mono s1, dv, e2, fun v H2 s2 r2 => ?_⟩⟩
  have hp2 : H2 p = some (.dK []) := s2 _ _ (s1 _ _ upd_same)
  have hk' : (keyOf dk).isSome = true := hkk
  obtain ⟨key, ek⟩ := Option.isSome_iff_exists.mp hk'
  have ex := keyOf_some ek
  subst ex
  refine ⟨hp2, [(key, v)], by rw [rv_key r1]; rfl, by simp, ?_⟩
  have em : mergeK [] [(key, v)] = [(key, v)] := rfl
  rw [em]
  have s3 : Same H (upd H2 p (.dK [(key, v)])) := fun c o z => by
    rw [upd_ne (ne_of_none z hp)]
    exact s2 _ _ (s1 _ _ (s _ _ z))
  refine q _ _ (μ ++ [p]) (R.newC s3 hp (.inl ⟨rfl, [(key, v)], upd_same, rfl, RVL.one ?_⟩))
  refine RV.tr (av := avd (Z.plus p) μ) (μ := μ) (H := H2) (fun a o e hn => ?_) (fun n a e => by rw [List.getElem?_append_left (List.getElem?_eq_some_iff.mp e).1]; exact e) _ _ r2
  have ne : a ≠ p := by
    rintro rfl
    rw [hp2] at e
    cases e
    exact hn rfl (.inl (.inr rfl))
  refine ⟨by rw [upd_ne ne]; exact e, fun m z => hn m ?_⟩
  rcases z with z | z
  · exact .inl (.inl z)
  · rcases List.mem_append.mp z with z | z
    · exact .inr z
    · exact absurd (List.mem_singleton.mp z) ne
end
end DL
namespace DL
open PySem PySem.Spec L2
/-! ### len of a dict -/
theorem call_lenK {X : Cx} : CallR X (.builtin "len") (fun xs H Q => ∃ a kvs, xs = [.ref a] ∧ H a = some (.dK kvs) ∧ Q (.int (kvs.length : Nat)) H) := by
  intro pins s σ H xs us Q I r h
  obtain ⟨a, kvs, rfl, e, q⟩ := h
  rw [Vals.ref1 r]
  exact d_len I (.inl e) fun t s' I' => ⟨.int _, H, I', ⟨_, rfl⟩, q⟩
def cLenK : Sto → List D → Option D := fun S ds => match ds with
  | [x] => (dicD S x).bind fun p => if p.1 then none else some (.int p.2.1.length)
  | _ => none
theorem cd_lenK {K : PySem.W.Frag} : CallD K (fun xs H Q => ∃ a kvs, xs = [.ref a] ∧ H a = some (.dK kvs) ∧ Q (.int (kvs.length : Nat)) H) cLenK := by
  intro Z μ H S ds d vs Q W r e q
  unfold cLenK at e
  split at e
  · simp only [Option.bind_eq_some_iff] at e
    obtain ⟨⟨t, ks, ws⟩, e1, e2⟩ := e
    split at e2
    case isTrue => cases e2
    rename_i ht
    cases e2
    obtain ⟨v, rfl, rx⟩ := rvl1 r
    obtain ⟨a, rfl, h⟩ := dic_of W rx e1
    rcases h with ⟨rfl, kvs, h1, rfl, h2⟩ | ⟨rfl, _⟩
    · refine ⟨a, kvs, rfl, h1, ?_⟩
      have : (dicKs kvs).length = kvs.length := by simp [dicKs]
      have q' := q (.int ((dicKs kvs).length : Nat)) H (Same.refl H) (rv_int.mpr rfl)
      rwa [this] at q'
    · exact absurd rfl ht
  · cases e
end DL
namespace DL
open PySem PySem.Spec L2
theorem hu1 {k : Nat} {A : Around} (h : Room k A) : A.units + 1 < cLine := by have := h.un; omega
end DL

set_option maxHeartbeats 4000000
namespace DL
open PySem PySem.Spec L2

/-! ### objects: what a name of a class tells -/
def FldF (K : PySem.W.Frag) (c f : Str) : Prop := ∀ C, ClsAt K c C → Cls K C ∧ NoAttr K C f
/-- what stands at a name of a field -/
def lookF : List Str → List D → Str → Option D
  | g :: fs, d :: vs, f => if f = g then some d else lookF fs vs f
  | _, _, _ => none
def objD (S : Sto) : D → Option (Str × List Str × List D)
  | .ins c fs vs => some (c, fs, vs)
  | .ref n => match S[n]? with
    | some (.ins c fs vs) => some (c, fs, vs)
    | _ => none
  | _ => none
def gAttr (c f : Str) : Sto → D → Option D := fun S d => (objD S d).bind fun o => if o.1 = c then lookF o.2.1 o.2.2 f else none
section
variable {K : PySem.W.Frag} {Z : Fr} {μ : List Addr} {H : Hp} {S : Sto}
theorem obj_of {d : D} {v : V} {c : Str} {fs : List Str} {vs : List D} (W : Wd K Z μ H S) (r : RVz K Z μ H d v) (h : objD S d = some (c, fs, vs)) :
    ∃ a C dx fvs, v = .ref a ∧ H a = some (.ins C dx fvs) ∧ ClsAt K c C ∧ fvs.map (·.1) = fs ∧ RVLz K Z μ H vs (fvs.map (·.2)) := by
  cases d with
  | ins c' fs' vs' =>
    simp only [objD, Option.some.injEq, Prod.mk.injEq] at h
    obtain ⟨rfl, rfl, rfl⟩ := h
    obtain ⟨a, C, dx, fvs, e, _, h1, h2, h3, h4⟩ := rv_ins.mp r
    exact ⟨a, C, dx, fvs, e, h1, h2, h3, h4⟩
  | ref n =>
    simp only [objD] at h
    split at h
    · rename_i c' fs' vs' hc
      simp only [Option.some.injEq, Prod.mk.injEq] at h
      obtain ⟨rfl, rfl, rfl⟩ := h
      obtain ⟨a, e, hn⟩ := rv_ref.mp r
      obtain ⟨C, dx, fvs, h1, h2, h3, h4⟩ := W.cell n _ a hc hn
      exact ⟨a, C, dx, fvs, e, h1, h2, h3, h4⟩
    · cases h
  | _ => simp [objD] at h
theorem lookF_of {av : Addr → Prop} {f : Str} {d : D} : ∀ {fvs : List (Str × V)} {vs : List D}, RVL K av μ H vs (fvs.map (·.2)) → lookF (fvs.map (·.1)) vs f = some d → ∃ v, fvs.lookup f = some v ∧ RV K av μ H d v
  | [], vs, _, h => by cases vs <;> simp [lookF] at h
  | p :: fvs, vs, r, h => by
    cases vs with
    | nil => simp [lookF] at h
    | cons e vs =>
      rw [List.map_cons, rvl_cons] at r
      obtain ⟨y, ys, e1, h1, h2⟩ := r
      cases e1
      simp only [List.map_cons, lookF] at h
      rw [List.lookup_cons]
      by_cases q : f = p.1
      · rw [if_pos q] at h
        cases h
        have : (f == p.1) = true := by simpa using q
        rw [this]
        exact ⟨_, rfl, h1⟩
      · rw [if_neg q] at h
        have : (f == p.1) = false := by simpa using q
        rw [this]
        exact lookF_of h2 h
end
section
variable {X : Cx} {o e value : Expr} {c f : Str} {pos pos' : Pos} {fe fo fv : E}
theorem d_attr (hf : FldF X.K c f) (he : PE X e (tD X.K fe)) (hb : attributeBase e f X.env (eval e X.env) = eval e X.env := by rfl) : PE X (.Attribute e f pos) (tD X.K (e1 (gAttr c f) fe)) :=
  pe_imp (pe_fld he hb) fun σ H Q ⟨Z, μ, ρ, S, R, d, e, q⟩ => by
    simp only [e1, Option.bind_eq_some_iff] at e
    obtain ⟨x, e1, e2⟩ := e
    simp only [gAttr, Option.bind_eq_some_iff] at e2
    obtain ⟨⟨c', fs, vs⟩, e3, e4⟩ := e2
    split at e4
    · rename_i hc
      subst hc
      refine ⟨Z, μ, ρ, S, R, x, e1, fun v H' s r => ?_⟩
      obtain ⟨a, C, dx, fvs, e5, h1, h2, h3, h4⟩ := obj_of (R.wd.mono s) r e3
      obtain ⟨k1, k2⟩ := hf C h2
      subst h3
      obtain ⟨w, l1, l2⟩ := lookF_of h4 e4
      exact ⟨a, C, dx, fvs, w, e5, h1, k1, k2, l1, q _ _ s l2⟩
    · cases e4
end
/-! a field is written -/
def putFs : List Str → Str → List Str
  | [], f => [f]
  | g :: fs, f => if g = f then g :: fs else g :: putFs fs f
def putVs : List Str → List D → Str → D → List D
  | g :: fs, w :: vs, f, d => if g = f then d :: vs else w :: putVs fs vs f d
  | _, _, _, d => [d]
section
variable {K : PySem.W.Frag} {av : Addr → Prop} {μ : List Addr} {H : Hp}
theorem putF_of {f : Str} {d : D} {v : V} (rv : RV K av μ H d v) : ∀ {fvs : List (Str × V)} {vs : List D}, RVL K av μ H vs (fvs.map (·.2)) →
    (putF f v fvs).map (·.1) = putFs (fvs.map (·.1)) f ∧ RVL K av μ H (putVs (fvs.map (·.1)) vs f d) ((putF f v fvs).map (·.2))
  | [], vs, r => by
    have e : putVs (([] : List (Str × V)).map (·.1)) vs f d = [d] := by cases vs <;> rfl
    rw [e]
    exact ⟨rfl, RVL.one rv⟩
  | (g, x) :: fvs, vs, r => by
    cases vs with
    | nil => rw [rvl_nil] at r; cases r
    | cons w vs =>
      rw [List.map_cons, rvl_cons] at r
      obtain ⟨y, ys, e1, h1, h2⟩ := r
      cases e1
      obtain ⟨i1, i2⟩ := putF_of rv h2
      simp only [putF, List.map_cons, putFs, putVs]
      by_cases q : g = f
      · rw [if_pos q, if_pos q, if_pos q]
        exact ⟨rfl, RVL.cons' rv h2⟩
      · rw [if_neg q, if_neg q, if_neg q]
        exact ⟨by rw [List.map_cons, i1], RVL.cons' h1 i2⟩
end
def ocell (S : Sto) : D → Option (Nat × Str × List Str × List D)
  | .ref n => match S[n]? with
    | some (.ins c fs vs) => some (n, c, fs, vs)
    | _ => none
  | _ => none
theorem ocell_of {K : PySem.W.Frag} {Z : Fr} {μ : List Addr} {H : Hp} {S : Sto} {d : D} {n : Nat} {c : Str} {fs : List Str} {vs : List D} {v : V} (W : Wd K Z μ H S) (r : RVz K Z μ H d v) (h : ocell S d = some (n, c, fs, vs)) :
    ∃ a C dx fvs, v = .ref a ∧ μ[n]? = some a ∧ H a = some (.ins C dx fvs) ∧ ClsAt K c C ∧ fvs.map (·.1) = fs ∧ RVLz K Z μ H vs (fvs.map (·.2)) ∧ S[n]? = some (.ins c fs vs) := by
  cases d with
  | ref m =>
    simp only [ocell] at h
    split at h
    · rename_i c' fs' vs' hc
      simp only [Option.some.injEq, Prod.mk.injEq] at h
      obtain ⟨rfl, rfl, rfl, rfl⟩ := h
      obtain ⟨a, e, hn⟩ := rv_ref.mp r
      obtain ⟨C, dx, fvs, h1, h2, h3, h4⟩ := W.cell m _ a hc hn
      exact ⟨a, C, dx, fvs, e, hn, h1, h2, h3, h4, hc⟩
    · cases h
  | _ => simp [ocell] at h
def putO (c f : Str) (d : D) (p : Nat × Str × List Str × List D) : Option Cell := if p.2.1 = c ∧ p.2.2.1.length < 1000 then some (.ins p.2.1 (putFs p.2.2.1 f) (putVs p.2.2.1 p.2.2.2 f d)) else none
/-- o.f = e -/
def sAttr (c f : Str) (fv fo : E) : T := fun ρ S => (fv ρ S).bind fun d => (fo ρ S).bind fun o => (ocell S o).bind fun p => (putO c f d p).map fun w => (.nx, ρ, S.set p.1 w)
/-! new cells: the first one is what the expression tells -/
abbrev EC := Rho → Sto → Option (List Cell)
def tN (K : PySem.W.Frag) (f : EC) : TE := fun σ H Q => ∃ Z μ ρ S, Rel K Z μ σ H ρ S ∧ ∃ cs, f ρ S = some cs ∧
  ∀ a as H', (a :: as).length = cs.length → (a :: as).Nodup → (∀ b ∈ a :: as, H b = none) → Same H H' → (∀ (i : Nat) b c, (a :: as)[i]? = some b → cs[i]? = some c → RC K Z (μ ++ a :: as) H' b c) → Q (.ref a) H'
def cL (fl : EL) : EC := fun ρ S => (fl ρ S).map fun ds => [.lst ds]
def cD (t : Bool) : EC := fun _ _ => some [.dic t [] []]
/-- o.f = a thing that is a cell from then on -/
def sAttrN (c f : Str) (fc : EC) (fo : E) : T := fun ρ S => (fc ρ S).bind fun cs => (fo ρ (S ++ cs)).bind fun o => (ocell (S ++ cs) o).bind fun p => (putO c f (.ref S.length) p).map fun w => (.nx, ρ, (S ++ cs).set p.1 w)
/-- x = a thing that is a cell from then on -/
def sNewN (i : Nat) (fc : EC) : T := fun ρ S => (fc ρ S).map fun cs => (.nx, ρ.set i (some (.ref S.length)), S ++ cs)
section
variable {K : PySem.W.Frag} {Z : Fr} {μ μ' : List Addr} {H : Hp} {S : Sto} {σ : L2.St} {ρ : Rho}
theorem Rel.wrO {n : Nat} {a C dx : Addr} {c f : Str} {fvs : List (Str × V)} {vs : List D} {d : D} {v : V} (R : Rel K Z μ σ H ρ S) (hn : μ[n]? = some a) (hc : ClsAt K c C) (r : RVLz K Z μ H vs (fvs.map (·.2))) (rv : RVz K Z μ H d v) :
    Rel K Z μ σ (upd H a (.ins C dx (putF f v fvs))) ρ (S.set n (.ins c (putFs (fvs.map (·.1)) f) (putVs (fvs.map (·.1)) vs f d))) := by
  obtain ⟨i1, i2⟩ := putF_of (f := f) rv r
  exact R.wr hn ⟨C, dx, _, upd_same, hc, i1, RVL.wr R.wd (List.mem_of_getElem? hn) i2⟩
theorem Wd.allocs {as : List Addr} {cs : List Cell} {H' : Hp} (W : Wd K Z μ H S) (s : Same H H') (hl : as.length = cs.length) (nd : as.Nodup) (n : ∀ b ∈ as, H b = none) (r : ∀ (i : Nat) b c, as[i]? = some b → cs[i]? = some c → RC K Z (μ ++ as) H' b c) : Wd K Z (μ ++ as) H' (S ++ cs) := by
  have tr : ∀ d v, RVz K Z μ H d v → RVz K Z (μ ++ as) H' d v := fun d v h => RV.tr (fun b u e hn => ⟨s _ _ e, fun m q => by
    rcases q with q | q
    · exact hn m (.inl q)
    · rcases List.mem_append.mp q with q | q
      · exact hn m (.inr q)
      · rw [n b q] at e; cases e⟩) (fun m b e => by rw [List.getElem?_append_left (List.getElem?_eq_some_iff.mp e).1]; exact e) d v h
  have trl : ∀ d v, RVLz K Z μ H d v → RVLz K Z (μ ++ as) H' d v := fun d v h => RVL.tr (fun b u e hn => ⟨s _ _ e, fun m q => by
    rcases q with q | q
    · exact hn m (.inl q)
    · rcases List.mem_append.mp q with q | q
      · exact hn m (.inr q)
      · rw [n b q] at e; cases e⟩) (fun m b e => by rw [List.getElem?_append_left (List.getElem?_eq_some_iff.mp e).1]; exact e) d v h
  refine ⟨by simp [W.len, hl], ?_, fun m c' b h1 h2 => ?_, fun b o e => s _ _ (W.base b o e), fun b hb => ?_, fun b h q => W.av b h (s.free q), fun b hb => ?_, W.root.trans (List.prefix_append _ _)⟩
  · refine List.nodup_append.mpr ⟨W.nd, nd, fun x hx y hy => ?_⟩
    rintro rfl
    exact W.fresh (n x hy) (.inr hx)
  · by_cases hm : m < μ.length
    · rw [List.getElem?_append_left (by rw [W.len]; exact hm)] at h1
      rw [List.getElem?_append_left hm] at h2
      have q := W.cell m c' b h1 h2
      cases c' with
      | lst ds => obtain ⟨xs, q, r⟩ := q; exact ⟨xs, s _ _ q, trl _ _ r⟩
      | dic t ks vs =>
        rcases q with ⟨t, kvs, q, e, r⟩ | ⟨t, kvs, q, e, r⟩
        · exact .inl ⟨t, kvs, s _ _ q, e, trl _ _ r⟩
        · exact .inr ⟨t, kvs, s _ _ q, e, trl _ _ r⟩
      | ins c fs vs => obtain ⟨C, dx, fvs, q, k, e, r⟩ := q; exact ⟨C, dx, fvs, s _ _ q, k, e, trl _ _ r⟩
      | lck => obtain ⟨o, u, q, l⟩ := q; exact ⟨o, u, s _ _ q, l⟩
    · rw [List.getElem?_append_right (by rw [W.len]; omega)] at h1
      rw [List.getElem?_append_right (by omega)] at h2
      rw [W.len] at h1
      exact r _ b c' h2 h1
  · rcases List.mem_append.mp hb with hb | hb
    · exact W.dis b hb
    · exact W.newB (n b hb)
  · rcases List.mem_append.mp hb with hb | hb
    · exact W.disA b hb
    · exact fun z => W.fresh (n b hb) (.inl z)
theorem RV.allocs {as : List Addr} {H' : Hp} (s : Same H H') (n : ∀ b ∈ as, H b = none) {d : D} {v : V} (h : RVz K Z μ H d v) : RVz K Z (μ ++ as) H' d v := RV.tr (fun b u e hn => ⟨s _ _ e, fun m q => by
    rcases q with q | q
    · exact hn m (.inl q)
    · rcases List.mem_append.mp q with q | q
      · exact hn m (.inr q)
      · rw [n b q] at e; cases e⟩) (fun m b e => by rw [List.getElem?_append_left (List.getElem?_eq_some_iff.mp e).1]; exact e) d v h
theorem Rel.allocs {as : List Addr} {cs : List Cell} {H' : Hp} (R : Rel K Z μ σ H ρ S) (s : Same H H') (hl : as.length = cs.length) (nd : as.Nodup) (n : ∀ b ∈ as, H b = none) (r : ∀ (i : Nat) b c, as[i]? = some b → cs[i]? = some c → RC K Z (μ ++ as) H' b c) : Rel K Z (μ ++ as) σ H' ρ (S ++ cs) :=
  R.with (R.wd.allocs s hl nd n r) fun _ _ q => RV.allocs s n q
theorem rv_first {S : Sto} {a : Addr} {as : List Addr} (W : Wd K Z μ H S) {H' : Hp} : RVz K Z (μ ++ a :: as) H' (.ref S.length) (.ref a) := rv_ref.mpr ⟨a, rfl, by rw [W.len, List.getElem?_append_right (Nat.le_refl _)]; simp⟩
theorem tN_of {f : EL} {σ : L2.St} {H : Hp} {Q : VK} (h : tN K (cL f) σ H Q) : tF K f σ H Q := by
  obtain ⟨Z, μ, ρ, S, R, cs, e, q⟩ := h
  simp only [cL, Option.map_eq_some_iff] at e
  obtain ⟨ds, e1, rfl⟩ := e
  refine ⟨Z, μ, ρ, S, R, ds, e1, fun a xs H' n s h1 r => q a [] H' rfl (by simp) (by simpa using n) s fun i b c hb hc => ?_⟩
  cases i with
  | succ i => simp at hb
  | zero =>
    simp at hb hc
    subst hb; subst hc
    exact ⟨xs, h1, RVL.tr (fun b o e hn => ⟨e, fun m z => by
      rcases z with z | z
      · exact hn m (.inl (.inl z))
      · rcases List.mem_append.mp z with z | z
        · exact hn m (.inl (.inr z))
        · exact hn m (.inr (by simpa using z))⟩) (fun k b e => by rw [List.getElem?_append_left (List.getElem?_eq_some_iff.mp e).1]; exact e) _ _ r⟩
theorem tN_dK {σ : L2.St} {H : Hp} {Q : VK} (h : tN K (cD false) σ H Q) : tDNewK σ H Q := by
  obtain ⟨Z, μ, ρ, S, R, cs, e, q⟩ := h
  cases e
  intro p hp
  have s : Same H (upd H p (.dK [])) := fun c o z => by rw [upd_ne (ne_of_none z hp)]; exact z
  refine q p [] _ rfl (by simp) (by simpa using hp) s fun i b c hb hc => ?_
  cases i with
  | succ i => simp at hb
  | zero =>
    simp at hb hc
    subst hb; subst hc
    exact .inl ⟨rfl, [], upd_same, rfl, RVL.nil'⟩
theorem tN_dT {σ : L2.St} {H : Hp} {Q : VK} (h : tN K (cD true) σ H Q) : tDNewT σ H Q := by
  obtain ⟨Z, μ, ρ, S, R, cs, e, q⟩ := h
  cases e
  intro p hp
  have s : Same H (upd H p (.dT [])) := fun c o z => by rw [upd_ne (ne_of_none z hp)]; exact z
  refine q p [] _ rfl (by simp) (by simpa using hp) s fun i b c hb hc => ?_
  cases i with
  | succ i => simp at hb
  | zero =>
    simp at hb hc
    subst hb; subst hc
    exact .inr ⟨rfl, [], upd_same, rfl, RVL.nil'⟩
theorem set_app {S cs : Sto} {n : Nat} {w : Cell} (h : n < S.length) : S.set n w ++ cs = (S ++ cs).set n w := by
  rw [List.set_append_left _ _ h]
end
section
variable {X : Cx} {o e value : Expr} {c f : Str} {pos pos' : Pos} {fe fo fv : E} {fl : EL}
theorem ds_attr (hf : FldF X.K c f) (hv : PE X value (tD X.K fv)) (ho : PE X o (tD X.K fo)) (hs : swapsWith value (some (.Attribute o f pos')) pos.line X.env = pure false := by rfl) : PS X (.Assign [.Attribute o f pos'] value pos) (tS X.K (sAttr c f fv fo)) :=
  ps_imp (ps_fld ho hv hs) fun De σ H ⟨Z, μ, ρ, S, R, fl, ρ', S', e, q⟩ => by
    simp only [sAttr, Option.bind_eq_some_iff, Option.map_eq_some_iff, Prod.mk.injEq] at e
    obtain ⟨d, e1, od, e2, ⟨n, c', fs, vs⟩, e3, w, e4, rfl, rfl, rfl⟩ := e
    refine ⟨Z, μ, ρ, S, R, d, e1, fun v H1 s1 r1 => ⟨Z, μ, ρ, S, R.mono s1, od, e2, fun u H2 s2 r2 => ?_⟩⟩
    simp only [putO] at e4
    split at e4
    · rename_i hc
      obtain ⟨rfl, hl⟩ := hc
      cases e4
      obtain ⟨a, C, dx, fvs, rfl, hn, h1, h2, rfl, h4, _⟩ := ocell_of ((R.wd.mono s1).mono s2) r2 e3
      obtain ⟨k1, k2⟩ := hf C h2
      exact ⟨a, C, dx, fvs, rfl, h1, k1, k2, by simpa using hl, q _ _ μ (((R.mono s1).mono s2).wrO hn h2 h4 (RV.mono s2 r1))⟩
    · cases e4
theorem d_cL (h : PE X e (tF X.K fl)) : PE X e (tN X.K (cL fl)) := pe_imp h fun _ _ _ h => tN_of h
theorem d_cDK {dpos : Pos} : PE X (.Dict [] [] dpos) (tN X.K (cD false)) := pe_imp pe_dnewK fun _ _ _ h => tN_dK h
theorem d_cDT {dpos : Pos} : PE X (.Dict [] [] dpos) (tN X.K (cD true)) := pe_imp pe_dnewT fun _ _ _ h => tN_dT h
theorem ds_attrN {fc : EC} (hf : FldF X.K c f) (hv : PE X value (tN X.K fc)) (ho : PE X o (tD X.K fo)) (hs : swapsWith value (some (.Attribute o f pos')) pos.line X.env = pure false := by rfl) : PS X (.Assign [.Attribute o f pos'] value pos) (tS X.K (sAttrN c f fc fo)) :=
  ps_imp (ps_fld ho hv hs) fun De σ H ⟨Z, μ, ρ, S, R, fl', ρ', S', e, q⟩ => by
    simp only [sAttrN, Option.bind_eq_some_iff, Option.map_eq_some_iff, Prod.mk.injEq] at e
    obtain ⟨cs, e1, od, e2, ⟨n, c', fs, vs⟩, e3, w, e4, rfl, rfl, rfl⟩ := e
    refine ⟨Z, μ, ρ, S, R, cs, e1, fun a as H1 hl nd na s1 r1 => ?_⟩
    have R1 := R.allocs s1 hl nd na r1
    refine ⟨Z, μ ++ a :: as, ρ, S ++ cs, R1, od, e2, fun u H2 s2 r2 => ?_⟩
    simp only [putO] at e4
    split at e4
    · rename_i hc
      obtain ⟨rfl, hl⟩ := hc
      cases e4
      obtain ⟨b, C, dx, fvs, rfl, hn, g1, h2, rfl, h4, hS⟩ := ocell_of (R1.wd.mono s2) r2 e3
      obtain ⟨k1, k2⟩ := hf C h2
      exact ⟨b, C, dx, fvs, rfl, g1, k1, k2, by simpa using hl, q _ _ _ ((R1.mono s2).wrO hn h2 h4 (rv_first R.wd))⟩
    · cases e4
section
variable {i : Nat} {x : Str} {pos' : Pos} {fc : EC}
theorem ds_newN (hN : X.N.Nodup) (hi : X.N[i]? = some x) (hx : Loc X.env.scope x) (he : PE X e (tN X.K fc)) (hs : swapsWith e (some (.Name x pos')) pos.line X.env = pure false := by rfl) (hf : X.fn x = true ∨ X.env.scope.names.lookup x = some .local := by first | exact .inl rfl | exact .inr rfl | assumption) :
    PS X (.Assign [.Name x pos'] e pos) (tS X.K (sNewN i fc)) :=
  ps_imp (ps_set hN hi hx he hs hf) fun De σ H ⟨Z, μ, ρ, S, R, fl', ρ', S', e, q⟩ => by
    simp only [sNewN, Option.map_eq_some_iff, Prod.mk.injEq] at e
    obtain ⟨cs, e1, rfl, rfl, rfl⟩ := e
    exact ⟨Z, μ, ρ, S, R, cs, e1, fun a as H1 hl nd na s1 r1 => q _ H1 _ ((R.allocs s1 hl nd na r1).set (rv_first R.wd))⟩
end
end
end DL

set_option maxHeartbeats 4000000
namespace DL
open PySem PySem.Spec L2
/-! ### [[] for _ in xs]: a list of new cells -/
def cLL (f : EL) (c0 : Cell) : EC := fun ρ S => (f ρ S).bind fun ds => if small ds.length then some (.lst ((List.range ds.length).map fun k => .ref (S.length + 1 + k)) :: List.replicate ds.length c0) else none
theorem rvl_refs {K : PySem.W.Frag} {av : Addr → Prop} {H : Hp} : ∀ (acc : List Addr) (ν : List Addr) (b : Nat), (∀ k, k < acc.length → ν[b + k]? = acc[k]?) → RVL K av ν H ((List.range acc.length).map fun k => .ref (b + k)) (acc.map V.ref)
  | [], ν, b, _ => RVL.nil'
  | a :: acc, ν, b, h => by
    have h0 := h 0 (by simp)
    have e : ((List.range (a :: acc).length).map fun k => D.ref (b + k)) = .ref b :: (List.range acc.length).map fun k => D.ref (b + 1 + k) := by
      rw [List.length_cons, List.range_succ_eq_map, List.map_cons, List.map_map]
      congr 1
      refine List.map_congr_left fun k _ => ?_
      show D.ref (b + (k + 1)) = D.ref (b + 1 + k)
      congr 1; omega
    rw [e, List.map_cons]
    refine RVL.cons' (rv_ref.mpr ⟨a, rfl, by simpa using h0⟩) (rvl_refs acc ν (b + 1) fun k hk => ?_)
    have := h (k + 1) (by simp; omega)
    rw [show b + 1 + k = b + (k + 1) by omega, this]
    simp
theorem tLL_of {K : PySem.W.Frag} {f : EL} {vs vt : List Nat} {g : G} {te : TE} {o0 : HO} {c0 : Cell} (hc0 : ∀ (Z : Fr) (μ : List Addr) (H : Hp) (a : Addr), H a = some o0 → RC K Z μ H a c0)
    (he : ∀ σ H (Q : VK), (∀ p, H p = none → Q (.ref p) (upd H p o0)) → te σ H Q) (hv : ∀ i ∈ vt, i ∈ vs) (hg : ∀ d ρ, ∃ ρ', g d ρ = some ρ') {σ : L2.St} {H : Hp} {Q : VK} (h : tN K (cLL f c0) σ H Q) :
    tLc (tJ K f) (tG K vt g) (tT K bYes) te vs σ H Q := by
  obtain ⟨Z, μ, ρ, S, R, cs, ef, q⟩ := h
  simp only [cLL, Option.bind_eq_some_iff] at ef
  obtain ⟨ds, e1, e2⟩ := ef
  split at e2
  case isFalse => cases e2
  rename_i hsm
  simp only [Option.some.injEq] at e2
  subst e2
  refine ⟨Z, μ, ρ, S, R, ds, e1, fun J H1 s1 it D nD => ?_⟩
  have R1 := (R.mono s1).wipe vs
  refine ⟨fun i m H => m = ds.length - i ∧ i ≤ ds.length ∧ Same H1 H ∧ ∃ acc : List Addr, acc.length = i ∧ (D :: acc).Nodup ∧ (∀ b ∈ acc, H1 b = none ∧ H b = some o0) ∧ H D = some (.lst (acc.map V.ref)),
    ⟨ds.length, by simp, Nat.zero_le _, fun c o z => by rw [upd_ne (ne_of_none z nD)]; exact z, [], rfl, by simp, by simp, upd_same⟩, ?_⟩
  rintro i m H' ⟨rfl, hi, s2, acc, la, nd, hb, hD⟩
  obtain ⟨it1, it2⟩ := it i H' fun a o ha _ => s2 a o ha
  by_cases hlt : i < ds.length
  · obtain ⟨hgo, hyld⟩ := it1 ds[i] (List.getElem?_eq_getElem hlt)
    refine .inr ⟨hgo, _, fun H2 h2 => ⟨ds.length - (i + 1), by omega, rfl, hlt, h2⟩, fun x H2 hy => ?_⟩
    obtain ⟨s3, rx⟩ := hyld x H2 hy
    obtain ⟨ρ1, eg⟩ := hg ds[i] (wipeR ρ vs)
    have R2 : Rel K (Z.plus D) μ (L2.wipe σ vs) H2 (wipeR ρ vs) S := R1.plus (s2.trans s3) nD (by rw [s3 _ _ hD]; exact fun z => by cases z)
    have rx' : RVz K (Z.plus D) μ H2 ds[i] x := RV.tr (fun a o e hn => ⟨e, fun m q => by
      rcases q with (q | q) | q
      · exact hn m (.inl (.inl q))
      · subst q; exact hn m (.inr nD)
      · exact hn m (.inl (.inr q))⟩) (fun _ _ e => e) _ _ rx
    refine ⟨Z.plus D, μ, wipeR ρ vs, S, ds[i], R2, rx', ρ1, eg, fun σ2 R3 k2 l2 => ⟨?_, ?_⟩⟩
    · exact (wipe_eq l2 fun j hj => k2 j fun h => hj (hv j h)).trans wipe_wipe
    · refine ⟨Z.plus D, μ, ρ1, S, R3, true, rfl, fun H3 s4 => iteT ?_⟩
      refine he _ _ _ fun p np => ?_
      have hD3 : H3 D = some (.lst (acc.map V.ref)) := s4 _ _ (s3 _ _ hD)
      have pD : D ≠ p := ne_of_none hD3 np
      have hD4 : upd H3 p o0 D = some (.lst (acc.map V.ref)) := by rw [upd_ne pD]; exact hD3
      have pA : ∀ b ∈ acc, b ≠ p := fun b hb' => ne_of_none (s4 _ _ (s3 _ _ (hb b hb').2)) np
      have dA : ∀ b ∈ acc, b ≠ D := fun b hb' e => by
        rw [List.nodup_cons] at nd
        exact nd.1 (e ▸ hb')
      have s5 : Same H1 (upd (upd H3 p o0) D (.lst ((acc ++ [p]).map V.ref))) := fun c o z => by
        rw [upd_ne (ne_of_none z nD), upd_ne (ne_of_none (s4 _ _ (s3 _ _ (s2 _ _ z))) np)]
        exact s4 _ _ (s3 _ _ (s2 _ _ z))
      have e5 : acc.map V.ref ++ [V.ref p] = (acc ++ [p]).map V.ref := by simp
      refine ⟨acc.map V.ref, hD4, ?_, by rw [e5]; exact s5, acc ++ [p], by simp [la], ?_, ?_, by rw [upd_same, e5]⟩
      · have h3 : ds.length ≤ 1000000 := of_decide_eq_true hsm
        have h5 : (1000000 : Nat) < sizeLine := by decide
        rw [List.length_map]
        omega
      · rw [List.nodup_cons] at nd ⊢
        refine ⟨fun z => ?_, List.nodup_append.mpr ⟨nd.2, by simp, fun a ha b hb' => ?_⟩⟩
        · rcases List.mem_append.mp z with z | z
          · exact nd.1 z
          · exact pD (List.mem_singleton.mp z)
        · rw [List.mem_singleton.mp hb']; exact pA a ha
      · intro b hb'
        rw [e5]
        rcases List.mem_append.mp hb' with hb' | hb'
        · exact ⟨(hb b hb').1, by rw [upd_ne (dA b hb'), upd_ne (pA b hb')]; exact s4 _ _ (s3 _ _ (hb b hb').2)⟩
        · rw [List.mem_singleton.mp hb']
          refine ⟨(s2.trans (s3.trans s4)).free np, ?_⟩
          rw [upd_ne pD.symm, upd_same]
  · have hi' : i = ds.length := by omega
    subst hi'
    refine .inl ⟨it2 (Nat.le_refl _), q D acc H' (by simp [la]) nd (fun b hb' => ?_) (s1.trans s2) fun j b c hj hcj => ?_⟩
    · rcases List.mem_cons.mp hb' with rfl | hb'
      · exact s1.free nD
      · exact s1.free (hb b hb').1
    · cases j with
      | zero =>
        simp at hj hcj
        subst hj; subst hcj
        refine ⟨_, hD, ?_⟩
        rw [← la]
        refine rvl_refs acc _ _ fun k hk => ?_
        rw [List.getElem?_append_right (by rw [R.wd.len]; omega), R.wd.len, show μ.length + 1 + k - μ.length = k + 1 by omega]
        simp
      | succ j =>
        simp only [List.getElem?_cons_succ] at hj hcj
        rw [List.getElem?_replicate] at hcj
        split at hcj
        · cases hcj
          exact hc0 _ _ _ _ (hb b (List.mem_of_getElem? hj)).2
        · cases hcj
section
variable {X : Cx} {elt tg iter : Expr} {scope : Scope} {own : List (Str × Nat)} {pos : Pos}
theorem d_cLLl {f : EL} {vt : List Nat} {g : G} {ep : Pos} (hc : X.calm = true) (hN : X.N.Nodup) (hi : PI X tg iter (tJ X.K f)) (ok : BlkOk X.N X.env.scope scope own)
    (hg : ∀ (s : Shared) (H : Hp) (C : Addr) (cl : List (Str × Addr)) (fp : List Addr), PG (X.blk s H scope (compEnvC scope cl C X.env) fp) tg (tG X.K vt g)) (hgg : ∀ d ρ, ∃ ρ', g d ρ = some ρ') (hv : ∀ i ∈ vt, i ∈ own.map (·.2) := by decide) (hs : ∀ x, foldedSetIterable iter X.env x = pure x := by intro _; rfl) :
    PE X (.ListComp (.List [] ep) [⟨tg, iter, [], 0⟩] scope pos) (tN X.K (cLL f (.lst []))) :=
  pe_imp (pe_lc hc hN hi ok hg (fun _ _ _ _ _ => dts_nil) (fun _ _ _ _ _ => pe_lst pa_nil) hs) fun _ _ _ h => tLL_of (o0 := .lst []) (c0 := .lst []) (fun Z μ H a e => ⟨[], e, RVL.nil'⟩) (fun σ H Q k => ⟨by decide, k⟩) hv hgg h
theorem d_cLLd {f : EL} {vt : List Nat} {g : G} {ep : Pos} (hc : X.calm = true) (hN : X.N.Nodup) (hi : PI X tg iter (tJ X.K f)) (ok : BlkOk X.N X.env.scope scope own)
    (hg : ∀ (s : Shared) (H : Hp) (C : Addr) (cl : List (Str × Addr)) (fp : List Addr), PG (X.blk s H scope (compEnvC scope cl C X.env) fp) tg (tG X.K vt g)) (hgg : ∀ d ρ, ∃ ρ', g d ρ = some ρ') (hv : ∀ i ∈ vt, i ∈ own.map (·.2) := by decide) (hs : ∀ x, foldedSetIterable iter X.env x = pure x := by intro _; rfl) :
    PE X (.ListComp (.Dict [] [] ep) [⟨tg, iter, [], 0⟩] scope pos) (tN X.K (cLL f (.dic false [] []))) :=
  pe_imp (pe_lc hc hN hi ok hg (fun _ _ _ _ _ => dts_nil) (fun _ _ _ _ _ => pe_dnewK) hs) fun _ _ _ h => tLL_of (o0 := .dK []) (c0 := .dic false [] []) (fun Z μ H a e => .inl ⟨rfl, [], e, rfl, RVL.nil'⟩) (fun σ H Q k => k) hv hgg h
theorem gN_all (i : Nat) : ∀ d ρ, ∃ ρ', gN i d ρ = some ρ' := fun d ρ => ⟨_, rfl⟩
end
theorem ds_newNA {X : Cx} {st : Stmt} {fc : EC} {te : TE} {i : Nat} (h : PS X st (tAsg te (L2.gName i))) (hi : ∀ σ H Q, tN X.K fc σ H Q → te σ H Q) : PS X st (tS X.K (sNewN i fc)) :=
  ps_imp h fun De σ H ⟨Z, μ, ρ, S, R, fl', ρ', S', e, q⟩ => by
    simp only [sNewN, Option.map_eq_some_iff, Prod.mk.injEq] at e
    obtain ⟨cs, e1, rfl, rfl, rfl⟩ := e
    exact hi _ _ _ ⟨Z, μ, ρ, S, R, cs, e1, fun a as H1 hl nd na s1 r1 => q _ H1 _ ((R.allocs s1 hl nd na r1).set (rv_first R.wd))⟩
section
variable {X : Cx} {tg iter : Expr} {scope : Scope} {own : List (Str × Nat)} {pos spos py ep : Pos} {i : Nat} {y : Str} {fl : EL} {vt : List Nat} {g : G}
theorem ds_newLLl (hc : X.calm = true) (hN : X.N.Nodup) (hy : X.N[i]? = some y) (hyl : X.env.scope.names.lookup y = some .local)
    (hsw : swapsWith (.ListComp (.List [] ep) [⟨tg, iter, [], 0⟩] scope pos) (some (.Name y py)) spos.line X.env = pure true) (hi : PI X tg iter (tJ X.K fl)) (ok : BlkOk X.N X.env.scope scope own)
    (hg : ∀ (s : Shared) (H : Hp) (C : Addr) (cl : List (Str × Addr)) (fp : List Addr), PG (X.blk s H scope (compEnvC scope cl C X.env) fp) tg (tG X.K vt g)) (hgg : ∀ d ρ, ∃ ρ', g d ρ = some ρ') (hv : ∀ i ∈ vt, i ∈ own.map (·.2) := by decide) (hs : ∀ x, foldedSetIterable iter X.env x = pure x := by intro _; rfl) :
    PS X (.Assign [.Name y py] (.ListComp (.List [] ep) [⟨tg, iter, [], 0⟩] scope pos) spos) (tS X.K (sNewN i (cLL fl (.lst [])))) :=
  ds_newNA (ps_setLc hc hN hy hyl hsw hi ok hg (fun _ _ _ _ _ => dts_nil) (fun _ _ _ _ _ => pe_lst pa_nil) hs) fun _ _ _ h => tLL_of (o0 := .lst []) (c0 := .lst []) (fun Z μ H a e => ⟨[], e, RVL.nil'⟩) (fun σ H Q k => ⟨by decide, k⟩) hv hgg h
theorem ds_newLLd (hc : X.calm = true) (hN : X.N.Nodup) (hy : X.N[i]? = some y) (hyl : X.env.scope.names.lookup y = some .local)
    (hsw : swapsWith (.ListComp (.Dict [] [] ep) [⟨tg, iter, [], 0⟩] scope pos) (some (.Name y py)) spos.line X.env = pure true) (hi : PI X tg iter (tJ X.K fl)) (ok : BlkOk X.N X.env.scope scope own)
    (hg : ∀ (s : Shared) (H : Hp) (C : Addr) (cl : List (Str × Addr)) (fp : List Addr), PG (X.blk s H scope (compEnvC scope cl C X.env) fp) tg (tG X.K vt g)) (hgg : ∀ d ρ, ∃ ρ', g d ρ = some ρ') (hv : ∀ i ∈ vt, i ∈ own.map (·.2) := by decide) (hs : ∀ x, foldedSetIterable iter X.env x = pure x := by intro _; rfl) :
    PS X (.Assign [.Name y py] (.ListComp (.Dict [] [] ep) [⟨tg, iter, [], 0⟩] scope pos) spos) (tS X.K (sNewN i (cLL fl (.dic false [] [])))) :=
  ds_newNA (ps_setLc hc hN hy hyl hsw hi ok hg (fun _ _ _ _ _ => dts_nil) (fun _ _ _ _ _ => pe_dnewK) hs) fun _ _ _ h => tLL_of (o0 := .dK []) (c0 := .dic false [] []) (fun Z μ H a e => .inl ⟨rfl, [], e, rfl, RVL.nil'⟩) (fun σ H Q k => k) hv hgg h
end
end DL

set_option maxHeartbeats 4000000
namespace DL
open PySem PySem.Spec L2
/-! ### defs that change what they are handed: the store goes in and comes out -/
mutual
/-- all places below n -/
def rb (n : Nat) : D → Bool
  | .tup ds => rbs n ds
  | .lst ds => rbs n ds
  | .dic _ _ vs => rbs n vs
  | .ins _ _ vs => rbs n vs
  | .ref m => decide (m < n)
  | _ => true
def rbs (n : Nat) : List D → Bool
  | [] => true
  | d :: ds => rb n d && rbs n ds
end
def rbC (n : Nat) : Cell → Bool
  | .lst ds => rbs n ds
  | .dic _ _ vs => rbs n vs
  | .ins _ _ vs => rbs n vs
  | .lck => true
/-- places below n stay, the others are read -/
def frzB (n : Nat) : Nat → Sto → D → Option D
  | 0, _, d => frzS (fun m => if m < n then some (.ref m) else none) d
  | k + 1, S, d => frzS (fun m => if m < n then some (.ref m) else (S[m]?).bind fun c => match c with
      | .lst ds => (ds.mapM (frzB n k S)).map .lst
      | .dic t ks vs => (vs.mapM (frzB n k S)).map (.dic t ks)
      | .ins c fs vs => (vs.mapM (frzB n k S)).map (.ins c fs)
      | .lck => none) d
def finK (n : Nat) (d : D) (S : Sto) : Option D := if (S.take n).all (rbC n) then (if nr d then some d else frzB n 6 S d) else none
def finS (n : Nat) (d : D) (S : Sto) : D × Sto := if S.length ≤ n then (d, S) else match finK n d S with
  | some d' => (d', S.take n)
  | none => (d, S)
section
variable {K : PySem.W.Frag} {av av' : Addr → Prop} {μ μt : List Addr} {H : Hp}
mutual
theorem RV.cut {n : Nat} (hav : ∀ a, av' a → av a) (hm : ∀ m a, m < n → μ[m]? = some a → μt[m]? = some a) : ∀ (d : D) (v : V), rb n d = true → RV K av μ H d v → RV K av' μt H d v
  | .non, _, _, h => by unfold RV at h ⊢; exact h
  | .bl _, _, _, h => by unfold RV at h ⊢; exact h
  | .int _, _, _, h => by unfold RV at h ⊢; exact h
  | .str _, _, _, h => by unfold RV at h ⊢; exact h
  | .ty _, _, _, h => by unfold RV at h ⊢; exact h
  | .scr _, _, _, h => by unfold RV at h ⊢; exact h
  | .ref m, _, o, h => by
    simp only [rb, decide_eq_true_eq] at o
    unfold RV at h ⊢
    obtain ⟨a, e, h⟩ := h
    exact ⟨a, e, hm m a o h⟩
  | .tup ds, v, o, h => by
    simp only [rb] at o
    unfold RV at h ⊢
    obtain ⟨a, xs, e, hs, hr⟩ := h
    exact ⟨a, xs, e, hs, RVL.cut hav hm ds xs o hr⟩
  | .lst ds, v, o, h => by
    simp only [rb] at o
    unfold RV at h ⊢
    obtain ⟨a, xs, e, hs, hn, hr⟩ := h
    exact ⟨a, xs, e, hs, fun z => hn (hav a z), RVL.cut hav hm ds xs o hr⟩
  | .dic t ks vs, v, o, h => by
    simp only [rb] at o
    unfold RV at h ⊢
    obtain ⟨a, e, hn, h⟩ := h
    rcases h with ⟨ht, kvs, hs, hk, hr⟩ | ⟨ht, kvs, hs, hk, hr⟩
    · exact ⟨a, e, fun z => hn (hav a z), .inl ⟨ht, kvs, hs, hk, RVL.cut hav hm vs _ o hr⟩⟩
    · exact ⟨a, e, fun z => hn (hav a z), .inr ⟨ht, kvs, hs, hk, RVL.cut hav hm vs _ o hr⟩⟩
  | .ins c fs vs, v, o, h => by
    simp only [rb] at o
    unfold RV at h ⊢
    obtain ⟨a, C, dx, fvs, e, hn, hs, k, hf, hr⟩ := h
    exact ⟨a, C, dx, fvs, e, fun z => hn (hav a z), hs, k, hf, RVL.cut hav hm vs _ o hr⟩
theorem RVL.cut {n : Nat} (hav : ∀ a, av' a → av a) (hm : ∀ m a, m < n → μ[m]? = some a → μt[m]? = some a) : ∀ (ds : List D) (vs : List V), rbs n ds = true → RVL K av μ H ds vs → RVL K av' μt H ds vs
  | [], _, _, h => by unfold RVL at h ⊢; exact h
  | d :: ds, _, o, h => by
    simp only [rbs, Bool.and_eq_true] at o
    unfold RVL at h ⊢
    obtain ⟨y, ys, e, h1, h2⟩ := h
    exact ⟨y, ys, e, RV.cut hav hm d y o.1 h1, RVL.cut hav hm ds ys o.2 h2⟩
end
mutual
theorem RV.frzT {φ : Nat → Option D} (hav : ∀ a, av' a → av a) (hφ : ∀ n d', φ n = some d' → ∀ a, μ[n]? = some a → RV K av' μt H d' (.ref a)) :
    ∀ (d : D) (v : V) (d' : D), DL.frzS φ d = some d' → RV K av μ H d v → RV K av' μt H d' v
  | .non, _, _, e, h => by simp only [DL.frzS, Option.some.injEq] at e; subst e; unfold RV at h ⊢; exact h
  | .bl _, _, _, e, h => by simp only [DL.frzS, Option.some.injEq] at e; subst e; unfold RV at h ⊢; exact h
  | .int _, _, _, e, h => by simp only [DL.frzS, Option.some.injEq] at e; subst e; unfold RV at h ⊢; exact h
  | .str _, _, _, e, h => by simp only [DL.frzS, Option.some.injEq] at e; subst e; unfold RV at h ⊢; exact h
  | .ty _, _, _, e, h => by simp only [DL.frzS, Option.some.injEq] at e; subst e; unfold RV at h ⊢; exact h
  | .scr _, _, _, e, h => by simp only [DL.frzS, Option.some.injEq] at e; subst e; unfold RV at h ⊢; exact h
  | .ref n, v, d', e, h => by
    simp only [DL.frzS] at e
    unfold RV at h
    obtain ⟨a, rfl, hn⟩ := h
    exact hφ n d' e a hn
  | .tup ds, v, d', e, h => by
    simp only [DL.frzS, Option.map_eq_some_iff] at e
    obtain ⟨es, e, rfl⟩ := e
    unfold RV at h ⊢
    obtain ⟨a, xs, e1, hs, hr⟩ := h
    exact ⟨a, xs, e1, hs, RVL.frzT hav hφ ds xs es e hr⟩
  | .lst ds, v, d', e, h => by
    simp only [DL.frzS, Option.map_eq_some_iff] at e
    obtain ⟨es, e, rfl⟩ := e
    unfold RV at h ⊢
    obtain ⟨a, xs, e1, hs, hn, hr⟩ := h
    exact ⟨a, xs, e1, hs, fun z => hn (hav a z), RVL.frzT hav hφ ds xs es e hr⟩
  | .dic t ks vs, v, d', e, h => by
    simp only [DL.frzS, Option.map_eq_some_iff] at e
    obtain ⟨es, e, rfl⟩ := e
    unfold RV at h ⊢
    obtain ⟨a, e1, hn, h⟩ := h
    rcases h with ⟨ht, kvs, hs, hk, hr⟩ | ⟨ht, kvs, hs, hk, hr⟩
    · exact ⟨a, e1, fun z => hn (hav a z), .inl ⟨ht, kvs, hs, hk, RVL.frzT hav hφ vs _ es e hr⟩⟩
    · exact ⟨a, e1, fun z => hn (hav a z), .inr ⟨ht, kvs, hs, hk, RVL.frzT hav hφ vs _ es e hr⟩⟩
  | .ins c fs vs, v, d', e, h => by
    simp only [DL.frzS, Option.map_eq_some_iff] at e
    obtain ⟨es, e, rfl⟩ := e
    unfold RV at h ⊢
    obtain ⟨a, C, dx, fvs, e1, hn, hs, k, hf, hr⟩ := h
    exact ⟨a, C, dx, fvs, e1, fun z => hn (hav a z), hs, k, hf, RVL.frzT hav hφ vs _ es e hr⟩
theorem RVL.frzT {φ : Nat → Option D} (hav : ∀ a, av' a → av a) (hφ : ∀ n d', φ n = some d' → ∀ a, μ[n]? = some a → RV K av' μt H d' (.ref a)) :
    ∀ (ds : List D) (vs : List V) (es : List D), DL.frzSs φ ds = some es → RVL K av μ H ds vs → RVL K av' μt H es vs
  | [], vs, es, e, h => by simp only [DL.frzSs, Option.some.injEq] at e; subst e; unfold RVL at h ⊢; exact h
  | d :: ds, vs, es, e, h => by
    simp only [DL.frzSs, Option.bind_eq_some_iff, Option.map_eq_some_iff] at e
    obtain ⟨d', e1, es', e2, rfl⟩ := e
    unfold RVL at h ⊢
    obtain ⟨y, ys, e3, h1, h2⟩ := h
    exact ⟨y, ys, e3, RV.frzT hav hφ d y d' e1 h1, RVL.frzT hav hφ ds ys es' e2 h2⟩
end
end
section
variable {K : PySem.W.Frag} {Z : Fr} {μ μ' : List Addr} {H H' : Hp} {S S' : Sto}
theorem pre_lt {m : Nat} {a : Addr} (p : μ <+: μ') (hm : m < μ.length) (h : μ'[m]? = some a) : μ[m]? = some a := by
  obtain ⟨t, rfl⟩ := p
  rw [List.getElem?_append_left hm] at h
  exact h
theorem pre_ge {m : Nat} {a : Addr} (p : μ <+: μ') (nd : μ'.Nodup) (hm : ¬ m < μ.length) (h : μ'[m]? = some a) : ¬ a ∈ μ := by
  obtain ⟨t, rfl⟩ := p
  rw [List.getElem?_append_right (by omega)] at h
  intro z
  exact (List.nodup_append.mp nd).2.2 a z a (List.mem_of_getElem? h) rfl
theorem RV.frzB (W : Wd K Z μ' H S) (p : μ <+: μ') : ∀ (k : Nat) (d : D) (v : V) (d' : D), DL.frzB μ.length k S d = some d' → RVz K Z μ' H d v → RVz K Z μ H d' v
  | 0, d, v, d', e, h => by
    unfold DL.frzB at e
    refine RV.frzT (fun a z => z.elim .inl fun z => .inr (p.subset z)) (fun m d2 q a ha => ?_) d v d' e h
    split at q
    · rename_i hm
      cases q
      exact rv_ref.mpr ⟨a, rfl, pre_lt p hm ha⟩
    · cases q
  | k + 1, d, v, d', e, h => by
    unfold DL.frzB at e
    refine RV.frzT (fun a z => z.elim .inl fun z => .inr (p.subset z)) (fun m d2 q a ha => ?_) d v d' e h
    split at q
    · rename_i hm
      cases q
      exact rv_ref.mpr ⟨a, rfl, pre_lt p hm ha⟩
    · rename_i hm
      rw [Option.bind_eq_some_iff] at q
      obtain ⟨c, hc, q⟩ := q
      have r := W.cell m c a hc ha
      have nA : ¬ DL.avd Z μ a := fun z => z.elim (W.disA a (List.mem_of_getElem? ha)) (pre_ge p W.nd hm ha)
      cases c with
      | lst ds =>
        obtain ⟨xs, hx, r⟩ := r
        simp only [Option.map_eq_some_iff] at q
        obtain ⟨es, q, rfl⟩ := q
        exact rv_lst.mpr ⟨a, xs, rfl, hx, nA, RVL.mapM (fun d v d' e h => RV.frzB W p k d v d' e h) q r⟩
      | dic t ks vs =>
        simp only [Option.map_eq_some_iff] at q
        obtain ⟨es, q, rfl⟩ := q
        rcases r with ⟨ht, kvs, hs, hk, hr⟩ | ⟨ht, kvs, hs, hk, hr⟩
        · exact rv_dic.mpr ⟨a, rfl, nA, .inl ⟨ht, kvs, hs, hk, RVL.mapM (fun d v d' e h => RV.frzB W p k d v d' e h) q hr⟩⟩
        · exact rv_dic.mpr ⟨a, rfl, nA, .inr ⟨ht, kvs, hs, hk, RVL.mapM (fun d v d' e h => RV.frzB W p k d v d' e h) q hr⟩⟩
      | ins c fs vs =>
        simp only [Option.map_eq_some_iff] at q
        obtain ⟨es, q, rfl⟩ := q
        obtain ⟨C, dx, fvs, hx, kc, hf, r⟩ := r
        exact rv_ins.mpr ⟨a, C, dx, fvs, rfl, nA, hx, kc, hf, RVL.mapM (fun d v d' e h => RV.frzB W p k d v d' e h) q r⟩
      | lck => cases q
theorem RC.cut {n : Nat} {a : Addr} {c : Cell} (hav : ∀ a, avd Z μ a → avd Z μ' a) (hm : ∀ m a, m < n → μ'[m]? = some a → μ[m]? = some a) (o : rbC n c = true) (h : RC K Z μ' H a c) : RC K Z μ H a c := by
  cases c with
  | lst ds => obtain ⟨xs, q, r⟩ := h; exact ⟨xs, q, RVL.cut hav hm _ _ o r⟩
  | dic t ks vs =>
    rcases h with ⟨t, kvs, q, k, r⟩ | ⟨t, kvs, q, k, r⟩
    · exact .inl ⟨t, kvs, q, k, RVL.cut hav hm _ _ o r⟩
    · exact .inr ⟨t, kvs, q, k, RVL.cut hav hm _ _ o r⟩
  | ins c fs vs => obtain ⟨C, dx, fvs, q, k, f, r⟩ := h; exact ⟨C, dx, fvs, q, k, f, RVL.cut hav hm _ _ o r⟩
  | lck => exact h
theorem Wd.cut (W : Wd K Z μ' H S) (p : μ <+: μ') (hr : Z.μ0 <+: μ) (o : (S.take μ.length).all (rbC μ.length) = true) : Wd K Z μ H (S.take μ.length) := by
  have hl : μ.length ≤ S.length := by rw [W.len]; exact p.length_le
  refine ⟨by rw [List.length_take]; omega, W.nd.sublist p.sublist, fun m c a h1 h2 => ?_, W.base, fun a h => W.dis a (p.subset h), W.av, fun a h => W.disA a (p.subset h), hr⟩
  have hm : m < μ.length := (List.getElem?_eq_some_iff.mp h2).1
  have h1' : S[m]? = some c := by rw [List.getElem?_take, if_pos hm] at h1; exact h1
  have h2' : μ'[m]? = some a := by obtain ⟨t, rfl⟩ := p; rw [List.getElem?_append_left hm]; exact h2
  exact RC.cut (fun a z => z.elim .inl fun z => .inr (p.subset z)) (fun m a hm h => pre_lt p hm h) (List.all_eq_true.mp o c (List.mem_of_getElem? h1)) (W.cell m c a h1' h2')
/-- what stands when a def that changes things is done -/
structure Kept (μ : List Addr) (H : Hp) (μ' : List Addr) (H' : Hp) : Prop where
  pre : μ <+: μ'
  keep : ∀ a o, H a = some o → ¬ a ∈ μ → H' a = some o
  new : ∀ a ∈ μ', a ∈ μ ∨ H a = none
theorem Kept.rv (k : Kept μ H μ' H') (W : Wd K Z μ H S) {d : D} {v : V} (h : RVz K Z μ H d v) : RVz K Z μ' H' d v := by
  refine RV.tr (fun a o e hn => ?_) (fun n a e => ?_) d v h
  · have nm : ¬ a ∈ μ := fun z => by
      obtain ⟨o', e', m⟩ := W.mem z
      rw [e] at e'; cases e'
      exact hn m (.inr z)
    refine ⟨k.keep a o e nm, fun m q => ?_⟩
    rcases q with q | q
    · exact hn m (.inl q)
    · rcases k.new a q with z | z
      · exact nm z
      · rw [e] at z; cases z
  · obtain ⟨t, ht⟩ := k.pre
    rw [← ht, List.getElem?_append_left (List.getElem?_eq_some_iff.mp e).1]
    exact e
theorem Kept.rvl (k : Kept μ H μ' H') (W : Wd K Z μ H S) {d : List D} {v : List V} (h : RVLz K Z μ H d v) : RVLz K Z μ' H' d v := by
  refine RVL.tr (fun a o e hn => ?_) (fun n a e => ?_) d v h
  · have nm : ¬ a ∈ μ := fun z => by
      obtain ⟨o', e', m⟩ := W.mem z
      rw [e] at e'; cases e'
      exact hn m (.inr z)
    refine ⟨k.keep a o e nm, fun m q => ?_⟩
    rcases q with q | q
    · exact hn m (.inl q)
    · rcases k.new a q with z | z
      · exact nm z
      · rw [e] at z; cases z
  · obtain ⟨t, ht⟩ := k.pre
    rw [← ht, List.getElem?_append_left (List.getElem?_eq_some_iff.mp e).1]
    exact e
theorem Kept.cut (k : Kept μ H μ' H') : Kept μ H μ H' := ⟨List.prefix_refl _, k.keep, fun a h => .inl h⟩
theorem Rel.kept' {σ σ' : L2.St} {ρ ρ' : Rho} (W : Wd K Z μ H S) (R : Rel K (Z.rb μ H) μ' σ' H' ρ' S') : Kept μ H μ' H' := by
  refine ⟨R.wd.root, R.kept W, fun a h => ?_⟩
  by_cases hm : a ∈ μ
  · exact .inl hm
  · have z : (if a ∈ μ then none else H a) = none := R.wd.dis a h
    rw [if_neg hm] at z
    exact .inr z
/-- the end of a def -/
theorem fin_of {σ' : L2.St} {ρ' : Rho} {d : D} {v : V} (W : Wd K Z μ H S) (R : Rel K (Z.rb μ H) μ' σ' H' ρ' S') (h : RVz K Z μ' H' d v) :
    ∃ μ2, Kept μ H μ2 H' ∧ Wd K Z μ2 H' (finS μ.length d S').2 ∧ RVz K Z μ2 H' (finS μ.length d S').1 v := by
  have k := R.kept' (σ := σ') (ρ := ρ') W
  have W' := (R.ub W).wd
  unfold finS
  split
  · exact ⟨μ', k, W', h⟩
  · cases e : finK μ.length d S' with
    | none => exact ⟨μ', k, W', h⟩
    | some d' =>
      simp only [finK] at e
      split at e
      · rename_i ho
        refine ⟨μ, k.cut, W'.cut k.pre W.root ho, ?_⟩
        split at e
        · rename_i hn
          cases e
          exact RV.nr _ _ hn (RV.tr (fun a o e hn => ⟨e, fun m z => hn m (z.elim .inl fun z => .inr (k.pre.subset z))⟩) (fun _ _ e => e) _ _ h)
        · exact RV.frzB W' k.pre _ _ _ _ e h
      · cases e
end
end DL

set_option maxHeartbeats 4000000
namespace DL
open PySem PySem.Spec L2
abbrev SF := List D → Sto → Option (D × Sto)
def spS (K : PySem.W.Frag) (n : Nat) (g : SF) : Sp := fun vs H Q _ => ∃ (Z : Fr) (μ : List Addr) (S : Sto) (ds : List D), ds.length = n ∧ Wd K Z μ H S ∧ RVLz K Z μ H ds vs ∧ ∃ r S', g ds S = some (r, S') ∧
  ∀ v H' μ', Kept μ H μ' H' → Wd K Z μ' H' S' → RVz K Z μ' H' r v → Q v H'
def runS (body : T) (n : Nat) : SF := fun ds S => (body (startR n ds) S).bind fun r => match r with
  | (.rt d, _, S') => some (finS S.length d S')
  | (.rf es, _, S') => some (finS S.length (.lst es) S')
  | (.nx, _, S') => some (finS S.length .non S')
  | _ => none
theorem rel_startS {K : PySem.W.Frag} {Z : Fr} {μ : List Addr} {H : Hp} {S : Sto} {ds : List D} {vs : List V} {N : List Str} (W : Wd K Z μ H S) (hl : ds.length ≤ N.length) (r : RVLz K Z μ H ds vs) : Rel K Z μ (L2.start N vs) H (startR N.length ds) S := by
  have hv := RVL.length r
  refine ⟨W, ?_, fun i d h => ?_⟩
  · unfold L2.start startR
    simp only [List.length_append, List.length_map, List.length_replicate]
    omega
  · obtain ⟨v, h1, h2⟩ := RVL.get r (startR_get h)
    refine ⟨v, ?_, h2⟩
    unfold L2.start
    have hi := (List.getElem?_eq_some_iff.mp h1).1
    rw [List.getElem?_append_left (by simpa using hi), List.getElem?_map, h1]
    rfl
/-- a method of a class, that reads only; one that changes things -/
def AtM (P : Program) (w : World) (K : PySem.W.Frag) (mg : Str → Option Value) (base : Heap) (c m : Str) (k n : Nat) (g : List D → Option D) : Prop :=
  ∃ f fd ps, (∀ C, ClsAt K c C → Cls K C ∧ Meth K C m f) ∧ Binds K fd ps [] ∧ FnOk P w K mg base CX0 k f fd ps (spD K n g)
def AtS (P : Program) (w : World) (K : PySem.W.Frag) (mg : Str → Option Value) (base : Heap) (c m : Str) (k n : Nat) (g : SF) : Prop :=
  ∃ f fd ps, (∀ C, ClsAt K c C → Cls K C ∧ Meth K C m f) ∧ Binds K fd ps [] ∧ FnOk P w K mg base CX0 k f fd ps (spS K n g)
/-- a class that is made by its __init__ -/
def AtI (P : Program) (w : World) (K : PySem.W.Frag) (mg : Str → Option Value) (base : Heap) (c : Str) (k n : Nat) (g : SF) : Prop :=
  ∃ C f fd ps, ClsAt K c C ∧ mg c = some (.ref C) ∧ Mk K C f ∧ Binds K fd ps [] ∧ FnOk P w K mg base CX0 k f fd ps (spS K n g)
/-- the def stands in the class -/
def TxM (K : PySem.W.Frag) (c m q : Str) (st : Stmt) (ps : List Str) : Prop := ∃ f fd, (∀ C, ClsAt K c C → Cls K C ∧ Meth K C m f) ∧ Fun K m q st f fd ∧ Binds K fd ps []
def TxI (K : PySem.W.Frag) (mg : Str → Option Value) (c q : Str) (st : Stmt) (ps : List Str) : Prop := ∃ C f fd, ClsAt K c C ∧ mg c = some (.ref C) ∧ Mk K C f ∧ Fun K "__init__" q st f fd ∧ Binds K fd ps []
section
variable {P : Program} {w : World} {K : PySem.W.Frag} {mg : Str → Option Value} {base : Heap} {x q c m : Str} {st : Stmt} {N ps : List Str} {k : Nat} {body : T}
theorem fnOS {f : Addr} {fd : FuncData} (F : Fun K x q st f fd) (S : FnScope N ps (defScope st))
    (hb : ∀ (f : Addr) (cdv : Value) (A : Around) (outer : List Env) (s : Shared) (H : Hp) (E : XK), Room k (A.deeper (PyProof.Rows.envOfC q (defScope st) s.heap.objs.size f cdv)) → PSs (cxOf CX0 P w K mg base N q (defScope st) f cdv A outer s H E).nox (defBody st) (tS K body)) :
    FnOk P w K mg base CX0 (k + 1) f fd ps (spS K ps.length (runS body N.length)) := by
  have hlN : ps.length ≤ N.length := by
    have := congrArg List.length S.pre
    rw [List.length_take] at this
    omega
  refine F.ok S (fun vs H Q E h => ?_) fun cdv A outer s H vs Q E hr h => ?_
  · obtain ⟨Z, μ, S, ds, hl, W, r, _⟩ := h
    rw [RVL.length r, hl]
  · obtain ⟨Z, μ, S, ds, hl, W, r, d, S', hg, q⟩ := h
    refine ⟨_, hb f cdv A outer s H E hr, ?_⟩
    simp only [runS, Option.bind_eq_some_iff] at hg
    obtain ⟨⟨fl, ρ', S1⟩, e1, e2⟩ := hg
    have R0 := (rel_startS (N := N) W (by omega) r).rb
    have sl : S.length = μ.length := W.len
    refine ⟨Z.rb μ H, μ, _, S, R0, fl, ρ', S1, e1, ?_⟩
    cases fl with
    | nx =>
      simp only [Option.some.injEq] at e2
      intro σ H' μ' R
      obtain ⟨μ2, k2, w2, r2⟩ := fin_of W R (d := .non) (rv_non.mpr rfl)
      rw [sl] at e2
      rw [e2] at w2 r2
      exact q .non H' μ2 k2 w2 r2
    | bk => simp at e2
    | ct => simp at e2
    | rt e =>
      simp only [Option.some.injEq] at e2
      intro v σ H' μ' R rv
      obtain ⟨μ2, k2, w2, r2⟩ := fin_of W R (d := e) rv
      rw [sl] at e2
      rw [e2] at w2 r2
      exact q v H' μ2 k2 w2 r2
    | rf es =>
      simp only [Option.some.injEq] at e2
      intro a xs σ H' μ' R n na h1 rv
      have rv' : RVz K Z μ' H' (.lst es) (.ref a) := rv_lst.mpr ⟨a, xs, rfl, h1, na, rv.weakO⟩
      obtain ⟨μ2, k2, w2, r2⟩ := fin_of W R (d := .lst es) rv'
      rw [sl] at e2
      rw [e2] at w2 r2
      exact q (.ref a) H' μ2 k2 w2 r2
theorem fnM (h : TxM K c m q st ps) (S : FnScope N ps (defScope st))
    (hb : ∀ (f : Addr) (cdv : Value) (A : Around) (outer : List Env) (s : Shared) (H : Hp) (E : XK), Room k (A.deeper (PyProof.Rows.envOfC q (defScope st) s.heap.objs.size f cdv)) → PSs (cxOf CX0 P w K mg base N q (defScope st) f cdv A outer s H E).nox (defBody st) (tS K body)) :
    AtS P w K mg base c m (k + 1) ps.length (runS body N.length) := by
  obtain ⟨f, fd, hm, F, hbi⟩ := h
  exact ⟨f, fd, ps, hm, hbi, fnOS F S hb⟩
theorem fnI (h : TxI K mg c q st ps) (S : FnScope N ps (defScope st))
    (hb : ∀ (f : Addr) (cdv : Value) (A : Around) (outer : List Env) (s : Shared) (H : Hp) (E : XK), Room k (A.deeper (PyProof.Rows.envOfC q (defScope st) s.heap.objs.size f cdv)) → PSs (cxOf CX0 P w K mg base N q (defScope st) f cdv A outer s H E).nox (defBody st) (tS K body)) :
    AtI P w K mg base c (k + 1) ps.length (runS body N.length) := by
  obtain ⟨C, f, fd, hc, hm, M, F, hbi⟩ := h
  exact ⟨C, f, fd, ps, hc, hm, M, hbi, fnOS F S hb⟩
/-- fnO for any second name -/
theorem fnO2 {f : Addr} {fd : FuncData} (F : Fun K x q st f fd) (S : FnScope N ps (defScope st))
    (hb : ∀ (f : Addr) (cdv : Value) (A : Around) (outer : List Env) (s : Shared) (H : Hp) (E : XK), Room k (A.deeper (PyProof.Rows.envOfC q (defScope st) s.heap.objs.size f cdv)) → PSs (cxOf CX0 P w K mg base N q (defScope st) f cdv A outer s H E).nox (defBody st) (tS K body)) :
    FnOk P w K mg base CX0 (k + 1) f fd ps (spD K ps.length (runD body N.length)) := by
  have hlN : ps.length ≤ N.length := by
    have := congrArg List.length S.pre
    rw [List.length_take] at this
    omega
  refine F.ok S (fun vs H Q E h => ?_) fun cdv A outer s H vs Q E hr h => ?_
  · obtain ⟨A, ds, hl, _, r, _⟩ := h
    rw [RVL.length r, hl]
  · obtain ⟨Av, ds, hl, hA, r, d, hg, q⟩ := h
    refine ⟨_, hb f cdv A outer s H E hr, ?_⟩
    simp only [runD, Option.bind_eq_some_iff] at hg
    obtain ⟨⟨fl, ρ', S'⟩, e1, e2⟩ := hg
    refine ⟨⟨H, Av, [], fun _ => 0⟩, [], _, [], rel_start hA (by omega) r, fl, ρ', S', e1, ?_⟩
    cases fl with
    | nx =>
      simp only [Option.some.injEq] at e2
      subst e2
      exact fun σ H' μ R => q .non H' (fun a o e => R.wd.base a o e) (rv_non.mpr rfl)
    | bk => simp at e2
    | ct => simp at e2
    | rt e => exact fun v σ H' μ R rv => q v H' (fun a o e => R.wd.base a o e) (RV.fz R.wd e2 rv)
    | rf es =>
      simp only [Option.map_eq_some_iff] at e2
      obtain ⟨es', e3, rfl⟩ := e2
      exact fun a xs σ H' μ R n na h1 rv => q _ H' (fun a o e => R.wd.base a o e) (rv_lst.mpr ⟨a, xs, rfl, h1, fun z => na (.inl z), RVL.fzs R.wd e3 rv.weakO⟩)
theorem fnMP (h : TxM K c m q st ps) (S : FnScope N ps (defScope st))
    (hb : ∀ (f : Addr) (cdv : Value) (A : Around) (outer : List Env) (s : Shared) (H : Hp) (E : XK), Room k (A.deeper (PyProof.Rows.envOfC q (defScope st) s.heap.objs.size f cdv)) → PSs (cxOf CX0 P w K mg base N q (defScope st) f cdv A outer s H E).nox (defBody st) (tS K body)) :
    AtM P w K mg base c m (k + 1) ps.length (runD body N.length) := by
  obtain ⟨f, fd, hm, F, hbi⟩ := h
  exact ⟨f, fd, ps, hm, hbi, fnO2 F S hb⟩
end
/-! ### calls -/
abbrev ES := Rho → Sto → Option (D × Sto)
def tE (K : PySem.W.Frag) (f : ES) : TE := fun σ H Q => ∃ Z μ ρ S, Rel K Z μ σ H ρ S ∧ ∃ d S', f ρ S = some (d, S') ∧ ∀ v H' μ', Kept μ H μ' H' → Wd K Z μ' H' S' → RVz K Z μ' H' d v → Q v H'
section
variable {K : PySem.W.Frag} {Z : Fr} {μ μ' μ2 : List Addr} {H H' H2 : Hp} {S S' : Sto} {σ : L2.St} {ρ : Rho}
theorem Kept.same (s : Same H H') (k : Kept μ H' μ2 H2) : Kept μ H μ2 H2 := ⟨k.pre, fun a o e n => k.keep a o (s _ _ e) n, fun a h => (k.new a h).imp id fun z => s.free z⟩
theorem Kept.of (s : Same H H') : Kept μ H μ H' := ⟨List.prefix_refl _, fun a o e _ => s _ _ e, fun a h => .inl h⟩
theorem Kept.more (k : Kept μ H μ2 H') (s : Same H' H2) : Kept μ H μ2 H2 := ⟨k.pre, fun a o e n => s _ _ (k.keep a o e n), k.new⟩
theorem Kept.trans (k1 : Kept μ H μ' H') (k2 : Kept μ' H' μ2 H2) : Kept μ H μ2 H2 := by
  refine ⟨k1.pre.trans k2.pre, fun a o e n => k2.keep a o (k1.keep a o e n) fun z => ?_, fun a h => ?_⟩
  · rcases k1.new a z with z | z
    · exact n z
    · rw [e] at z; cases z
  · rcases k2.new a h with z | z
    · exact k1.new a z
    · by_cases hm : a ∈ μ
      · exact .inl hm
      · right
        cases q : H a with
        | none => rfl
        | some o => rw [k1.keep a o q hm] at z; cases z
theorem Rel.keptTo (R : Rel K Z μ σ H ρ S) (k : Kept μ H μ' H') (W : Wd K Z μ' H' S') : Rel K Z μ' σ H' ρ S' := R.with W fun _ _ h => k.rv R.wd h
end
/-- o.m(..), that changes things -/
def noF (fs : List Str) (m : Str) : Bool := fs.all fun g => !decide (g = m)
def mS (c m : Str) (g : SF) (fo : E) (fs : EL) : ES := fun ρ S => (fo ρ S).bind fun o => (objD S o).bind fun p => if p.1 = c ∧ noF p.2.1 m = true then (fs ρ S).bind fun ds => g (o :: ds) S else none
/-- o.m(..), that reads only -/
def mP (c m : Str) (g : List D → Option D) (fo : E) (fs : EL) : E := fun ρ S => (fo ρ S).bind fun o => (objD S o).bind fun p => if p.1 = c ∧ noF p.2.1 m = true then (fs ρ S).bind fun ds => if nrs (o :: ds) then g (o :: ds) else (fzs S (o :: ds)).bind fun es => (g es).bind fun r => if imm r then some r else none else none
/-- C(..) -/
def mk (c : Str) (g : SF) (fs : EL) : ES := fun ρ S => (fs ρ S).bind fun ds => (g (.ref S.length :: ds) (S ++ [.ins c [] []])).bind fun r => match r with
  | (.non, S') => some (.ref S.length, S')
  | _ => none
/-- C(..), of a thing that is never changed later -/
def mkV (c : Str) (g : SF) (fs : EL) : E := fun ρ S => (fs ρ S).bind fun ds => if nrs ds then (g (.ref 0 :: ds) [.ins c [] []]).bind fun r => match r with
  | (.non, S') => fz S' (.ref 0)
  | _ => none else none
theorem look_no {fvs : List (Str × V)} {m : Str} (h : noF (fvs.map (·.1)) m = true) : fvs.lookup m = none := by
  induction fvs with
  | nil => rfl
  | cons p fvs ih =>
    simp only [noF, List.map_cons, List.all_cons, Bool.and_eq_true, Bool.not_eq_true', decide_eq_false_iff_not] at h
    rw [List.lookup_cons]
    have : (m == p.1) = false := by
      have := h.1
      simp
      exact fun z => this z.symm
    rw [this]
    exact ih h.2
section
variable {X : Cx} {o e : Expr} {es : List Expr} {c m x : Str} {p pos apos : Pos} {k j n : Nat} {fo : E} {fs : EL}
theorem meth_S {g : SF} {C : Addr} {σ : L2.St} {H : Hp} {Q : VK} {E : XK} (hC : ∀ C', ClsAt X.K c C' → C' = C) (hl : ∀ {ρ : Rho} {S : Sto} {ds : List D}, fs ρ S = some ds → ds.length + 1 = n) (h : tE X.K (mS c m g fo fs) σ H Q) : tMeth C m (spS X.K n g) [] E (tD X.K fo) (tA X.K fs) σ H Q := by
  obtain ⟨Z, μ, ρ, S, R, d, S', e, q⟩ := h
  simp only [mS, Option.bind_eq_some_iff] at e
  obtain ⟨od, e1, ⟨c', fs', vs'⟩, e2, e3⟩ := e
  split at e3
  case isFalse => cases e3
  rename_i hc
  obtain ⟨rfl, hno⟩ := hc
  rw [Option.bind_eq_some_iff] at e3
  obtain ⟨ds, e4, e5⟩ := e3
  refine ⟨Z, μ, ρ, S, R, od, e1, fun v H1 s1 r1 => ?_⟩
  obtain ⟨a, C', dx, fvs, rfl, h1, h2, rfl, h4⟩ := obj_of (R.wd.mono s1) r1 e2
  cases hC C' h2
  refine ⟨a, dx, fvs, rfl, h1, look_no hno, Z, μ, ρ, S, R.mono s1, ds, e4, fun vs H2 s2 r2 => ?_⟩
  simp only [List.append_nil]
  exact ⟨Z, μ, S, od :: ds, by simpa using hl e4, (R.wd.mono s1).mono s2, RVL.cons' (RV.mono s2 r1) r2, d, S', e5, fun v H' μ' k w r => q v H' μ' (k.same (s1.trans s2)) w r⟩
theorem cls_one {K : PySem.W.Frag} {C C' : Addr} (h1 : ClsAt K c C) (h2 : ClsAt K c C') : C' = C := by
  unfold ClsAt at h1 h2
  rw [h1] at h2
  cases h2; rfl
theorem clsAt_dec {K : PySem.W.Frag} : (∃ C, ClsAt K c C) ∨ ∀ C, ¬ ClsAt K c C := by
  by_cases h : ∃ C, ClsAt K c C
  · exact .inl h
  · exact .inr fun C z => h ⟨C, z⟩
/-- the class's place -/
def ClsIs (K : PySem.W.Frag) (c : Str) : Prop := ∃ C, ClsAt K c C
theorem d_methS {pl : Sem Bool} {g : SF} (hi : ClsIs X.K c) (h : AtS X.prog X.w X.K X.mg X.base c m k n g) (hr : Room j X.A) (hk : k ≤ j) (ho : PE X o (tD X.K fo)) (ha : PA X (e :: es) (tA X.K fs)) (hl : ∀ {ρ : Rho} {S : Sto} {ds : List D}, fs ρ S = some ds → ds.length + 1 = n)
    (hst : starEach (e :: es) X.env = (false, eval e X.env) :: starEach es X.env := by rfl) (hpl : (backTo pos (starEach es X.env)).any (·.1) = false := by rfl)
    (ht : eval (.Call (.Attribute o m apos) (e :: es) [] pos) X.env = (do
      let ov ← eval o X.env
      standAt apos.atName
      let (f, first) ← holding [ov] (getMethod ov m pl)
      callWith pos f first (backTo pos (starEach (e :: es) X.env)) (backToKw pos (keywordEach [] X.env))) := by rfl) :
    PE X (.Call (.Attribute o m apos) (e :: es) [] pos) (tE X.K (mS c m g fo fs)) := by
  obtain ⟨C, hC⟩ := hi
  obtain ⟨f, fd, ps, hm, hb, F⟩ := h
  obtain ⟨hc, hme⟩ := hm C hC
  exact pe_imp (pe_meth ho hc hme F (hr.mono hk) hb .nil pass0 ha hst hpl ht) fun σ H Q h => meth_S (fun C' h' => cls_one hC h') hl h
theorem d_methS0 {pl : Sem Bool} {g : SF} (hi : ClsIs X.K c) (h : AtS X.prog X.w X.K X.mg X.base c m k 1 g) (hr : Room j X.A) (hk : k ≤ j) (ho : PE X o (tD X.K fo))
    (ht : eval (.Call (.Attribute o m apos) [] [] pos) X.env = (do
      let ov ← eval o X.env
      standAt apos.atName
      let (f, first) ← holding [ov] (getMethod ov m pl)
      callWith pos f first (backTo pos (starEach [] X.env)) (backToKw pos (keywordEach [] X.env))) := by rfl) :
    PE X (.Call (.Attribute o m apos) [] [] pos) (tE X.K (mS c m g fo aNil)) := by
  obtain ⟨C, hC⟩ := hi
  obtain ⟨f, fd, ps, hm, hb, F⟩ := h
  obtain ⟨hc, hme⟩ := hm C hC
  refine pe_imp (pe_meth0 ho hc hme F (hr.mono hk) hb .nil pass0 ht) fun σ H Q h => ?_
  have := meth_S (C := C) (E := fun _ _ _ => False) (fun C' h' => cls_one hC h') (fun {ρ S ds} (e : aNil ρ S = some ds) => by simp only [aNil, Option.some.injEq] at e; subst e; rfl) h
  obtain ⟨Z, μ, ρ, S, R, d, e, q⟩ := this
  refine ⟨Z, μ, ρ, S, R, d, e, fun v H' s r => ?_⟩
  obtain ⟨a, dx, fvs, h1, h2, h3, Z', μ', ρ', S', R', ds, e', q'⟩ := q v H' s r
  simp only [aNil, Option.some.injEq] at e'
  subst e'
  exact ⟨a, dx, fvs, h1, h2, h3, q' [] H' (Same.refl H') RVL.nil'⟩
theorem meth_P {g : List D → Option D} {C : Addr} {σ : L2.St} {H : Hp} {Q : VK} {E : XK} (hC : ∀ C', ClsAt X.K c C' → C' = C) (hl : ∀ {ρ : Rho} {S : Sto} {ds : List D}, fs ρ S = some ds → ds.length + 1 = n) (h : tD X.K (mP c m g fo fs) σ H Q) : tMeth C m (spD X.K n g) [] E (tD X.K fo) (tA X.K fs) σ H Q := by
  obtain ⟨Z, μ, ρ, S, R, d, e, q⟩ := h
  simp only [mP, Option.bind_eq_some_iff] at e
  obtain ⟨od, e1, ⟨c', fs', vs'⟩, e2, e3⟩ := e
  split at e3
  case isFalse => cases e3
  rename_i hc
  obtain ⟨rfl, hno⟩ := hc
  rw [Option.bind_eq_some_iff] at e3
  obtain ⟨ds, e4, e5⟩ := e3
  refine ⟨Z, μ, ρ, S, R, od, e1, fun v H1 s1 r1 => ?_⟩
  obtain ⟨a, C', dx, fvs, rfl, h1, h2, rfl, h4⟩ := obj_of (R.wd.mono s1) r1 e2
  cases hC C' h2
  refine ⟨a, dx, fvs, rfl, h1, look_no hno, Z, μ, ρ, S, R.mono s1, ds, e4, fun vs H2 s2 r2 => ?_⟩
  simp only [List.append_nil]
  exact sp_of ((R.wd.mono s1).mono s2) (by simpa using hl e4) (RVL.cons' (RV.mono s2 r1) r2) e5 fun w H' s3 r3 => q w H' ((s1.trans s2).trans s3) r3
theorem d_methP {pl : Sem Bool} {g : List D → Option D} (hi : ClsIs X.K c) (h : AtM X.prog X.w X.K X.mg X.base c m k n g) (hr : Room j X.A) (hk : k ≤ j) (ho : PE X o (tD X.K fo)) (ha : PA X (e :: es) (tA X.K fs)) (hl : ∀ {ρ : Rho} {S : Sto} {ds : List D}, fs ρ S = some ds → ds.length + 1 = n)
    (hst : starEach (e :: es) X.env = (false, eval e X.env) :: starEach es X.env := by rfl) (hpl : (backTo pos (starEach es X.env)).any (·.1) = false := by rfl)
    (ht : eval (.Call (.Attribute o m apos) (e :: es) [] pos) X.env = (do
      let ov ← eval o X.env
      standAt apos.atName
      let (f, first) ← holding [ov] (getMethod ov m pl)
      callWith pos f first (backTo pos (starEach (e :: es) X.env)) (backToKw pos (keywordEach [] X.env))) := by rfl) :
    PE X (.Call (.Attribute o m apos) (e :: es) [] pos) (tD X.K (mP c m g fo fs)) := by
  obtain ⟨C, hC⟩ := hi
  obtain ⟨f, fd, ps, hm, hb, F⟩ := h
  obtain ⟨hc, hme⟩ := hm C hC
  exact pe_imp (pe_meth ho hc hme F (hr.mono hk) hb .nil pass0 ha hst hpl ht) fun σ H Q h => meth_P (fun C' h' => cls_one hC h') hl h
theorem d_methP0 {pl : Sem Bool} {g : List D → Option D} (hi : ClsIs X.K c) (h : AtM X.prog X.w X.K X.mg X.base c m k 1 g) (hr : Room j X.A) (hk : k ≤ j) (ho : PE X o (tD X.K fo))
    (ht : eval (.Call (.Attribute o m apos) [] [] pos) X.env = (do
      let ov ← eval o X.env
      standAt apos.atName
      let (f, first) ← holding [ov] (getMethod ov m pl)
      callWith pos f first (backTo pos (starEach [] X.env)) (backToKw pos (keywordEach [] X.env))) := by rfl) :
    PE X (.Call (.Attribute o m apos) [] [] pos) (tD X.K (mP c m g fo aNil)) := by
  obtain ⟨C, hC⟩ := hi
  obtain ⟨f, fd, ps, hm, hb, F⟩ := h
  obtain ⟨hc, hme⟩ := hm C hC
  refine pe_imp (pe_meth0 ho hc hme F (hr.mono hk) hb .nil pass0 ht) fun σ H Q h => ?_
  have := meth_P (C := C) (E := fun _ _ _ => False) (fun C' h' => cls_one hC h') (fun {ρ S ds} (e : aNil ρ S = some ds) => by simp only [aNil, Option.some.injEq] at e; subst e; rfl) h
  obtain ⟨Z, μ, ρ, S, R, d, e, q⟩ := this
  refine ⟨Z, μ, ρ, S, R, d, e, fun v H' s r => ?_⟩
  obtain ⟨a, dx, fvs, h1, h2, h3, Z', μ', ρ', S', R', ds, e', q'⟩ := q v H' s r
  simp only [aNil, Option.some.injEq] at e'
  subst e'
  exact ⟨a, dx, fvs, h1, h2, h3, q' [] H' (Same.refl H') RVL.nil'⟩
/-! making -/
theorem d_mk {g : SF} (h : AtI X.prog X.w X.K X.mg X.base c k n g) (hr : Room j X.A) (hk : k + 1 ≤ j) (hg : Gl X c) (ha : PA X (e :: es) (tA X.K fs)) (hl : ∀ {ρ : Rho} {S : Sto} {ds : List D}, fs ρ S = some ds → ds.length + 1 = n)
    (hdb : (c == ("__debug__" : Str)) = false := by decide) (he : starEach (e :: es) X.env = (false, eval e X.env) :: starEach es X.env := by rfl) (hpl : (backTo pos (starEach es X.env)).any (·.1) = false := by rfl) :
    PE X (.Call (.Name c p) (e :: es) [] pos) (tE X.K (mk c g fs)) := by
  obtain ⟨C, f, fd, ps, hC, hm, M, hb, F⟩ := h
  refine pe_imp (pe_make M F (hr.mono hk) hg hm hb .nil pass0 ha hdb he hpl) fun σ H Q ⟨Z, μ, ρ, S, R, d, S', e, q⟩ => ?_
  simp only [mk, Option.bind_eq_some_iff] at e
  obtain ⟨ds, e1, ⟨r, S2⟩, e2, e3⟩ := e
  split at e3
  · rename_i S3 heq
    simp only [Prod.mk.injEq] at heq
    obtain ⟨rfl, rfl⟩ := heq
    simp only [Option.some.injEq, Prod.mk.injEq] at e3
    obtain ⟨rfl, rfl⟩ := e3
    refine ⟨Z, μ, ρ, S, R, ds, e1, fun vs H1 s1 r1 => fun x dx nx ndx nex => ?_⟩
    have s2 : Same H1 (upd (upd H1 dx (.own x)) x (.ins C dx [])) := fun b o z => by rw [upd_ne (ne_of_none z nx), upd_ne (ne_of_none z ndx)]; exact z
    have R2 := (R.mono s1).alloc (a := x) (c := .ins c [] []) s2 nx ⟨C, dx, [], upd_same, hC, rfl, RVL.nil'⟩
    simp only [List.append_nil]
    have rx : RVz X.K Z (μ ++ [x]) (upd (upd H1 dx (.own x)) x (.ins C dx [])) (.ref S.length) (.ref x) := rv_first R.wd
    refine ⟨Z, μ ++ [x], S ++ [.ins c [] []], .ref S.length :: ds, by simpa using hl e1, R2.wd, RVL.cons' rx (RVL.alloc s2 nx r1), .non, _, e2, fun v H' μ' k w r => ⟨rv_non.mp r, ?_⟩⟩
    have k' : Kept μ H μ' H' := by
      refine ⟨(List.prefix_append _ _).trans k.pre, fun a o e' n' => k.keep a o (s2 _ _ (s1 _ _ e')) fun z => ?_, fun a h' => ?_⟩
      · rcases List.mem_append.mp z with z | z
        · exact n' z
        · rw [List.mem_singleton.mp z] at e'
          rw [s1 _ _ e'] at nx; cases nx
      · rcases k.new a h' with z | z
        · rcases List.mem_append.mp z with z | z
          · exact .inl z
          · rw [List.mem_singleton.mp z]; exact .inr (s1.free nx)
        · exact .inr (s1.free (s2.free z))
    exact q _ H' μ' k' w (k.rv R2.wd rx)
  · cases e3
theorem d_mkV {g : SF} (h : AtI X.prog X.w X.K X.mg X.base c k n g) (hr : Room j X.A) (hk : k + 1 ≤ j) (hg : Gl X c) (ha : PA X (e :: es) (tA X.K fs)) (hl : ∀ {ρ : Rho} {S : Sto} {ds : List D}, fs ρ S = some ds → ds.length + 1 = n)
    (hdb : (c == ("__debug__" : Str)) = false := by decide) (he : starEach (e :: es) X.env = (false, eval e X.env) :: starEach es X.env := by rfl) (hpl : (backTo pos (starEach es X.env)).any (·.1) = false := by rfl) :
    PE X (.Call (.Name c p) (e :: es) [] pos) (tD X.K (mkV c g fs)) := by
  obtain ⟨C, f, fd, ps, hC, hm, M, hb, F⟩ := h
  refine pe_imp (pe_make M F (hr.mono hk) hg hm hb .nil pass0 ha hdb he hpl) fun σ H Q ⟨Z, μ, ρ, S, R, d, e, q⟩ => ?_
  simp only [mkV, Option.bind_eq_some_iff] at e
  obtain ⟨ds, e1, e⟩ := e
  split at e
  case isFalse => cases e
  rename_i hn
  rw [Option.bind_eq_some_iff] at e
  obtain ⟨⟨r, S2⟩, e2, e3⟩ := e
  split at e3
  · rename_i S3 heq
    simp only [Prod.mk.injEq] at heq
    obtain ⟨rfl, rfl⟩ := heq
    refine ⟨Z, μ, ρ, S, R, ds, e1, fun vs H1 s1 r1 => fun x dx nx ndx nex => ?_⟩
    have s2 : Same H1 (upd (upd H1 dx (.own x)) x (.ins C dx [])) := fun b o z => by rw [upd_ne (ne_of_none z nx), upd_ne (ne_of_none z ndx)]; exact z
    have W1 := R.wd.mono s1
    have hA : ∀ a, avd Z μ a → upd (upd H1 dx (.own x)) x (.ins C dx []) a ≠ none := fun a h z => W1.fresh (s2.free z) h
    have W2 : Wd X.K ⟨H1, avd Z μ, [], fun _ => 0⟩ [x] (upd (upd H1 dx (.own x)) x (.ins C dx [])) [.ins c [] []] := by
      refine ⟨rfl, by simp, fun n' c' a h1 h2 => ?_, fun a o e => s2 a o e, fun a h => ?_, hA, fun a h => ?_, List.nil_prefix⟩
      · cases n' with
        | zero =>
          simp at h1 h2
          subst h1; subst h2
          exact ⟨C, dx, [], upd_same, hC, rfl, RVL.nil'⟩
        | succ n' => simp at h1
      · rw [List.mem_singleton.mp h]; exact nx
      · rw [List.mem_singleton.mp h]; exact W1.fresh nx
    have tr : RVLz X.K ⟨H1, avd Z μ, [], fun _ => 0⟩ [x] (upd (upd H1 dx (.own x)) x (.ins C dx [])) ds vs := RVL.nr (μ := μ) _ _ hn (RVL.tr (fun a o e hn => ⟨s2 _ _ e, fun m z => by
      rcases z with z | z
      · exact hn m z
      · rw [List.mem_singleton.mp z] at e
        rw [nx] at e; cases e⟩) (fun _ _ e => e) _ _ r1)
    simp only [List.append_nil]
    refine ⟨_, [x], [.ins c [] []], .ref 0 :: ds, by simpa using hl e1, W2, RVL.cons' (rv_ref.mpr ⟨x, rfl, rfl⟩) tr, .non, _, e2, fun v H' μ' k w r => ⟨rv_non.mp r, ?_⟩⟩
    have s3 : Same H1 H' := fun a o e => k.keep a o (s2 _ _ e) fun z => by
      rw [List.mem_singleton.mp z] at e
      rw [nx] at e; cases e
    refine q _ H' (s1.trans s3) ?_
    have rx : RVz X.K ⟨H1, avd Z μ, [], fun _ => 0⟩ μ' H' (.ref 0) (.ref x) := k.rv W2 (rv_ref.mpr ⟨x, rfl, rfl⟩)
    exact RV.toMu (RV.fz w e3 rx)
  · cases e3
end
end DL

set_option maxHeartbeats 4000000
namespace DL
open PySem PySem.Spec L2
/-! ### statements whose expression changes things -/
def sSetS (i : Nat) (f : ES) : T := fun ρ S => (f ρ S).map fun r => (.nx, ρ.set i (some r.1), r.2)
def sDropS (f : ES) : T := fun ρ S => (f ρ S).map fun r => (.nx, ρ, r.2)
def sRetS (f : ES) : T := fun ρ S => (f ρ S).map fun r => (.rt r.1, ρ, r.2)
def esE (f : E) : ES := fun ρ S => (f ρ S).map fun d => (d, S)
def e2S (g : Sto → D → D → Option D) (a b : ES) : ES := fun ρ S => (a ρ S).bind fun x => (b ρ x.2).bind fun y => (g y.2 x.1 y.1).map fun d => (d, y.2)
abbrev EBS := Rho → Sto → Option (Bool × Sto)
def bS (f : ES) : EBS := fun ρ S => (f ρ S).bind fun r => match r.1 with
  | .bl b => some (b, r.2)
  | _ => none
def bNotS (f : EBS) : EBS := fun ρ S => (f ρ S).map fun r => (!r.1, r.2)
def tTE (K : PySem.W.Frag) (f : EBS) : TT := fun σ H Q => ∃ Z μ ρ S, Rel K Z μ σ H ρ S ∧ ∃ b S', f ρ S = some (b, S') ∧ ∀ H' μ', Kept μ H μ' H' → Wd K Z μ' H' S' → Q b H'
def sIfS (t : EBS) (f g : T) : T := fun ρ S => (t ρ S).bind fun r => if r.1 then f ρ r.2 else g ρ r.2
def whileNS (t : EBS) (body : T) : Nat → T
  | 0, _, _ => none
  | n + 1, ρ, S => (t ρ S).bind fun b => if b.1 then (body ρ b.2).bind fun r => match r with
      | (.nx, ρ', S') => whileNS t body n ρ' S'
      | (.ct, ρ', S') => whileNS t body n ρ' S'
      | (.bk, ρ', S') => some (.nx, ρ', S')
      | r => some r
    else some (.nx, ρ, b.2)
open Classical in
noncomputable def sWhileS (t : EBS) (body : T) : T := fun ρ S => if h : ∃ n r, whileNS t body n ρ S = some r then some h.choose_spec.choose else none
theorem whileNS_mono {t : EBS} {body : T} : ∀ {n m : Nat} {ρ : Rho} {S : Sto} {r : Fl × Rho × Sto}, n ≤ m → whileNS t body n ρ S = some r → whileNS t body m ρ S = some r
  | 0, _, _, _, _, _, h => by simp [whileNS] at h
  | n + 1, 0, _, _, _, hm, _ => by omega
  | n + 1, m + 1, ρ, S, r, hm, h => by
    simp only [whileNS, Option.bind_eq_some_iff] at h ⊢
    obtain ⟨b, e1, h⟩ := h
    refine ⟨b, e1, ?_⟩
    split at h
    · rename_i hb
      rw [if_pos hb]
      rw [Option.bind_eq_some_iff] at h ⊢
      obtain ⟨⟨fl, ρ', S'⟩, e2, h⟩ := h
      refine ⟨(fl, ρ', S'), e2, ?_⟩
      cases fl with
      | nx => exact whileNS_mono (by omega) h
      | ct => exact whileNS_mono (by omega) h
      | bk => exact h
      | rt d => exact h
      | rf d => exact h
    · rename_i hb
      rw [if_neg hb]
      exact h
theorem sWhileS_of {t : EBS} {body : T} {n : Nat} {ρ : Rho} {S : Sto} {r : Fl × Rho × Sto} (h : whileNS t body n ρ S = some r) : sWhileS t body ρ S = some r := by
  have hx : ∃ n r, whileNS t body n ρ S = some r := ⟨n, r, h⟩
  unfold sWhileS
  rw [dif_pos hx]
  have h2 := hx.choose_spec.choose_spec
  have a := whileNS_mono (Nat.le_max_left n hx.choose) h
  have b := whileNS_mono (Nat.le_max_right n hx.choose) h2
  rw [a] at b
  exact b.symm
theorem of_sWhileS {t : EBS} {body : T} {ρ : Rho} {S : Sto} {r : Fl × Rho × Sto} (h : sWhileS t body ρ S = some r) : ∃ n, whileNS t body n ρ S = some r := by
  unfold sWhileS at h
  split at h
  · rename_i hx
    simp only [Option.some.injEq] at h
    rw [← h]
    exact ⟨_, hx.choose_spec.choose_spec⟩
  · cases h
section
variable {X : Cx} {o e e' c : Expr} {pos : Pos} {f g : T} {fe : ES} {fa : E} {t : EBS} {body : List Stmt}
theorem d_esE (h : PE X e (tD X.K fa)) : PE X e (tE X.K (esE fa)) := pe_imp h fun σ H Q ⟨Z, μ, ρ, S, R, d, S', e, q⟩ => by
  simp only [esE, Option.map_eq_some_iff, Prod.mk.injEq] at e
  obtain ⟨d', e1, rfl, rfl⟩ := e
  exact ⟨Z, μ, ρ, S, R, d', e1, fun v H' s r => q v H' μ (Kept.of s) (R.wd.mono s) r⟩
theorem d_opS {r : R2} {g : Sto → D → D → Option D} {op : Operator} {a b : Expr} {fa fb : ES} (ho : OpR X (binaryOp op) r) (hd : OpD X.K r g) (ha : PE X a (tE X.K fa)) (hb : PE X b (tE X.K fb)) : PE X (.BinOp a op b pos) (tE X.K (e2S g fa fb)) := pe_imp (pe_op ho ha hb) fun σ H Q ⟨Z, μ, ρ, S, R, d, S', e, q⟩ => by
  simp only [e2S, Option.bind_eq_some_iff, Option.map_eq_some_iff, Prod.mk.injEq] at e
  obtain ⟨⟨x, S1⟩, e1, ⟨y, S2⟩, e2, d', e3, rfl, rfl⟩ := e
  refine ⟨Z, μ, ρ, S, R, x, S1, e1, fun v H1 μ1 k1 w1 r1 => ?_⟩
  have R1 := R.keptTo k1 w1
  refine ⟨Z, μ1, ρ, S1, R1, y, S2, e2, fun u H2 μ2 k2 w2 r2 => ?_⟩
  exact hd _ _ _ _ _ _ _ _ _ _ w2 (k2.rv w1 r1) r2 e3 fun w H3 s3 r3 => q w H3 μ2 ((k1.trans k2).more s3) (w2.mono s3) r3
section
variable {i : Nat} {x : Str} {pos' : Pos}
theorem ds_setS (hN : X.N.Nodup) (hi : X.N[i]? = some x) (hx : Loc X.env.scope x) (he : PE X e (tE X.K fe)) (hs : swapsWith e (some (.Name x pos')) pos.line X.env = pure false := by rfl) (hf : X.fn x = true ∨ X.env.scope.names.lookup x = some .local := by first | exact .inl rfl | exact .inr rfl | assumption) :
    PS X (.Assign [.Name x pos'] e pos) (tS X.K (sSetS i fe)) :=
  ps_imp (ps_set hN hi hx he hs hf) fun De σ H ⟨Z, μ, ρ, S, R, fl, ρ', S', e, q⟩ => by
    simp only [sSetS, Option.map_eq_some_iff, Prod.mk.injEq] at e
    obtain ⟨⟨d, S1⟩, e1, rfl, rfl, rfl⟩ := e
    exact ⟨Z, μ, ρ, S, R, d, S1, e1, fun v H' μ' k w r => q _ H' μ' ((R.keptTo k w).set r)⟩
end
theorem ds_exprS (he : PE X e (tE X.K fe)) (hs : swapsWith e none pos.line X.env = pure false := by rfl) : PS X (.Expr e pos) (tS X.K (sDropS fe)) :=
  ps_imp (ps_expr he hs) fun De σ H ⟨Z, μ, ρ, S, R, fl, ρ', S', e, q⟩ => by
    simp only [sDropS, Option.map_eq_some_iff, Prod.mk.injEq] at e
    obtain ⟨⟨d, S1⟩, e1, rfl, rfl, rfl⟩ := e
    exact ⟨Z, μ, ρ, S, R, d, S1, e1, fun v H' μ' k w r => q σ H' μ' (R.keptTo k w)⟩
theorem ds_retS (he : PE X e (tE X.K fe)) : PS X (.Return (some e) pos) (tS X.K (sRetS fe)) :=
  ps_imp (ps_ret he) fun De σ H ⟨Z, μ, ρ, S, R, fl, ρ', S', e, q⟩ => by
    simp only [sRetS, Option.map_eq_some_iff, Prod.mk.injEq] at e
    obtain ⟨⟨d, S1⟩, e1, rfl, rfl, rfl⟩ := e
    exact ⟨Z, μ, ρ, S, R, d, S1, e1, fun v H' μ' k w r => q v σ H' μ' (R.keptTo k w) r⟩
theorem dt_S (he : PE X e (tE X.K fe)) (hh : ∀ whole, isTrue e X.env whole = (do let v ← whole; standAt e.pos; holding [v] (truthy v)) := by intro _; rfl) : PT X e (tTE X.K (bS fe)) :=
  pt_imp (pt_val he hh) fun σ H Q ⟨Z, μ, ρ, S, R, b, S', e, q⟩ => by
    simp only [bS, Option.bind_eq_some_iff] at e
    obtain ⟨⟨d, S1⟩, e1, e2⟩ := e
    cases d with
    | bl b' =>
      simp only [Option.some.injEq, Prod.mk.injEq] at e2
      obtain ⟨rfl, rfl⟩ := e2
      exact ⟨Z, μ, ρ, S, R, _, S1, e1, fun v H' μ' k w r => ⟨b', rv_bl.mp r, q H' μ' k w⟩⟩
    | _ => simp at e2
theorem dt_notS (h : PT X e (tTE X.K t)) : PT X (.UnaryOp .Not e pos) (tTE X.K (bNotS t)) :=
  pt_imp (pt_not h) fun σ H Q ⟨Z, μ, ρ, S, R, b, S', e, q⟩ => by
    simp only [bNotS, Option.map_eq_some_iff, Prod.mk.injEq] at e
    obtain ⟨⟨d, S1⟩, e1, rfl, rfl⟩ := e
    exact ⟨Z, μ, ρ, S, R, d, S1, e1, q⟩
theorem ds_ifS {a b : List Stmt} (hc : PT X c (tTE X.K t)) (ha : PSs X a (tS X.K f)) (hb : PSs X b (tS X.K g)) : PS X (.If c a b pos) (tS X.K (sIfS t f g)) :=
  ps_imp (ps_if hc ha hb) fun De σ H ⟨Z, μ, ρ, S, R, fl, ρ', S', e, q⟩ => by
    simp only [sIfS, Option.bind_eq_some_iff] at e
    obtain ⟨⟨k, S1⟩, e1, e2⟩ := e
    refine ⟨Z, μ, ρ, S, R, k, S1, e1, fun H' μ' kp w => ?_⟩
    cases k with
    | true => rw [if_pos rfl] at e2; exact iteT ⟨Z, μ', ρ, S1, R.keptTo kp w, fl, ρ', S', e2, q⟩
    | false => rw [if_neg Bool.false_ne_true] at e2; exact iteF ⟨Z, μ', ρ, S1, R.keptTo kp w, fl, ρ', S', e2, q⟩
theorem ds_whileS (hp : PassesOwn (model X.prog X.w) X.A X.env X.xe) (hc : PT X c (tTE X.K t)) (hb : PSs X body (tS X.K f)) : PS X (.While c body [] pos) (tS X.K (sWhileS t f)) :=
  ps_imp (ps_while hp hc hb) fun De σ H ⟨Z, μ, ρ, S, R, fl', ρ', S', e, q⟩ => by
    obtain ⟨n, e⟩ := of_sWhileS e
    refine ⟨fun m σ' H' => ∃ μ2 ρ2 S2, Rel X.K Z μ2 σ' H' ρ2 S2 ∧ whileNS t f m ρ2 S2 = some (fl', ρ', S'), ⟨n, μ, ρ, S, R, e⟩, ?_⟩
    rintro m σ2 H2 ⟨μ2, ρ2, S2, R2, el⟩
    cases m with
    | zero => simp [whileNS] at el
    | succ m =>
      simp only [whileNS, Option.bind_eq_some_iff] at el
      obtain ⟨⟨b, S3⟩, et, el⟩ := el
      refine ⟨Z, μ2, ρ2, S2, R2, b, S3, et, fun H3 μ3 k3 w3 => ?_⟩
      have R3 := R2.keptTo k3 w3
      cases b with
      | false =>
        rw [if_neg Bool.false_ne_true] at el
        simp only [Option.some.injEq, Prod.mk.injEq] at el
        obtain ⟨rfl, rfl, rfl⟩ := el
        exact iteF (q σ2 H3 μ3 R3)
      | true =>
        rw [if_pos rfl] at el
        rw [Option.bind_eq_some_iff] at el
        obtain ⟨⟨fl3, ρ4, S4⟩, eb, el⟩ := el
        refine iteT ⟨_, fun σ' H' h => ⟨m, Nat.lt_succ_self m, h⟩, Z, μ3, ρ2, S3, R3, fl3, ρ4, S4, eb, ?_⟩
        refine cont_loop (fun r hr => ?_) (fun hf σ4 H4 μ4 R4 => ?_)
        · cases fl3 with
          | nx => cases hr
          | ct => cases hr
          | bk =>
            simp only [Option.some.injEq, Prod.mk.injEq] at el hr
            obtain ⟨rfl, rfl, rfl⟩ := el
            subst hr; exact q
          | rt d =>
            simp only [Option.some.injEq, Prod.mk.injEq] at el hr
            obtain ⟨rfl, rfl, rfl⟩ := el
            subst hr; exact q
          | rf d =>
            simp only [Option.some.injEq, Prod.mk.injEq] at el hr
            obtain ⟨rfl, rfl, rfl⟩ := el
            subst hr; exact q
        · rcases hf with rfl | rfl
          · exact ⟨μ4, ρ4, S4, R4, el⟩
          · exact ⟨μ4, ρ4, S4, R4, el⟩
end
/-! xs.extend(e) -/
def sExtS (fo : E) (f : ES) : T := fun ρ S => (fo ρ S).bind fun o => (f ρ S).bind fun d => (lstD d.2 d.1).bind fun es => (cellD d.2 o).bind fun c => if (cellD S o).isSome && small (c.2.length + es.length) then some (.nx, ρ, d.2.set c.1 (.lst (c.2 ++ es))) else none
section
variable {X : Cx} {o e : Expr} {pos cpos apos : Pos} {fo : E} {fa : ES}
theorem ds_extendS (ho : PE X o (tD X.K fo)) (he : PE X e (tE X.K fa)) (hbase : attributeBase o "extend" X.env (eval o X.env) = eval o X.env := by rfl)
    (hfew : ((backTo cpos (starEach [e] X.env)).all (fun x => !x.1) && (backToKw cpos (keywordEach [] X.env)).all (fun x => x.1.isSome)
      && decide ([e].length + ([] : List Keyword).length + (if ([] : List Keyword).isEmpty then 0 else 1) < 30)) = true := by rfl)
    (hline : (apos.endLine == cpos.line) = true := by rfl) (hs : starEach [e] X.env = (false, eval e X.env) :: starEach [] X.env := by rfl) (hplain : (backTo cpos (starEach [] X.env)).any (·.1) = false := by rfl) (hsw : swapsWith (.Call (.Attribute o "extend" apos) [e] [] cpos) none pos.line X.env = pure false := by rfl) :
    PS X (.Expr (.Call (.Attribute o "extend" apos) [e] [] cpos) pos) (tS X.K (sExtS fo fa)) :=
  ps_imp (ps_expr (pe_bm PySem.F.plainAttrs_list PySem.F.slot_list_extend PySem.F.type_list_extend mt_extend ho (pa_cons he pa_nil hs) hbase hfew hline hs hplain) hsw) fun De σ H ⟨Z, μ, ρ, S, R, fl, ρ', S', e, q⟩ => by
    simp only [sExtS, Option.bind_eq_some_iff] at e
    obtain ⟨od, e1, ⟨d, S2⟩, e2, es, e5, ⟨n, ds⟩, e3, e4⟩ := e
    split at e4
    case isFalse => cases e4
    rename_i hsm
    simp only [Option.some.injEq, Prod.mk.injEq] at e4
    obtain ⟨rfl, rfl, rfl⟩ := e4
    rw [Bool.and_eq_true] at hsm
    obtain ⟨hsome, hsm⟩ := hsm
    obtain ⟨⟨n0, ds0⟩, e0⟩ := Option.isSome_iff_exists.mp hsome
    refine ⟨Z, μ, ρ, S, R, od, e1, fun v H1 s1 r1 => ?_⟩
    obtain ⟨a, xs, rfl, hn, h1, hr, _⟩ := cell_of (R.wd.mono s1) r1 e0
    refine ⟨tyV_lst h1, Z, μ, ρ, S, R.mono s1, d, S2, e2, fun u H2 μ2 k2 w2 r2 => ?_⟩
    obtain ⟨b, xs', eb, hn', h1', hr', _⟩ := cell_of w2 (k2.rv (R.wd.mono s1) r1) e3
    cases eb
    obtain ⟨b, zs, rfl, h3, h4⟩ := lst_of w2 r2 e5
    refine ⟨a, b, xs', zs, rfl, rfl, h1', h3, by rw [RVL.length hr', RVL.length h4]; exact small_le hsm, ?_⟩
    exact q _ _ μ2 (((R.mono s1).keptTo k2 w2).wrL hn' (RVL.app hr' h4))
end
end DL

set_option maxHeartbeats 4000000
namespace DL
open PySem PySem.Spec L2
/-! ### methods that answer with a new list -/
def AtMF (P : Program) (w : World) (K : PySem.W.Frag) (mg : Str → Option Value) (base : Heap) (c m : Str) (k n : Nat) (g : List D → Option (List D)) : Prop :=
  ∃ f fd ps, (∀ C, ClsAt K c C → Cls K C ∧ Meth K C m f) ∧ Binds K fd ps [] ∧ FnOk P w K mg base CX0 k f fd ps (spF K n g)
section
variable {P : Program} {w : World} {K : PySem.W.Frag} {mg : Str → Option Value} {base : Heap} {x q c m : Str} {st : Stmt} {N ps : List Str} {k : Nat} {body : T}
theorem fnOF2 {f : Addr} {fd : FuncData} (F : Fun K x q st f fd) (S : FnScope N ps (defScope st))
    (hb : ∀ (f : Addr) (cdv : Value) (A : Around) (outer : List Env) (s : Shared) (H : Hp) (E : XK), Room k (A.deeper (PyProof.Rows.envOfC q (defScope st) s.heap.objs.size f cdv)) → PSs (cxOf CX0 P w K mg base N q (defScope st) f cdv A outer s H E).nox (defBody st) (tS K body)) :
    FnOk P w K mg base CX0 (k + 1) f fd ps (spF K ps.length (runF body N.length)) := by
  have hlN : ps.length ≤ N.length := by
    have := congrArg List.length S.pre
    rw [List.length_take] at this
    omega
  refine F.ok S (fun vs H Q E h => ?_) fun cdv A outer s H vs Q E hr h => ?_
  · obtain ⟨A, ds, hl, _, r, _⟩ := h
    rw [RVL.length r, hl]
  · obtain ⟨Av, ds, hl, hA, r, d, hg, q⟩ := h
    refine ⟨_, hb f cdv A outer s H E hr, ?_⟩
    simp only [runF, Option.bind_eq_some_iff] at hg
    obtain ⟨⟨fl, ρ', S'⟩, e1, e2⟩ := hg
    refine ⟨⟨H, Av, [], fun _ => 0⟩, [], _, [], rel_start hA (by omega) r, fl, ρ', S', e1, ?_⟩
    cases fl with
    | nx => simp at e2
    | bk => simp at e2
    | ct => simp at e2
    | rt e =>
      cases e with
      | ref m =>
        simp only at e2
        split at e2
        · rename_i es hc
          split at e2
          · rename_i hnr
            simp only [Option.some.injEq] at e2
            subst e2
            intro v σ H' μ R rv
            obtain ⟨a, rfl, hna⟩ := rv_ref.mp rv
            obtain ⟨xs, h1, h2⟩ := R.wd.cell m _ a hc hna
            have hm : a ∈ μ := List.mem_of_getElem? hna
            refine q a xs H' (R.wd.dis a hm) (fun a o e => R.wd.base a o e) h1 (RVL.nr (μ := μ) _ _ hnr (RVL.tr (av := avd _ μ) (μ := μ) (fun b o e hn => ⟨e, fun m z => ?_⟩) (fun _ _ e => e) _ _ h2))
            rcases z with z | z
            · exact hn m (.inl z)
            · subst z; exact hn m (.inr hm)
          · cases e2
        · cases e2
      | _ => simp at e2
    | rf es =>
      simp only at e2
      split at e2
      · rename_i hnr
        simp only [Option.some.injEq] at e2
        subst e2
        intro a xs σ H' μ R n na h1 rv
        refine q a xs H' n (fun a o e => R.wd.base a o e) h1 (RVL.nr (μ := μ) _ _ hnr (RVL.tr (av := avO _ μ a) (μ := μ) (fun b o e hn => ⟨e, fun m z => ?_⟩) (fun _ _ e => e) _ _ rv))
        rcases z with z | z
        · exact hn m (.inl (.inl z))
        · exact hn m (.inr z)
      · cases e2
theorem fnMF (h : TxM K c m q st ps) (S : FnScope N ps (defScope st))
    (hb : ∀ (f : Addr) (cdv : Value) (A : Around) (outer : List Env) (s : Shared) (H : Hp) (E : XK), Room k (A.deeper (PyProof.Rows.envOfC q (defScope st) s.heap.objs.size f cdv)) → PSs (cxOf CX0 P w K mg base N q (defScope st) f cdv A outer s H E).nox (defBody st) (tS K body)) :
    AtMF P w K mg base c m (k + 1) ps.length (runF body N.length) := by
  obtain ⟨f, fd, hm, F, hbi⟩ := h
  exact ⟨f, fd, ps, hm, hbi, fnOF2 F S hb⟩
end
def mF (c m : Str) (g : List D → Option (List D)) (fo : E) (fs : EL) : EL := fun ρ S => (fo ρ S).bind fun o => (objD S o).bind fun p => if p.1 = c ∧ noF p.2.1 m = true then (fs ρ S).bind fun ds => if nrs (o :: ds) then g (o :: ds) else (fzs S (o :: ds)).bind fun es => (g es).bind fun r => if imms r then some r else none else none
section
variable {X : Cx} {o e : Expr} {es : List Expr} {c m x : Str} {p pos apos : Pos} {k j n : Nat} {fo : E} {fs : EL}
theorem meth_F {g : List D → Option (List D)} {C : Addr} {σ : L2.St} {H : Hp} {Q : VK} {E : XK} (hC : ∀ C', ClsAt X.K c C' → C' = C) (hl : ∀ {ρ : Rho} {S : Sto} {ds : List D}, fs ρ S = some ds → ds.length + 1 = n) (h : tF X.K (mF c m g fo fs) σ H Q) : tMeth C m (spF X.K n g) [] E (tD X.K fo) (tA X.K fs) σ H Q := by
  obtain ⟨Z, μ, ρ, S, R, d, e, q⟩ := h
  simp only [mF, Option.bind_eq_some_iff] at e
  obtain ⟨od, e1, ⟨c', fs', vs'⟩, e2, e3⟩ := e
  split at e3
  case isFalse => cases e3
  rename_i hc
  obtain ⟨rfl, hno⟩ := hc
  rw [Option.bind_eq_some_iff] at e3
  obtain ⟨ds, e4, e5⟩ := e3
  refine ⟨Z, μ, ρ, S, R, od, e1, fun v H1 s1 r1 => ?_⟩
  obtain ⟨a, C', dx, fvs, rfl, h1, h2, rfl, h4⟩ := obj_of (R.wd.mono s1) r1 e2
  cases hC C' h2
  refine ⟨a, dx, fvs, rfl, h1, look_no hno, Z, μ, ρ, S, R.mono s1, ds, e4, fun vs H2 s2 r2 => ?_⟩
  simp only [List.append_nil]
  exact spF_of ((R.wd.mono s1).mono s2) (by simpa using hl e4) (RVL.cons' (RV.mono s2 r1) r2) e5 fun a xs H' n s3 h3 r3 => q a xs H' ((s1.trans s2).free n) ((s1.trans s2).trans s3) h3 r3
theorem d_methF {pl : Sem Bool} {g : List D → Option (List D)} (hi : ClsIs X.K c) (h : AtMF X.prog X.w X.K X.mg X.base c m k n g) (hr : Room j X.A) (hk : k ≤ j) (ho : PE X o (tD X.K fo)) (ha : PA X (e :: es) (tA X.K fs)) (hl : ∀ {ρ : Rho} {S : Sto} {ds : List D}, fs ρ S = some ds → ds.length + 1 = n)
    (hst : starEach (e :: es) X.env = (false, eval e X.env) :: starEach es X.env := by rfl) (hpl : (backTo pos (starEach es X.env)).any (·.1) = false := by rfl)
    (ht : eval (.Call (.Attribute o m apos) (e :: es) [] pos) X.env = (do
      let ov ← eval o X.env
      standAt apos.atName
      let (f, first) ← holding [ov] (getMethod ov m pl)
      callWith pos f first (backTo pos (starEach (e :: es) X.env)) (backToKw pos (keywordEach [] X.env))) := by rfl) :
    PE X (.Call (.Attribute o m apos) (e :: es) [] pos) (tF X.K (mF c m g fo fs)) := by
  obtain ⟨C, hC⟩ := hi
  obtain ⟨f, fd, ps, hm, hb, F⟩ := h
  obtain ⟨hc, hme⟩ := hm C hC
  exact pe_imp (pe_meth ho hc hme F (hr.mono hk) hb .nil pass0 ha hst hpl ht) fun σ H Q h => meth_F (fun C' h' => cls_one hC h') hl h
end
/-! ### an answer that is a new list, or a thing -/
abbrev ER := Rho → Sto → Option (D ⊕ List D)
def postR (K : PySem.W.Frag) (Z : Fr) (μ : List Addr) (H : Hp) (Q : VK) : D ⊕ List D → Prop
  | .inl d => ∀ v H', Same H H' → RVz K Z μ H' d v → Q v H'
  | .inr ds => ∀ a xs H', H a = none → Same H H' → H' a = some (.lst xs) → RVL K (avO Z μ a) μ H' ds xs → Q (.ref a) H'
def tR (K : PySem.W.Frag) (f : ER) : TE := fun σ H Q => ∃ Z μ ρ S, Rel K Z μ σ H ρ S ∧ ∃ r, f ρ S = some r ∧ postR K Z μ H Q r
def rE (f : E) : ER := fun ρ S => (f ρ S).map .inl
def rF (f : EL) : ER := fun ρ S => (f ρ S).map .inr
def rIf (t : EB) (a b : ER) : ER := fun ρ S => (t ρ S).bind fun k => if k then a ρ S else b ρ S
def sRetR (f : ER) : T := fun ρ S => (f ρ S).map fun r => match r with
  | .inl d => (.rt d, ρ, S)
  | .inr ds => (.rf ds, ρ, S)
section
variable {X : Cx} {e c a b o value : Expr} {pos pos' : Pos} {fa fo : E} {fl : EL} {ra rb' : ER} {t : EB} {cl f : Str}
theorem d_rE (h : PE X e (tD X.K fa)) : PE X e (tR X.K (rE fa)) := pe_imp h fun σ H Q ⟨Z, μ, ρ, S, R, r, e, q⟩ => by
  simp only [rE, Option.map_eq_some_iff] at e
  obtain ⟨d, e1, rfl⟩ := e
  exact ⟨Z, μ, ρ, S, R, d, e1, q⟩
theorem d_rF (h : PE X e (tF X.K fl)) : PE X e (tR X.K (rF fl)) := pe_imp h fun σ H Q ⟨Z, μ, ρ, S, R, r, e, q⟩ => by
  simp only [rF, Option.map_eq_some_iff] at e
  obtain ⟨d, e1, rfl⟩ := e
  exact ⟨Z, μ, ρ, S, R, d, e1, q⟩
theorem tR_step {K : PySem.W.Frag} {f : ER} {Z : Fr} {μ : List Addr} {ρ : Rho} {S : Sto} {σ : L2.St} {H H1 : Hp} {Q : VK} {r : D ⊕ List D} (R : Rel K Z μ σ H ρ S) (s : Same H H1) (e : f ρ S = some r)
    (q : postR K Z μ H Q r) : tR K f σ H1 Q := by
  refine ⟨Z, μ, ρ, S, R.mono s, r, e, ?_⟩
  cases r with
  | inl d => exact fun v H' s2 r2 => q v H' (s.trans s2) r2
  | inr ds => exact fun a xs H' n s2 h1 h2 => q a xs H' (s.free n) (s.trans s2) h1 h2
theorem d_rIf (hc : PT X c (tT X.K t)) (ha : PE X a (tR X.K ra)) (hb : PE X b (tR X.K rb')) : PE X (.IfExp c a b pos) (tR X.K (rIf t ra rb')) :=
  pe_imp (pe_ifExp hc ha hb) fun σ H Q ⟨Z, μ, ρ, S, R, d, e, q⟩ => by
    simp only [rIf, Option.bind_eq_some_iff] at e
    obtain ⟨k, e1, e2⟩ := e
    refine ⟨Z, μ, ρ, S, R, k, e1, fun H' s => ?_⟩
    cases k with
    | true => rw [if_pos rfl] at e2 ⊢; exact tR_step R s e2 q
    | false => rw [if_neg Bool.false_ne_true] at e2 ⊢; exact tR_step R s e2 q
theorem ds_retR (he : PE X e (tR X.K ra)) : PS X (.Return (some e) pos) (tS X.K (sRetR ra)) :=
  ps_imp (ps_ret he) fun De σ H ⟨Z, μ, ρ, S, R, fl', ρ', S', e, q⟩ => by
    simp only [sRetR, Option.map_eq_some_iff] at e
    obtain ⟨r, e1, e2⟩ := e
    refine ⟨Z, μ, ρ, S, R, r, e1, ?_⟩
    cases r with
    | inl d =>
      simp only [Prod.mk.injEq] at e2
      obtain ⟨rfl, rfl, rfl⟩ := e2
      exact fun v H' s r => q v σ H' μ (R.mono s) r
    | inr ds =>
      simp only [Prod.mk.injEq] at e2
      obtain ⟨rfl, rfl, rfl⟩ := e2
      exact fun a xs H' n s h1 r => q a xs σ H' μ (R.mono s) (R.wd.newB n) (R.wd.fresh n) h1 r
/-! o.f = a call that changes things -/
def sAttrS (c f : Str) (fv : ES) (fo : E) : T := fun ρ S => (fv ρ S).bind fun d => (fo ρ d.2).bind fun o => (ocell d.2 o).bind fun p => (putO c f d.1 p).map fun w => (.nx, ρ, d.2.set p.1 w)
theorem ds_attrS {fv : ES} (hf : FldF X.K cl f) (hv : PE X value (tE X.K fv)) (ho : PE X o (tD X.K fo)) (hs : swapsWith value (some (.Attribute o f pos')) pos.line X.env = pure false := by rfl) : PS X (.Assign [.Attribute o f pos'] value pos) (tS X.K (sAttrS cl f fv fo)) :=
  ps_imp (ps_fld ho hv hs) fun De σ H ⟨Z, μ, ρ, S, R, fl, ρ', S', e, q⟩ => by
    simp only [sAttrS, Option.bind_eq_some_iff, Option.map_eq_some_iff, Prod.mk.injEq] at e
    obtain ⟨⟨d, S1⟩, e1, od, e2, ⟨n, c', fs, vs⟩, e3, w, e4, rfl, rfl, rfl⟩ := e
    refine ⟨Z, μ, ρ, S, R, d, S1, e1, fun v H1 μ1 k1 w1 r1 => ?_⟩
    have R1 := R.keptTo k1 w1
    refine ⟨Z, μ1, ρ, S1, R1, od, e2, fun u H2 s2 r2 => ?_⟩
    simp only [putO] at e4
    split at e4
    · rename_i hc
      obtain ⟨rfl, hl⟩ := hc
      cases e4
      obtain ⟨a, C, dx, fvs, rfl, hn, h1, h2, rfl, h4, _⟩ := ocell_of (R1.wd.mono s2) r2 e3
      obtain ⟨k1, k2⟩ := hf C h2
      exact ⟨a, C, dx, fvs, rfl, h1, k1, k2, by simpa using hl, q _ _ μ1 ((R1.mono s2).wrO hn h2 h4 (RV.mono s2 r1))⟩
    · cases e4
end
/-! ### list.index, list.remove, len(set(..)) -/
def idxD (x : D) : List D → Nat → Option Nat
  | [], _ => none
  | d :: ds, i => if eqD d x then some i else idxD x ds (i + 1)
theorem idxD_some {x : D} : ∀ {ds : List D} {i j : Nat}, idxD x ds i = some j → ∃ k d, j = i + k ∧ ds[k]? = some d ∧ eqD d x = true ∧ ∀ m d', m < k → ds[m]? = some d' → eqD d' x = false
  | [], i, j, h => by simp [idxD] at h
  | d :: ds, i, j, h => by
    simp only [idxD] at h
    split at h
    · rename_i he
      cases h
      exact ⟨0, d, rfl, rfl, he, fun m d' hm _ => by omega⟩
    · rename_i he
      obtain ⟨k, d2, h1, h2, h3, h4⟩ := idxD_some h
      refine ⟨k + 1, d2, by omega, by simpa using h2, h3, fun m d' hm hd => ?_⟩
      cases m with
      | zero => simp at hd; subst hd; simpa using he
      | succ m => exact h4 m d' (by omega) (by simpa using hd)
def gIdx : Sto → D → D → Option D := fun S o x => (fo S x).bind fun x' => (lstD S o).bind fun ds => if okDs 59 ds && okD 59 x' then (idxD x' ds 0).map fun j => .int (j : Nat) else none
theorem toPs_get {ds : List D} {k : Nat} : (toPs ds)[k]? = (ds[k]?).map toP := by
  rw [toPs_map, List.getElem?_map]
section
variable {X : Cx} {o e : Expr} {pos cpos apos : Pos} {fo fa : E}
theorem d_index (hu : X.A.units + 65 < cLine) (ho : PE X o (tD X.K fo)) (he : PE X e (tD X.K fa)) (hbase : attributeBase o "index" X.env (eval o X.env) = eval o X.env := by rfl)
    (hfew : ((backTo cpos (starEach [e] X.env)).all (fun x => !x.1) && (backToKw cpos (keywordEach [] X.env)).all (fun x => x.1.isSome)
      && decide ([e].length + ([] : List Keyword).length + (if ([] : List Keyword).isEmpty then 0 else 1) < 30)) = true := by rfl)
    (hline : (apos.endLine == cpos.line) = true := by rfl) (hs : starEach [e] X.env = (false, eval e X.env) :: starEach [] X.env := by rfl) (hplain : (backTo cpos (starEach [] X.env)).any (·.1) = false := by rfl) :
    PE X (.Call (.Attribute o "index" apos) [e] [] cpos) (tD X.K (e2 gIdx fo fa)) :=
  pe_imp (pe_bm PySem.F.plainAttrs_list PySem.F.slot_list_index PySem.F.type_list_index (mt_indexD hu) ho (pa_cons he pa_nil hs) hbase hfew hline hs hplain) fun σ H Q ⟨Z, μ, ρ, S, R, d, e, q⟩ => by
    simp only [e2, Option.bind_eq_some_iff] at e
    obtain ⟨od, e1, x, e2, e3⟩ := e
    simp only [gIdx, Option.bind_eq_some_iff] at e3
    obtain ⟨x', e4, ds, e5, e6⟩ := e3
    split at e6
    case isFalse => cases e6
    rename_i hok
    rw [Bool.and_eq_true] at hok
    simp only [Option.map_eq_some_iff] at e6
    obtain ⟨j, e7, rfl⟩ := e6
    obtain ⟨k, d, rfl, hk, heq, hno⟩ := idxD_some e7
    refine ⟨Z, μ, ρ, S, R, od, e1, fun v H1 s1 r1 => ?_⟩
    obtain ⟨a, xs, rfl, h1, hr⟩ := lst_of (R.wd.mono s1) r1 e5
    refine ⟨tyV_lst h1, Z, μ, ρ, S, R.mono s1, x, e2, fun u H2 s2 r2 => ?_⟩
    have hr2 : RVLz X.K Z μ H2 ds xs := RVL.mono s2 hr
    obtain ⟨o1, d1⟩ := fo_of ((R.wd.mono s1).mono s2) r2 e4
    have dl : Dp X.K H2 (V.ref a) (.list (toPs ds)) := .lst (SqL.of (s2 _ _ h1)) (dps_of _ _ _ hok.1 hr2)
    refine ⟨a, u, toP x', toPs ds, k, toP d, rfl, rfl, dl, d1, ?_, okD_shaped o1 (by decide), by rw [toPs_get, hk]; rfl, ?_, fun m z hm hz => ?_, ?_⟩
    · have := okD_shaped (n := 60) (d := .lst ds) (by simpa only [okD] using hok.1) (by decide)
      simpa only [toP] using this
    · rw [eqv_eqD 59 60 d x' (okDs_mem hok.1 (List.mem_of_getElem? hk)) o1]
      exact heq
    · rw [toPs_get] at hz
      cases q' : ds[m]? with
      | none => rw [q'] at hz; cases hz
      | some d' =>
        rw [q'] at hz
        cases hz
        rw [eqv_eqD 59 60 d' x' (okDs_mem hok.1 (List.mem_of_getElem? q')) o1]
        exact hno m d' hm q'
    · have := q (.int (k : Nat)) H2 (s1.trans s2) (by rw [Nat.zero_add]; exact rv_int.mpr rfl)
      exact this
/-- xs.remove(n), ints -/
def idxI (k : Int) : List Int → Nat → Option Nat
  | [], _ => none
  | n :: ns, i => if n = k then some i else idxI k ns (i + 1)
theorem idxI_some {x : Int} : ∀ {ds : List Int} {i j : Nat}, idxI x ds i = some j → ∃ k, j = i + k ∧ ds[k]? = some x ∧ ∀ m, m < k → ds[m]? ≠ some x
  | [], i, j, h => by simp [idxI] at h
  | d :: ds, i, j, h => by
    simp only [idxI] at h
    split at h
    · rename_i he
      cases h
      subst he
      exact ⟨0, rfl, rfl, fun m hm => by omega⟩
    · rename_i he
      obtain ⟨k, h1, h2, h4⟩ := idxI_some h
      refine ⟨k + 1, by omega, by simpa using h2, fun m hm hd => ?_⟩
      cases m with
      | zero => simp at hd; exact he hd
      | succ m => exact h4 m (by omega) (by simpa using hd)
def rem2 (ρ : Rho) (S : Sto) (c : Nat × List D) : D → Option (Fl × Rho × Sto)
  | .int k => (intsD c.2).bind fun ns => (idxI k ns 0).map fun j => (.nx, ρ, S.set c.1 (.lst ((ns.eraseIdx j).map .int)))
  | _ => none
def sRem (fo f : E) : T := fun ρ S => (fo ρ S).bind fun o => (f ρ S).bind fun d => (cellD S o).bind fun c => rem2 ρ S c d
theorem rvl_intsB {K : PySem.W.Frag} {av : Addr → Prop} {μ : List Addr} {H : Hp} : ∀ {ns : List Int} {xs : List V}, xs = ns.map V.int → RVL K av μ H (ns.map .int) xs
  | [], xs, h => by subst h; exact RVL.nil'
  | n :: ns, xs, h => by
    subst h
    exact RVL.cons' (rv_int.mpr rfl) (rvl_intsB rfl)
theorem rvl_intsA {K : PySem.W.Frag} {av : Addr → Prop} {μ : List Addr} {H : Hp} : ∀ {ns : List Int} {xs : List V}, RVL K av μ H (ns.map .int) xs → xs = ns.map V.int
  | [], xs, h => by simpa [rvl_nil] using h
  | n :: ns, xs, h => by
    simp only [List.map_cons, rvl_cons] at h
    obtain ⟨y, ys, rfl, h1, h2⟩ := h
    rw [rv_int] at h1
    subst h1
    rw [rvl_intsA h2]; rfl
theorem ds_remove (ho : PE X o (tD X.K fo)) (he : PE X e (tD X.K fa)) (hbase : attributeBase o "remove" X.env (eval o X.env) = eval o X.env := by rfl)
    (hfew : ((backTo cpos (starEach [e] X.env)).all (fun x => !x.1) && (backToKw cpos (keywordEach [] X.env)).all (fun x => x.1.isSome)
      && decide ([e].length + ([] : List Keyword).length + (if ([] : List Keyword).isEmpty then 0 else 1) < 30)) = true := by rfl)
    (hline : (apos.endLine == cpos.line) = true := by rfl) (hs : starEach [e] X.env = (false, eval e X.env) :: starEach [] X.env := by rfl) (hplain : (backTo cpos (starEach [] X.env)).any (·.1) = false := by rfl) (hsw : swapsWith (.Call (.Attribute o "remove" apos) [e] [] cpos) none pos.line X.env = pure false := by rfl) :
    PS X (.Expr (.Call (.Attribute o "remove" apos) [e] [] cpos) pos) (tS X.K (sRem fo fa)) :=
  ps_imp (ps_expr (pe_bm PySem.F.plainAttrs_list PySem.F.slot_list_remove PySem.F.type_list_remove mt_remove ho (pa_cons he pa_nil hs) hbase hfew hline hs hplain) hsw) fun De σ H ⟨Z, μ, ρ, S, R, fl, ρ', S', e, q⟩ => by
    simp only [sRem, Option.bind_eq_some_iff] at e
    obtain ⟨od, e1, d, e2, ⟨n, ds⟩, e3, e4⟩ := e
    cases d with
    | int k =>
      simp only [rem2, Option.bind_eq_some_iff, Option.map_eq_some_iff, Prod.mk.injEq] at e4
      obtain ⟨ns, e5, j, e6, rfl, rfl, rfl⟩ := e4
      have ed := ints_eq e5
      have ed' : ds = ns.map .int := ed
      subst ed'
      obtain ⟨k', rfl, hk, hno⟩ := idxI_some e6
      refine ⟨Z, μ, ρ, S, R, od, e1, fun v H1 s1 r1 => ?_⟩
      obtain ⟨a, xs, rfl, hn, h1, hr, _⟩ := cell_of (R.wd.mono s1) r1 e3
      refine ⟨tyV_lst h1, Z, μ, ρ, S, R.mono s1, .int k, e2, fun u H2 s2 r2 => ?_⟩
      have hr2 : RVLz X.K Z μ H2 (ns.map .int) xs := RVL.mono s2 hr
      have ex := rvl_intsA hr2
      subst ex
      rw [rv_int.mp r2]
      refine ⟨a, ns, k, k', rfl, rfl, s2 _ _ h1, hk, hno, ?_⟩
      rw [Nat.zero_add] at q
      exact q _ _ μ (((R.mono s1).mono s2).wrL hn (rvl_intsB rfl))
    | _ => simp [rem2] at e4
/-- len(set(xs)), ints that are unlike -/
def nodupI : List Int → Bool
  | [] => true
  | n :: ns => !ns.contains n && nodupI ns
theorem nodupI_iff : ∀ {ns : List Int}, nodupI ns = true → ns.Nodup
  | [], _ => List.nodup_nil
  | n :: ns, h => by
    simp only [nodupI, Bool.and_eq_true, Bool.not_eq_true'] at h
    refine List.nodup_cons.mpr ⟨fun z => ?_, nodupI_iff h.2⟩
    have := List.contains_iff_mem.mpr z
    rw [h.1] at this; cases this
def cLenSet : Sto → D → Option D := fun S d => (lstD S d).bind fun ds => (intsD ds).bind fun ns => if nodupI ns && decide (ns.length ≤ 4000) then some (.int (ns.length : Nat)) else none
theorem d_lenSet {p p2 q' : Pos} (hg : Gl X "len") (hm : X.mg "len" = none) (hg2 : Gl X "set") (hm2 : X.mg "set" = none) (ha : PE X e (tD X.K fa)) (hc : X.calm = true := by rfl)
    (na : starEach [e] X.env = (false, eval e X.env) :: starEach [] X.env := by rfl) : PE X (.Call (.Name "len" p) [.Call (.Name "set" p2) [e] [] q'] [] pos) (tD X.K (e1 cLenSet fa)) :=
  pe_imp (RZ.pe_lenSetI hg hm hg2 hm2 ha hc na) fun σ H Q ⟨Z, μ, ρ, S, R, d, e, q⟩ => by
    simp only [e1, Option.bind_eq_some_iff] at e
    obtain ⟨x, e1, e2⟩ := e
    simp only [cLenSet, Option.bind_eq_some_iff] at e2
    obtain ⟨ds, e3, ns, e4, e5⟩ := e2
    split at e5
    case isFalse => cases e5
    rename_i hh
    rw [Bool.and_eq_true, decide_eq_true_eq] at hh
    cases e5
    refine ⟨Z, μ, ρ, S, R, x, e1, fun v H1 s1 r1 => ?_⟩
    obtain ⟨a, xs, rfl, h1, hr⟩ := lst_of (R.wd.mono s1) r1 e3
    have ed := ints_eq e4
    subst ed
    have ex := rvl_intsA hr
    subst ex
    exact ⟨a, ns, rfl, SqL.of h1, nodupI_iff hh.1, hh.2, q _ H1 s1 (rv_int.mpr rfl)⟩
end
end DL

set_option maxHeartbeats 4000000
namespace DL
open PySem PySem.Spec L2
/-! ### the ends of methods; what the top has written of a class -/
section
variable {P : Program} {w : World} {K : PySem.W.Frag} {mg : Str → Option Value} {base : Heap} {x q c m : Str} {st : Stmt} {N ps : List Str} {k : Nat} {body : T}
theorem fnMn {n m' j : Nat} (h : TxM K c m q st ps) (S : FnScope N ps (defScope st)) (hn : N.length = n) (hm : ps.length = m') (hj : k + 1 = j)
    (hb : ∀ (f : Addr) (cdv : Value) (A : Around) (outer : List Env) (s : Shared) (H : Hp) (E : XK), Room k (A.deeper (PyProof.Rows.envOfC q (defScope st) s.heap.objs.size f cdv)) → PSs (cxOf CX0 P w K mg base N q (defScope st) f cdv A outer s H E).nox (defBody st) (tS K body)) :
    AtS P w K mg base c m j m' (runS body n) := by
  subst hn hm hj
  exact fnM h S hb
theorem fnMPn {n m' j : Nat} (h : TxM K c m q st ps) (S : FnScope N ps (defScope st)) (hn : N.length = n) (hm : ps.length = m') (hj : k + 1 = j)
    (hb : ∀ (f : Addr) (cdv : Value) (A : Around) (outer : List Env) (s : Shared) (H : Hp) (E : XK), Room k (A.deeper (PyProof.Rows.envOfC q (defScope st) s.heap.objs.size f cdv)) → PSs (cxOf CX0 P w K mg base N q (defScope st) f cdv A outer s H E).nox (defBody st) (tS K body)) :
    AtM P w K mg base c m j m' (runD body n) := by
  subst hn hm hj
  exact fnMP h S hb
theorem fnMFn {n m' j : Nat} (h : TxM K c m q st ps) (S : FnScope N ps (defScope st)) (hn : N.length = n) (hm : ps.length = m') (hj : k + 1 = j)
    (hb : ∀ (f : Addr) (cdv : Value) (A : Around) (outer : List Env) (s : Shared) (H : Hp) (E : XK), Room k (A.deeper (PyProof.Rows.envOfC q (defScope st) s.heap.objs.size f cdv)) → PSs (cxOf CX0 P w K mg base N q (defScope st) f cdv A outer s H E).nox (defBody st) (tS K body)) :
    AtMF P w K mg base c m j m' (runF body n) := by
  subst hn hm hj
  exact fnMF h S hb
theorem fnIn {n m' j : Nat} (h : TxI K mg c q st ps) (S : FnScope N ps (defScope st)) (hn : N.length = n) (hm : ps.length = m') (hj : k + 1 = j)
    (hb : ∀ (f : Addr) (cdv : Value) (A : Around) (outer : List Env) (s : Shared) (H : Hp) (E : XK), Room k (A.deeper (PyProof.Rows.envOfC q (defScope st) s.heap.objs.size f cdv)) → PSs (cxOf CX0 P w K mg base N q (defScope st) f cdv A outer s H E).nox (defBody st) (tS K body)) :
    AtI P w K mg base c j m' (runS body n) := by
  subst hn hm hj
  exact fnI h S hb
end
section
variable {K : PySem.W.Frag} {h : Heap} {mg : Str → Option Value} {c m q f' : Str} {st : Stmt} {ps : List Str} {C f : Addr} {od an : Option Addr} {sl : Array (Option Value)} {oc kV dc pm cd ct : Value}
theorem fld_mk (a : PySem.W.nsIn K mainGlobals c = some (some (.ref C))) (cl : Cls K C) (n : PySem.W.findIn K (.ref C) f' = some none) : FldF K c f' := fun C' h' => by
  unfold ClsAt at h'
  rw [a] at h'
  cases h'
  exact ⟨cl, n⟩
theorem txM_mk (a : PySem.W.nsIn K mainGlobals c = some (some (.ref C))) (cl : Cls K C)
    (hb : ∀ (kV doc pm : Value) (an : Option Addr) (cdv ct : Value) (us : List Value), us.length = ps.length → bindArgs (PySem.W.fnOf m q (defArgs st) (defBody st) (defScope st) .none kV doc pm an cdv ct) ⟨us, []⟩ = pure (ps.zip us))
    (am : PySem.W.findIn K (.ref C) m = some (some (.ref f))) (i : PySem.W.isFn K (.ref f) = true) (l : K.lookup f = some ⟨oc, od, .func (PySem.W.fnOf m q (defArgs st) (defBody st) (defScope st) .none kV dc pm an cd ct), sl⟩)
    (cc : PySem.W.codeIn K cd q = true) (k : PySem.W.keepIn K (.ref f) = true) : TxM K c m q st ps :=
  ⟨f, _, fun C' h' => by
    unfold ClsAt at h'
    rw [a] at h'
    cases h'
    exact ⟨cl, am, i, k⟩, fun_mk (st := st) l cc k, (fun_mk (st := st) l cc k).binds hb⟩
theorem txI_mk (X : K.In h) (G : h.Ns mainGlobals mg) (a : PySem.W.nsIn K mainGlobals c = some (some (.ref C))) (mk : PySem.W.makesIn K C = true) (kc : PySem.W.keepIn K (.ref C) = true)
    (hb : ∀ (kV doc pm : Value) (an : Option Addr) (cdv ct : Value) (us : List Value), us.length = ps.length → bindArgs (PySem.W.fnOf "__init__" q (defArgs st) (defBody st) (defScope st) .none kV doc pm an cdv ct) ⟨us, []⟩ = pure (ps.zip us))
    (am : PySem.W.findIn K (.ref C) "__init__" = some (some (.ref f))) (i : PySem.W.isFn K (.ref f) = true) (l : K.lookup f = some ⟨oc, od, .func (PySem.W.fnOf "__init__" q (defArgs st) (defBody st) (defScope st) .none kV dc pm an cd ct), sl⟩)
    (cc : PySem.W.codeIn K cd q = true) (k : PySem.W.keepIn K (.ref f) = true) : TxI K mg c q st ps :=
  ⟨C, f, _, a, PySem.W.mg_of X G a, ⟨mk, am, i, kc⟩, fun_mk (st := st) l cc k, (fun_mk (st := st) l cc k).binds hb⟩
end
end DL

set_option maxHeartbeats 4000000
namespace DL
open PySem PySem.Spec L2
/-! ### for x in xs, xs a cell that no turn changes -/
open Classical in
noncomputable def loopC (n : Nat) (full : List D) (g : G) (body : T) : List D → T
  | [], ρ, S => if S[n]? = some (.lst full) then some (.nx, ρ, S) else none
  | d :: ds, ρ, S => if S[n]? = some (.lst full) then (g d ρ).bind fun ρ1 => (body ρ1 S).bind fun r => match r with
    | (.nx, ρ', S') => loopC n full g body ds ρ' S'
    | (.ct, ρ', S') => loopC n full g body ds ρ' S'
    | (.bk, ρ', S') => some (.nx, ρ', S')
    | r => some r
    else none
noncomputable def sForC (fo : E) (g : G) (body : T) : T := fun ρ S => (fo ρ S).bind fun o => (cellD S o).bind fun c => loopC c.1 c.2 g body c.2 ρ S
def tIC (K : PySem.W.Frag) (fo : E) : TI := fun σ H R => ∃ Z μ ρ S, Rel K Z μ σ H ρ S ∧ ∃ d n ds, fo ρ S = some d ∧ cellD S d = some (n, ds) ∧ ∀ J H1 a, Same H H1 → μ[n]? = some a →
  (∀ i H' xs, H' a = some (.lst xs) → (∀ x, xs[i]? = some x → J.go i H' ∧ ∀ y H'', J.yld i H' y H'' → Same H' H'' ∧ y = x) ∧ (xs.length ≤ i → J.stop i H')) → R J H1
section
variable {X : Cx} {iter tg : Expr} {body : List Stmt} {pos : Pos} {fo : E} {f : T} {g : G} {vt : List Nat}
theorem ds_forC (hp : PassesOwn (model X.prog X.w) X.A X.env X.xe) (hc : X.calm = true) (hi : PI X tg iter (tIC X.K fo)) (hg : PG X tg (tG X.K vt g)) (hb : PSs X body (tS X.K f))
    (hs : ∀ x, foldedSetIterable iter X.env x = pure x := by intro _; rfl) : PS X (.For tg iter body [] pos) (tS X.K (sForC fo g f)) :=
  ps_imp (ps_for hp hc hi hg hb hs) fun De σ H ⟨Z, μ, ρ, S, R, fl', ρ', S', e, q⟩ => by
    simp only [sForC, Option.bind_eq_some_iff] at e
    obtain ⟨d, e1, ⟨n, ds⟩, e3, e2⟩ := e
    refine ⟨Z, μ, ρ, S, R, d, n, ds, e1, e3, fun J H1 a s1 hna it => ?_⟩
    have R1 := R.mono s1
    have W1 := R1.wd
    refine ⟨fun i m σ' H' => m = ds.length - i ∧ i ≤ ds.length ∧ ∃ μ2 ρ2 S2, Rel X.K (Z.rb μ H1) μ2 σ' H' ρ2 S2 ∧ loopC n ds g f (ds.drop i) ρ2 S2 = some (fl', ρ', S'), ⟨ds.length, by simp, Nat.zero_le _, μ, ρ, S, R1.rb, by simpa using e2⟩, ?_⟩
    rintro i m σ2 H2 ⟨rfl, hi', μ2, ρ2, S2, R2, el⟩
    have hn2 : μ2[n]? = some a := by
      obtain ⟨t, ht⟩ := R2.wd.root
      have ht' : μ ++ t = μ2 := ht
      rw [← ht', List.getElem?_append_left (List.getElem?_eq_some_iff.mp hna).1]
      exact hna
    by_cases hlt : i < ds.length
    · rw [List.drop_eq_getElem_cons hlt] at el
      simp only [loopC] at el
      split at el
      case isFalse => cases el
      rename_i hS
      obtain ⟨xs, hx, hr⟩ := R2.wd.cell n _ a hS hn2
      obtain ⟨x, hxi, rx⟩ := RVL.get hr (List.getElem?_eq_getElem hlt)
      obtain ⟨it1, _⟩ := it i H2 xs hx
      obtain ⟨hgo, hyld⟩ := it1 x hxi
      simp only [Option.bind_eq_some_iff] at el
      obtain ⟨ρ3, eg, ⟨fl3, ρ4, S4⟩, eb, el⟩ := el
      refine .inr ⟨hgo, _, fun σ' H' h => ⟨ds.length - (i + 1), by omega, rfl, hlt, h⟩, fun y H3 hy => ?_⟩
      obtain ⟨s3, ey⟩ := hyld y H3 hy
      subst ey
      refine ⟨Z.rb μ H1, μ2, ρ2, S2, ds[i], R2.mono s3, RV.mono s3 rx, ρ3, eg, fun σ3 R3 _ _ => ?_⟩
      refine ⟨Z.rb μ H1, μ2, ρ3, S2, R3, fl3, ρ4, S4, eb, ?_⟩
      refine cont_loop (fun r hr => ?_) (fun hf σ4 H4 μ4 R4 => ?_)
      · refine cont_ub W1 ?_
        cases fl3 with
        | nx => cases hr
        | ct => cases hr
        | bk =>
          simp only [Option.some.injEq, Prod.mk.injEq] at el hr
          obtain ⟨rfl, rfl, rfl⟩ := el
          subst hr; exact q
        | rt d =>
          simp only [Option.some.injEq, Prod.mk.injEq] at el hr
          obtain ⟨rfl, rfl, rfl⟩ := el
          subst hr; exact q
        | rf d =>
          simp only [Option.some.injEq, Prod.mk.injEq] at el hr
          obtain ⟨rfl, rfl, rfl⟩ := el
          subst hr; exact q
      · rcases hf with rfl | rfl
        · exact ⟨μ4, ρ4, S4, R4, el⟩
        · exact ⟨μ4, ρ4, S4, R4, el⟩
    · have hi2 : i = ds.length := by omega
      subst hi2
      simp only [List.drop_length, loopC] at el
      split at el
      case isFalse => cases el
      rename_i hS
      obtain ⟨xs, hx, hr⟩ := R2.wd.cell n _ a hS hn2
      simp only [Option.some.injEq, Prod.mk.injEq] at el
      obtain ⟨rfl, rfl, rfl⟩ := el
      exact .inl ⟨(it ds.length H2 xs hx).2 (by rw [RVL.length hr]; exact Nat.le_refl _), q σ2 H2 μ2 (R2.ub W1)⟩
theorem dic_seq {e : Expr} (h : PE X e (tD X.K fo)) : PI X tg e (tIC X.K fo) := pi_imp (pi_list h) fun σ H R ⟨Z, μ, ρ, S, Rl, d, n, ds, e1, e2, q⟩ => by
  refine ⟨Z, μ, ρ, S, Rl, d, e1, fun v H1 s1 r1 => ?_⟩
  obtain ⟨a, xs, rfl, hn, h1, hr, _⟩ := cell_of (Rl.wd.mono s1) r1 e2
  refine ⟨a, rfl, ⟨_, SqL.of h1⟩, q _ H1 a s1 hn fun i H' xs' hx => ⟨fun x hxi => ⟨⟨xs', x, SqL.of hx, hxi⟩, fun y H'' hy => ?_⟩, fun hl => ⟨xs', SqL.of hx, hl⟩⟩⟩
  obtain ⟨rfl, h2⟩ := hy
  have := h2 xs' (SqL.of hx)
  rw [hxi] at this
  exact ⟨Same.refl _, (Option.some.inj this).symm⟩
end
/-! ### xs[::-1] -/
def fRev (f : E) : EL := fun ρ S => (f ρ S).bind fun d => (lstD S d).map List.reverse
section
variable {X : Cx} {e : Expr} {k : Nat} {p1 p2 p3 pos : Pos} {fa : E}
theorem d_revL (he : PE X e (tD X.K fa)) : PE X (.Subscript e (.Slice none none (some (.UnaryOp .USub (.Constant (.int 1) k p1) p2)) p3) pos) (tF X.K (fRev fa)) :=
  pe_imp (pe_revL he) fun σ H Q ⟨Z, μ, ρ, S, R, ds, e, q⟩ => by
    simp only [fRev, Option.bind_eq_some_iff, Option.map_eq_some_iff] at e
    obtain ⟨d, e1, es, e2, rfl⟩ := e
    refine ⟨Z, μ, ρ, S, R, d, e1, fun v H1 s1 r1 => ?_⟩
    obtain ⟨a, xs, rfl, h1, hr⟩ := lst_of (R.wd.mono s1) r1 e2
    refine ⟨a, xs, rfl, SqL.of h1, fun p np => ?_⟩
    have s2 : Same H1 (upd H1 p (.lst xs.reverse)) := fun c o z => by rw [upd_ne (ne_of_none z np)]; exact z
    exact q p _ _ (s1.free np) (s1.trans s2) upd_same (RVL.newO s2 np (RVL.rev hr))
end
section
open PyProof.Rows HT
variable {prog : Program} {w : World} {A : Around} {E : Value → Shared → Prop} {s : Shared}
theorem rev_pick (xs : List Value) : ((List.range xs.length).filterMap fun (k : Nat) => xs.toArray[(((xs.length : Int) - 1) + (k : Int) * (-1)).toNat]?).toArray = xs.reverse.toArray := by
  congr 1
  have h : ∀ k, k < xs.length → xs.toArray[(((xs.length : Int) - 1) + (k : Int) * (-1)).toNat]? = some (xs.reverse.getD k .none) := by
    intro k hk
    have e : (((xs.length : Int) - 1) + (k : Int) * (-1)).toNat = xs.length - 1 - k := by omega
    rw [e, List.getElem?_toArray, List.getD_eq_getElem?_getD, List.getElem?_reverse hk, List.getElem?_eq_getElem (by omega)]
    rfl
  have h2 : ((List.range xs.length).filterMap fun (k : Nat) => xs.toArray[(((xs.length : Int) - 1) + (k : Int) * (-1)).toNat]?) = (List.range xs.length).map fun k => xs.reverse.getD k .none := by
    have gen : ∀ l : List Nat, (∀ k ∈ l, k < xs.length) → (l.filterMap fun (k : Nat) => xs.toArray[(((xs.length : Int) - 1) + (k : Int) * (-1)).toNat]?) = l.map fun k => xs.reverse.getD k .none := by
      intro l hl
      induction l with
      | nil => rfl
      | cons a l ih =>
        rw [List.filterMap_cons, h a (hl a (by simp)), ih fun k hk => hl k (by simp [hk])]
        rfl
    exact gen _ fun k hk => List.mem_range.mp hk
  rw [h2]
  apply List.ext_getElem
  · simp
  · intro i h3 h4
    simp at h3
    simp [List.getElem?_eq_getElem, h3]
theorem sliceApplied_rev {sl : Addr} {t : Tok} {n : Nat} {Q : Int × Int × Nat → Shared → Prop} (hs : s.heap.IsSliceOf sl .none .none (.int (-1) t)) (h : Q ((n : Int) - 1, -1, n) s) :
    wpAny (model prog w) A (Builtin.Slice.sliceApplied (.ref sl) (pure (n : Int))) Q E s := by
  obtain ⟨os, hos, hcs, hds⟩ := id hs
  unfold Builtin.Slice.sliceApplied
  unfold Builtin.Slice.sliceFields
  refine wpAny_bind (wpAny_bind (wpAny_field hos hds (x := .none) rfl (wpAny_bind (wpAny_field hos hds (x := .none) rfl (wpAny_bind (wpAny_field hos hds (x := .int (-1) t) rfl (wpAny_pure ?_)))))))
  refine wpAny_bind (slicePart_int ?_)
  show wpAny _ _ (if ((-1 : Int) == 0) = true then _ else _) _ _ s
  rw [if_neg (by decide)]
  refine wpAny_bind (slicePart_none (wpAny_bind (slicePart_none (wpAny_bind (wpAny_pure ?_)))))
  have e1 : Builtin.Slice.sliceAdjust none none (-1) (n : Int) = ((n : Int) - 1, -1) := rfl
  have e2 : Builtin.Slice.slicePlaces ((n : Int) - 1) (-1) (-1) = n := by
    unfold Builtin.Slice.slicePlaces
    rw [if_neg (by decide)]
    by_cases h0 : (n : Int) - 1 > -1
    · rw [if_pos h0]
      have : ((n : Int) - 1 - -1 - 1) / (- -1) + 1 = n := by
        show ((n : Int) - 1 - -1 - 1) / 1 + 1 = n
        rw [Int.ediv_one]
        omega
      rw [this]; simp
    · rw [if_neg h0]
      have : n = 0 := by omega
      subst this; rfl
  show wpAny _ _ (match Builtin.Slice.sliceAdjust none none (-1) (n : Int) with | (lo, hi) => pure (lo, (-1 : Int), Builtin.Slice.slicePlaces lo hi (-1))) _ _ s
  rw [e1]
  show wpAny _ _ (pure ((n : Int) - 1, (-1 : Int), Builtin.Slice.slicePlaces ((n : Int) - 1) (-1) (-1))) _ _ s
  rw [e2]
  exact wpAny_pure h
theorem getItem_tuple_rev {t sl : Addr} {its : List Value} {tk : Tok} {Q : Value → Shared → Prop} (ht : IsTup s.heap t its.toArray) (hs : s.heap.IsSliceOf sl .none .none (.int (-1) tk))
    (h : Q (.ref s.heap.objs.size) { s with heap := s.heap.push { cls := .type "tuple", data := .seq its.reverse.toArray } }) (hsz : its.length ≤ sizeLine) : wpAny (model prog w) A (getItem (.ref t) (.ref sl)) Q E s := by
  have hok : sizeOk (.seq its.reverse.toArray) := by
    show its.reverse.toArray.size ≤ sizeLine
    rw [List.size_toArray, List.length_reverse]; exact hsz
  obtain ⟨os, hos, hcs, hds⟩ := id hs
  have hTs : s.TypeIs (.ref sl) "slice" := ⟨os, hos, hcs⟩
  unfold getItem
  try with_reducible refine wpAny_holding ?_
  first | refine wpAny_bind (wpAny_pure ?_) | skip
  refine wpAny_bind (wpAny_sequenceKey ht.typeIs (by decide) ?_)
  refine wpAny_bind (wpAny_callSpecial?_slot (name := Str.ofString "__getitem__") ht.typeIs PyProof.Rows.slot_tuple_getitem
    (wpAny_call_entry PyProof.Rows.slot_tuple_getitem ht.typeIs entry_tuple_getitem ?_ (args_tuple_getitem _ _)))
  show wpAny _ _ (Builtin.Tuple.tupleItemsOf (.ref t) >>= _) _ _ s
  refine wpAny_bind (tupleItemsOf_ ht ?_)
  refine wpAny_bind (wpAny_typeOf hTs ?_)
  rw [if_pos (by decide)]
  have hn : its.toArray.size = its.length := List.size_toArray ..
  rw [hn]
  refine wpAny_bind (sliceApplied_rev hs ?_)
  have hno : ¬ ((((its.length : Int) - 1) == 0 && (-1 : Int) == 1 && its.length == its.length) = true) := by
    intro q
    rw [Bool.and_eq_true, Bool.and_eq_true] at q
    have := eq_of_beq q.1.2
    omega
  show wpAny _ _ (if (((its.length : Int) - 1) == 0 && (-1 : Int) == 1 && its.length == its.length) = true then _ else _) _ _ s
  rw [if_neg hno, rev_pick]
  first
    | exact wpAny_bind (m := Builtin.Tuple.tupleExact _) (wpAny_newObj_type (wpAny_pure ⟨_, rfl, wpAny_pure h⟩) hok)
    | exact wpAny_bind (m := Builtin.Tuple.tupleExact _) (wpAny_newObj_type (wpAny_bind (wpAny_pure (wpAny_pure ⟨_, rfl, wpAny_pure h⟩))) hok)
    | exact wpAny_bind (wpAny_bind (m := Builtin.Tuple.tupleExact _) (wpAny_newObj_type (wpAny_pure (wpAny_pure ⟨_, rfl, wpAny_pure h⟩)) hok))
    | exact wpAny_bind (wpAny_bind (m := Builtin.Tuple.tupleExact _) (wpAny_newObj_type (wpAny_pure ⟨_, rfl, wpAny_pure h⟩) hok))
end
section
variable {X : Cx} {e : Expr} {k : Nat} {p1 p2 p3 pos : Pos}
def tRevT (K : PySem.W.Frag) (te : TE) : TE := fun σ H Q => te σ H fun x H1 => ∃ a xs, x = .ref a ∧ SqT K H1 a xs ∧ ∀ p, H1 p = none → Q (.ref p) (upd H1 p (.tup xs.reverse))
open PyProof.Rows in
theorem pe_revT {te : TE} (ce : PE X e te) : PE X (.Subscript e (.Slice none none (some (.UnaryOp .USub (.Constant (.int 1) k p1) p2)) p3) pos) (tRevT X.K te) := by
  constructor
  intro pins s σ H Q I hw
  refine Subscript_ (thn (ce.run pins s σ H _ I hw) fun v s1 ⟨x, Ha, Ia, ra, qa⟩ => ?_)
  obtain ⟨a, xs, rfl, hx, q⟩ := qa
  cases ra
  have part : PO X (some (.UnaryOp .USub (.Constant (.int 1) k p1) p2)) (tPart (tUn (rU fun i => .int (-i)) (tC (.int 1)))) := po_some (pe_un un_neg pe_int)
  refine wpAny_Slice (thn (po_none.run pins s1 σ Ha (fun o Hb => o = none ∧ Hb = Ha) Ia ⟨rfl, rfl⟩) fun vl s2 ⟨lo, Hb, Ib, pl, el, e2⟩ => ?_)
  subst el e2
  refine thn (po_none.run pins s2 σ Hb (fun o Hc => o = none ∧ Hc = Hb) Ib ⟨rfl, rfl⟩) fun vu s3 ⟨up, Hc, Ic, pu, eu, e3⟩ => ?_
  subst eu e3
  refine thn (part.run pins s3 σ Hc (fun o Hd => o = some (-1) ∧ Hd = Hc) Ic ⟨1, rfl, -1, rfl, rfl, rfl⟩) fun vs s4 ⟨o, Hd, Id, ps, eo, e4⟩ => ?_
  subst eo e4
  cases pl
  cases pu
  cases ps with
  | int _ tk =>
  have Ie : L2.Inv X pins σ Hd { s4 with heap := s4.heap.push { cls := .type "slice", data := .fields #[.none, .none, .int (-1) tk] } } := Id.kept (t' := s4.toks) fun b ob z => Heap.get?_push_of_some _ z
  obtain ⟨its, r, ht, hz⟩ := Ie.tuple hx
  have hl := r.length
  show wpAny (model X.prog X.w) X.A (subscriptTail e (.Slice none none (some (.UnaryOp .USub (.Constant (.int 1) k p1) p2)) p3) (.ref a) (.ref s4.heap.objs.size)) (EP X pins σ Q) X.xe _
  refine tail_any (ops := [.ref a, .ref s4.heap.objs.size]) ht.typeIs (PyProof.Rows.slot_tuple_getitem.lookup) ?_ (by with_unfolding_all rfl)
  refine getItem_tuple_rev ht (Heap.IsSliceOf.new _ .none .none (.int (-1) tk)) ?_ (by omega)
  refine ⟨.ref _, _, Ie.laid (t' := s4.toks) (o := .tup xs.reverse) (fun b ob z => Heap.get?_push_of_some _ z) (Nat.le_refl _) ?_, rfl, q _ (Ie.hok.fresh (Nat.le_refl _))⟩
  exact ⟨by rw [List.length_reverse]; exact hz, _, r.reverse, IsTup.new _ _⟩
def gRevT (S : Sto) (d : D) : Option D := match d with
  | .tup ds => some (.tup ds.reverse)
  | _ => none
theorem d_revT {fa : E} (he : PE X e (tD X.K fa)) : PE X (.Subscript e (.Slice none none (some (.UnaryOp .USub (.Constant (.int 1) k p1) p2)) p3) pos) (tD X.K (e1 gRevT fa)) :=
  pe_imp (pe_revT he) fun σ H Q ⟨Z, μ, ρ, S, R, d, e, q⟩ => by
    simp only [e1, Option.bind_eq_some_iff] at e
    obtain ⟨x, e1, e2⟩ := e
    unfold gRevT at e2
    split at e2
    · cases e2
      refine ⟨Z, μ, ρ, S, R, _, e1, fun v H1 s1 r1 => ?_⟩
      obtain ⟨a, xs, rfl, h1, hr⟩ := rv_tup.mp r1
      refine ⟨a, xs, rfl, SqT.of h1, fun p np => ?_⟩
      have s2 : Same H1 (upd H1 p (.tup xs.reverse)) := fun c o z => by rw [upd_ne (ne_of_none z np)]; exact z
      exact q _ _ (s1.trans s2) (rv_tup.mpr ⟨p, _, rfl, upd_same, RVL.mono s2 (RVL.rev hr)⟩)
    · cases e2
end
end DL

set_option maxHeartbeats 4000000
namespace DL
open PySem PySem.Spec L2
/-! ### max(xs, default=d), ints -/
section
open PyProof.Rows
variable {prog : Program} {w : World} {A : Around} {E : Value → Shared → Prop} {s : Shared}
theorem treeK {id : String} {b : Builtin} {us : List Value} {kw : List (Str × Value)} {Q : Value → Shared → Prop} (hk : builtinKind id = none) (hp : plainId id = true) (hb : entryFor table id = some b) (ha : argsOk id ⟨us, kw⟩)
    (hc : wpAny (model prog w) A.in1 (b ⟨us, kw⟩) (fun fin s' => match fin with
      | .done f => (match (Except.ok f : Result) with | .ok (.ret v) => Q v s' | .ok _ => False | .error e => E e s')
      | .again c' => c'.quiet = true ∧ codeAny (model prog w) A c' (fun r s' => match r with | .ok (.ret v) => Q v s' | .ok _ => False | .error e => E e s') s') E s) :
    wpAny (model prog w) A (call (.builtin id) us kw) Q E s := by
  refine wpAny_call (codeAny_call_builtin hp hb ?_)
  simp only [checkBuiltinCall, hk]
  cases hsig : Manifest.signature? id with
  | none => exact wpAny_pure hc
  | some sig =>
    simp only [argsOk, hsig] at ha
    have h2 : Bind.checkArgs id sig ⟨us, kw⟩ = pure () := ha
    show wpAny _ A.in1 (Bind.checkArgs id sig ⟨us, kw⟩) _ _ s
    rw [h2]
    exact wpAny_pure hc
theorem args_maxD (a d : Value) : argsOk "max" ⟨[a], [(Str.ofString "default", d)]⟩ := by unfold argsOk; kernel_rfl
variable {R : Result → Shared → Prop} {I : Addr} {fp wr : List Addr} {n : Nat} {P : Nat → Value → Prop} {St : Nat → Heap → Prop}
/-- the turns after the first one, whatever keywords there are -/
theorem max_turns (W : Walks prog w A.in1 I fp wr n P St) (kw : List (Str × Value)) (bt : Nat → Nat → Bool) (cmp : CmpOf prog w A.in1 .Gt P bt) (T : Addr) (nT : T ∉ fp) :
    ∀ (k j : Nat) (s : Shared) (vb : Value) (c : Nat), n - (j + 1) = k → j + 1 ≤ n → St (j + 1) s.heap → P (argBest bt j) vb → s.heap.get? T = some { cls := .type "list", dict := none, data := .seq #[vb, vb] c, slots := #[] } →
      (∀ v h' tk, P (argBest bt (n - 1)) v → (∀ b o, b ∉ wr → b ≠ T → s.heap.get? b = some o → h'.get? b = some o) → R (.ok (.ret v)) { s with heap := h', toks := tk }) →
      codeAny (model prog w) A (.builtin "max.loop" ⟨[.ref I, .none, .ref T], kw⟩) R s
  | 0, j, s, vb, c, hk, hj, st, pb, hT, hR => by
    have nW : T ∉ wr := fun z => nT (W.sub _ z)
    have jn : j + 1 = n := by omega
    refine codeAny_builtin F.entry_max_loop ?_
    rw [Around.under_plainId F.plain_max_loop _]
    show wpAny _ A.in1 (seqItems? (.ref T) >>= _) _ _ s
    refine wpAny_bind (wpAny_seqItems hT rfl ?_)
    show wpAny _ A.in1 (tryCatch (pyNext (.ref I)) _ >>= _) _ _ s
    refine wpAny_bind (wpAny_tryCatch (W.done s _ _ (jn ▸ st) fun h' tk kp => ?_))
    have hT' := kp T _ nW hT
    show wpAny _ A.in1 (updateSeq T (fun _ => #[]) >>= _) _ _ _
    refine wpAny_bind ?_
    refine wpAny_updateSeq hT' rfl (wpAny_bind (wpAny_letGo (wpAny_pure ?_)))
    exact hR vb _ tk (by rw [← jn]; exact pb) fun b o n1 n2 e => (Heap.get?_update_other _ _ (Ne.symm n2)).trans (kp b o n1 e)
  | k + 1, j, s, vb, c, hk, hj, st, pb, hT, hR => by
    have nW : T ∉ wr := fun z => nT (W.sub _ z)
    have nm : (toString "max" ++ toString ".loop" : String) = "max.loop" := by decide
    have lt : j + 1 < n := by omega
    refine codeAny_builtin F.entry_max_loop ?_
    rw [Around.under_plainId F.plain_max_loop _]
    show wpAny _ A.in1 (seqItems? (.ref T) >>= _) _ _ s
    refine wpAny_bind (wpAny_seqItems hT rfl ?_)
    show wpAny _ A.in1 (tryCatch (pyNext (.ref I)) _ >>= _) _ _ s
    refine wpAny_bind (wpAny_tryCatch (W.item (j + 1) s _ _ lt st fun v h' tk hP st' kp => ?_))
    have hT' := kp T _ nW hT
    show wpAny _ A.in1 (tryCatch (holding [v, v] (richCompare .Gt v vb >>= _)) _ >>= _) _ _ _
    refine wpAny_bind (wpAny_tryCatch (wpAny_holding (wpAny_bind (cmp (j + 1) (argBest bt j) v vb _ _ _ hP pb ?_))))
    refine wpAny_bind (wpAny_holding (wpAny_truthy_bool ?_))
    refine wpAny_bind (wpAny_letGo (wpAny_pure ?_))
    cases hb : bt (j + 1) (argBest bt j) with
    | true =>
      simp only [if_true]
      refine wpAny_bind ?_
      refine wpAny_updateSeq hT' rfl (wpAny_bind (wpAny_letGo ?_))
      rw [nm]
      refine wpAny_pure ⟨plainId_quiet F.plain_max_loop _, max_turns W kw bt cmp T nT k (j + 1) _ v _ (by omega) lt (W.frame _ _ _ st' fun b hbf o e => ?_) (by simp only [argBest, hb, if_true]; exact hP) (Heap.get?_update_self _ hT' rfl) fun v2 h2 t2 p2 k2 => ?_⟩
      · exact (Heap.get?_update_other _ _ (fun z : T = b => nT (by rw [z]; exact hbf))).trans e
      · exact hR v2 h2 t2 p2 fun b o n1 n2 e => k2 b o n1 n2 ((Heap.get?_update_other _ _ (Ne.symm n2)).trans (kp b o n1 e))
    | false =>
      simp only [Bool.false_eq_true, if_false]
      refine wpAny_bind (wpAny_letGo ?_)
      rw [nm]
      refine wpAny_pure ⟨plainId_quiet F.plain_max_loop _, max_turns W kw bt cmp T nT k (j + 1) _ vb c (by omega) lt st' (by simp only [argBest, hb, Bool.false_eq_true, if_false]; exact pb) hT' fun v2 h2 t2 p2 k2 => ?_⟩
      exact hR v2 h2 t2 p2 fun b o n1 n2 e => k2 b o n1 n2 (kp b o n1 e)
theorem max_first (W : Walks prog w A.in1 I fp wr n P St) (kw : List (Str × Value)) (bt : Nat → Nat → Bool) (cmp : CmpOf prog w A.in1 .Gt P bt) (T : Addr) (nT : T ∉ fp) (hn : 0 < n) {s : Shared} {c : Nat} (st : St 0 s.heap)
    (hT : s.heap.get? T = some { cls := .type "list", dict := none, data := .seq #[] c, slots := #[] })
    (hR : ∀ v h' tk, P (argBest bt (n - 1)) v → (∀ b o, b ∉ wr → b ≠ T → s.heap.get? b = some o → h'.get? b = some o) → R (.ok (.ret v)) { s with heap := h', toks := tk }) :
    codeAny (model prog w) A (.builtin "max.loop" ⟨[.ref I, .none, .ref T], kw⟩) R s := by
  have nW : T ∉ wr := fun z => nT (W.sub _ z)
  have nm : (toString "max" ++ toString ".loop" : String) = "max.loop" := by decide
  refine codeAny_builtin F.entry_max_loop ?_
  rw [Around.under_plainId F.plain_max_loop _]
  show wpAny _ A.in1 (seqItems? (.ref T) >>= _) _ _ s
  refine wpAny_bind (wpAny_seqItems hT rfl ?_)
  show wpAny _ A.in1 (tryCatch (pyNext (.ref I)) _ >>= _) _ _ s
  refine wpAny_bind (wpAny_tryCatch (W.item 0 s _ _ hn st fun v h' tk hP st' kp => ?_))
  have hT' := kp T _ nW hT
  show wpAny _ A.in1 (updateSeq T (fun _ => #[v, v]) >>= _) _ _ _
  refine wpAny_bind ?_
  refine wpAny_updateSeq hT' rfl ?_
  rw [nm]
  refine wpAny_pure ⟨plainId_quiet F.plain_max_loop _, max_turns W kw bt cmp T nT _ 0 _ v _ rfl hn (W.frame _ _ _ st' fun b hbf o e => ?_) hP (Heap.get?_update_self _ hT' rfl) fun v2 h2 t2 p2 k2 => ?_⟩
  · exact (Heap.get?_update_other _ _ (fun z : T = b => nT (by rw [z]; exact hbf))).trans e
  · exact hR v2 h2 t2 p2 fun b o n1 n2 e => k2 b o n1 n2 ((Heap.get?_update_other _ _ (Ne.symm n2)).trans (kp b o n1 e))
theorem max_none (W : Walks prog w A.in1 I fp wr 0 P St) (d : Value) (T : Addr) (nT : T ∉ fp) {s : Shared} {c : Nat} (st : St 0 s.heap) (hT : s.heap.get? T = some { cls := .type "list", dict := none, data := .seq #[] c, slots := #[] })
    (hR : ∀ h' tk, (∀ b o, b ∉ wr → b ≠ T → s.heap.get? b = some o → h'.get? b = some o) → R (.ok (.ret d)) { s with heap := h', toks := tk }) :
    codeAny (model prog w) A (.builtin "max.loop" ⟨[.ref I, .none, .ref T], [(Str.ofString "default", d)]⟩) R s := by
  refine codeAny_builtin F.entry_max_loop ?_
  rw [Around.under_plainId F.plain_max_loop _]
  show wpAny _ A.in1 (seqItems? (.ref T) >>= _) _ _ s
  refine wpAny_bind (wpAny_seqItems hT rfl ?_)
  show wpAny _ A.in1 (tryCatch (pyNext (.ref I)) _ >>= _) _ _ s
  refine wpAny_bind (wpAny_tryCatch (W.done s _ _ st fun h' tk kp => ?_))
  refine wpAny_bind (wpAny_rule (wpAny_pure ?_))
  exact hR h' tk fun b o n1 _ e => kp b o n1 e
theorem max_walkD {x d : Value} {Q : Value → Shared → Prop}
    (h : wpAny (model prog w) A.in1 (pyIter x) (fun it s₂ => ∃ I fp wr n P St bt, it = .ref I ∧ Walks prog w A.in1 I fp wr n P St ∧ St 0 s₂.heap ∧ (∀ b ∈ fp, b < s₂.heap.objs.size) ∧ CmpOf prog w A.in1 .Gt P bt ∧
      (0 < n → ∀ v h' tk, P (argBest bt (n - 1)) v → (∀ b o, b ∉ wr → s₂.heap.get? b = some o → h'.get? b = some o) → Q v { s₂ with heap := h', toks := tk }) ∧
      (n = 0 → ∀ h' tk, (∀ b o, b ∉ wr → s₂.heap.get? b = some o → h'.get? b = some o) → Q d { s₂ with heap := h', toks := tk })) E s) :
    wpAny (model prog w) A (call (.builtin "max") [x] [(Str.ofString "default", d)]) Q E s := by
  have nm : (toString "max" ++ toString ".loop" : String) = "max.loop" := by decide
  refine treeK F.kind_max F.plain_max F.entry_max (args_maxD _ _) ?_
  show wpAny _ A.in1 (Builtin.Builtins.bindParams "max" ["key", "default"] 0 ⟨[], [(Str.ofString "default", d)]⟩ >>= _) _ _ s
  refine wpAny_bind (wpAny_of_eq (show Builtin.Builtins.bindParams "max" ["key", "default"] 0 ⟨[], [(Str.ofString "default", d)]⟩ = pure [none, some d] from by with_unfolding_all rfl) ?_)
  refine wpAny_bind (wpAny_pure ?_)
  refine wpAny_bind (wpAny_mono h (fun it s₂ h₂ => ?_) fun _ _ e => e)
  obtain ⟨I, fp, wr, n, P, St, bt, rfl, W, st, hfp, cmp, q1, q2⟩ := h₂
  refine wpAny_bind (wpAny_newObj_type ?_)
  have nT : s₂.heap.objs.size ∉ fp := fun hm => Nat.lt_irrefl _ (hfp _ hm)
  have st' := W.frame _ _ _ st fun b _ o e => Heap.get?_push_of_some { cls := .type "list", data := .seq #[] } e
  rw [nm]
  refine wpAny_pure ⟨plainId_quiet F.plain_max_loop _, ?_⟩
  by_cases hn : 0 < n
  · refine max_first W _ bt cmp s₂.heap.objs.size nT hn st' (Heap.get?_push_size _ rfl) fun v h' tk hP hk => ?_
    exact q1 hn v h' tk hP fun b o hb e => hk b o hb (Nat.ne_of_lt (Heap.lt_size e)) (Heap.get?_push_of_some _ e)
  · have h0 : n = 0 := by omega
    subst h0
    refine max_none W d s₂.heap.objs.size nT st' (Heap.get?_push_size _ rfl) fun h' tk hk => ?_
    exact q2 rfl h' tk fun b o hb e => hk b o hb (Nat.ne_of_lt (Heap.lt_size e)) (Heap.get?_push_of_some _ e)
end
section
variable {X : Cx}
open PyProof.Rows
def maxDI (d : Int) : List Int → Int
  | [] => d
  | n :: ns => (maxI (n :: ns)).getD d
def rMaxD (K : PySem.W.Frag) : List V → List V → Hp → VK → Prop := fun vs zs H Q => ∃ (a : Addr) (ns : List Int) (d : Int), vs = [.ref a] ∧ zs = [.int d] ∧ SqL K H a (ns.map V.int) ∧
  (ns = [] → Q (.int d) H) ∧ (ns ≠ [] → ∀ m, m ∈ ns → (∀ k ∈ ns, k ≤ m) → Q (.int m) H)
theorem cr_maxD (hc : X.calm = true) : CallRK X (.builtin "max") [Str.ofString "default"] (rMaxD X.K) := by
  intro pins s σ H vs zs us ws Q I r rz h
  obtain ⟨a, ns, d, rfl, rfl, hs, q1, q2⟩ := h
  obtain rfl := Vals.ref1 r
  obtain ⟨w1, rfl, e1⟩ := vals1 rz
  obtain ⟨its, rv, hl, _⟩ := I.list hs
  obtain ⟨xs, e⟩ := rv.ints.allInts.items
  have hn : numsOf (intItems xs).toList = ns := by rw [← e]; exact rv.ints.numsOf
  rw [nums_intItems] at hn
  subst hn
  have hl' := hl.isList
  rw [e] at hl'
  show wpAny (model X.prog X.w) X.A (call (.builtin "max") [.ref a] [(Str.ofString "default", w1)]) (EP X pins σ Q) X.xe s
  refine max_walkD (iter_intList hl' fun s₂ es st hfp hlI => ?_)
  subst es
  refine ⟨_, _, _, _, _, _, _, rfl, Walks.list (A := X.A.in1) (I.ok.hd hc) _ a hlI (intItems xs), st, hfp, CmpOf.ints_gt (numAt xs) (fun _ _ => intItems_at), fun h0 v h' tk hP hk => ?_, fun h0 h' tk hk => ?_⟩
  · have hsz : 0 < xs.size := by simpa [intItems] using h0
    have hP' : (intItems xs)[argBest (fun i j => decide (numAt xs i > numAt xs j)) (xs.size - 1)]? = some v := by simpa [intItems] using hP
    obtain ⟨t, rfl⟩ := intItems_at hP'
    obtain ⟨h1, h2⟩ := argBest_gt (numAt xs) (xs.size - 1)
    refine ⟨.int _, H, I.kept (old_kept hk), ⟨_, rfl⟩, q2 (fun z => ?_) _ ?_ fun k hk' => ?_⟩
    · have h3 : xs.toList.length = 0 := by
        have := congrArg List.length z
        simpa only [List.length_map, List.length_nil] using this
      rw [Array.length_toList] at h3
      omega
    · rw [numAt_eq]; exact PySem.getD_mem (by rw [List.length_map, Array.length_toList]; omega)
    · obtain ⟨j, hj, rfl⟩ := mem_getD hk'
      rw [List.length_map, Array.length_toList] at hj
      rw [← numAt_eq]; exact h2 j (by omega)
  · have hsz : xs.size = 0 := by simpa [intItems] using h0
    refine ⟨.int d, H, I.kept (old_kept hk), e1, q1 ?_⟩
    apply List.eq_nil_of_length_eq_zero
    rw [List.length_map, Array.length_toList]
    exact hsz
end
def cMaxD : Sto → D → D → Option D := fun S x y => match y with
  | .int d => (lstD S x).bind fun xs => (intsD xs).map fun ns => .int (maxDI d ns)
  | _ => none
theorem maxI_some {ns : List Int} (h : ns ≠ []) : ∃ k, maxI ns = some k := by
  cases ns with
  | nil => exact absurd rfl h
  | cons a l => exact ⟨_, rfl⟩
section
variable {X : Cx} {e f : Expr} {p pos kp : Pos} {fa fb : E}
theorem d_maxD (hc : X.calm = true) (hg : Gl X "max") (hm : X.mg "max" = none) (ha : PE X e (tD X.K fa)) (hb : PE X f (tD X.K fb)) (hv : bootBuiltins "max" = some (.builtin "max") := by exact bt_max)
    (hst : starEach [e] X.env = (false, eval e X.env) :: starEach [] X.env := by rfl)
    (he : backTo pos (starEach [e] X.env) = (false, eval e X.env) :: backTo pos (starEach [] X.env) := by rfl) (hpl : (backTo pos (starEach [e] X.env)).any (·.1) = false := by rfl)
    (hall : (backToKw pos (keywordEach [⟨some "default", f, kp⟩] X.env)).all (·.1.isSome) = true := by rfl) (hnone : (backToKw pos (keywordEach [⟨some "default", f, kp⟩] X.env)).any (·.1.isNone) = false := by rfl) (hks : (backToKw pos (keywordEach [⟨some "default", f, kp⟩] X.env)).filterMap (·.1) = [Str.ofString "default"] := by rfl) :
    PE X (.Call (.Name "max" p) [e] [⟨some "default", f, kp⟩] pos) (tD X.K (e2 cMaxD fa fb)) :=
  pe_imp (pe_callBK (cr_maxD hc) hg hm hv (pa_cons ha pa_nil hst) (pk_cons hb pk_nil) (by decide) (by decide) he hpl hall hnone hks) fun σ H Q ⟨Z, μ, ρ, S, R, d, e, q⟩ => by
    simp only [e2, Option.bind_eq_some_iff] at e
    obtain ⟨x, e1, y, e2, e3⟩ := e
    cases y with
    | int k =>
      simp only [cMaxD, Option.bind_eq_some_iff, Option.map_eq_some_iff] at e3
      obtain ⟨ds, e4, ns, e5, rfl⟩ := e3
      have ed := ints_eq e5
      subst ed
      refine ⟨Z, μ, ρ, S, R, x, e1, fun v H1 s1 r1 => ⟨Z, μ, ρ, S, R.mono s1, _, e2, fun u H2 s2 r2 => ?_⟩⟩
      obtain ⟨a, xs, rfl, h1, hr⟩ := lst_of ((R.wd.mono s1).mono s2) (RV.mono s2 r1) e4
      have ex := rvl_intsA hr
      subst ex
      rw [rv_int.mp r2]
      refine ⟨a, ns, k, rfl, rfl, SqL.of h1, fun z => ?_, fun z m hm hk => ?_⟩
      · subst z
        exact q (.int k) H2 (s1.trans s2) (rv_int.mpr rfl)
      · obtain ⟨j, hj⟩ := maxI_some z
        have := maxI_of hj hm hk
        subst this
        refine q (.int m) H2 (s1.trans s2) (rv_int.mpr ?_)
        cases ns with
        | nil => exact absurd rfl z
        | cons a l => simp only [maxDI, hj, Option.getD_some]
    | _ => simp [cMaxD] at e3
end
end DL

set_option maxHeartbeats 4000000
namespace DL
open PySem PySem.Spec L2

/-! ### sorted(d), d a dict: its keys -/
section
open PySem.W PyProof.Rows SeqAt
variable {prog : Program} {w : World} {A : Around} {E : Value → Shared → Prop} {s : Shared}
/-- sorted of a thing of which we know what it tells, one behind another -/
theorem sorted_col {l : Addr} {Pv : List Value → Prop} {ltv : Value → Value → Bool} {Q : Value → Shared → Prop} (O : SrtO.Swo ltv)
    (hcol : ∀ (R : List Value → Shared → Prop), (∀ vs h' tk, (∀ b o, s.heap.get? b = some o → h'.get? b = some o) → Pv vs → R vs { s with heap := h', toks := tk }) → wpAny (model prog w) A.in1 (collect (.ref l)) R (fun e s' => E e s') s)
    (hz : ∀ vs, Pv vs → vs.length ≤ sizeLine)
    (hS : ∀ vs, Pv vs → 2 ≤ vs.length → ∀ (h₁ : Heap) (tk : Nat) (a : Addr), (∀ b o, s.heap.get? b = some o → b ≠ a ∧ h₁.get? b = some o) → SrtO.SortableO prog w A.in1.in1 { s with heap := h₁, toks := tk } a vs ltv)
    (h : ∀ vs, Pv vs → ∀ (out : List Value), SrtO.Srtd ltv out → SrtO.Stb ltv out vs → ∀ (h' : Heap) (tk : Nat) (p : Addr), (∀ b o, s.heap.get? b = some o → h'.get? b = some o) → s.heap.get? p = none → (∃ ep, h'.get? p = some (seqObj "list" out.toArray ep)) → Q (.ref p) { s with heap := h', toks := tk }) :
    wpAny (model prog w) A (call (.builtin "sorted") [.ref l]) Q E s := by
  refine Calls.call_function_entry kind_sorted plain_sorted entry_sorted (args_sorted1 _) (?_ : wpAny _ _ (Builtin.«sorted» _) _ _ _)
  unfold Builtin.«sorted»
  refine wpAny_bind (m := checkCount "sorted" 1 1 _) (wpAny_pure (wpAny_bind ?_))
  refine hcol _ fun vs h1 tk k1 pv => ?_
  show wpAny _ _ (newList vs >>= _) _ _ _
  refine wpAny_bind (wpAny_newList ?_ (hz vs pv))
  show wpAny _ _ _ _ _ { s with heap := h1.push (seqObj "list" vs.toArray 0), toks := tk }
  have hp : (h1.push (seqObj "list" vs.toArray 0)).get? h1.objs.size = some (seqObj "list" vs.toArray 0) := Heap.get?_push_size _ rfl
  have hn : ∀ b u, h1.get? b = some u → b ≠ h1.objs.size := fun b u e => Nat.ne_of_lt (Heap.lt_size e)
  have kk : ∀ b o, s.heap.get? b = some o → b ≠ h1.objs.size ∧ (h1.push (seqObj "list" vs.toArray 0)).get? b = some o := fun b o e => ⟨hn b o (k1 b o e), Heap.get?_push_of_some _ (k1 b o e)⟩
  have hf : s.heap.get? h1.objs.size = none := by
    cases e : s.heap.get? h1.objs.size with
    | none => rfl
    | some u => exact absurd rfl (hn _ _ (k1 _ _ e))
  refine wpAny_bind (wpAny_holding (wpAny_call_entry slot_list_sort ⟨_, hp, rfl⟩ entry_list_sort (SrtO.list_sort_ord O hp (hz vs pv) (fun h2 => hS vs pv h2 _ _ _ kk) fun out hs hb => ⟨_, rfl, wpAny_pure ⟨_, rfl, ?_⟩⟩) (args_list_sort _)))
  exact h vs pv out hs hb _ _ _ (fun b o e => sortedHeap_old (kk b o e).1 (Heap.lt_size (kk b o e).2) ▸ (kk b o e).2) hf (sortedHeap_at hp)
end
section
variable {K : PySem.W.Frag} {H : Hp}
theorem rv_keyD {av : Addr → Prop} {μ : List Addr} (k : Key) : RV K av μ H (keyD k) (kV k) := by
  cases k with
  | inl i => exact rv_int.mpr rfl
  | inr s => exact rv_str.mpr rfl
theorem rvl_keyDs {av : Addr → Prop} {μ : List Addr} : ∀ ks : List Key, RVL K av μ H (ks.map keyD) (ks.map kV)
  | [] => RVL.nil'
  | k :: ks => RVL.cons' (rv_keyD k) (rvl_keyDs ks)
theorem rvl_dK {av : Addr → Prop} {μ : List Addr} (kvs : List (Key × V)) : RVL K av μ H (dicKs kvs) (kvs.map fun kv => kV kv.1) := by
  have := rvl_keyDs (K := K) (H := H) (av := av) (μ := μ) (kvs.map (·.1))
  rw [List.map_map, List.map_map] at this
  exact this
theorem rvl_dT {av : Addr → Prop} {μ : List Addr} {kvs : List (List Key × V)} {bs : List Addr} (r : IsKeys H kvs bs) : RVL K av μ H (dicKsT kvs) (bs.map V.ref) := by
  unfold IsKeys at r
  induction r with
  | nil => exact RVL.nil'
  | cons h t ih => exact RVL.cons' (rv_tup.mpr ⟨_, _, rfl, h, rvl_keyDs _⟩) ih
end
section
open PyProof.Rows
variable {X : Cx}
/-- what the dict at a tells, one key behind another, when it is gone through -/
theorem keys_col {pins : List (Addr × Obj)} {σ : L2.St} {H : Hp} {s : Shared} {a : Addr} {ks : List D} (hc : X.calm = true) (I : Inv X pins σ H s)
    (hd : (∃ kvs, H a = some (.dK kvs) ∧ ks = dicKs kvs) ∨ ∃ kvs, H a = some (.dT kvs) ∧ ks = dicKsT kvs) :
    ∃ xs : List V, (∀ (av : Addr → Prop) (μ : List Addr), RVL X.K av μ H ks xs) ∧ xs.length ≤ sizeLine ∧
    ∀ (R : List Value → Shared → Prop) (E : Value → Shared → Prop), (∀ vs h' tk, (∀ b o, s.heap.get? b = some o → h'.get? b = some o) → Vals xs vs → R vs { s with heap := h', toks := tk }) → wpAny (model X.prog X.w) X.A.in1 (collect (.ref a)) R E s := by
  rcases hd with ⟨kvs, hk, rfl⟩ | ⟨kvs, hk, rfl⟩
  · obtain ⟨z, lo, vs, rk, hd⟩ := (show ObjOk X.prog X.w H s.heap a (.dK kvs) from I.hok a _ hk)
    obtain ⟨ep, hat⟩ := hd.dictAt
    have hl : kvs.length = vs.length := Paired.length rk
    refine ⟨kvs.map fun kv => kV kv.1, fun av μ => rvl_dK kvs, by rw [List.length_map]; exact z, fun R E h => ?_⟩
    refine PySem.W.kdu_collect (A := X.A.in1) (PySem.W.kdl_dict (knd := mixKind X.prog X.w) (kvs := vs) (ep := ep) lo) (I.ok.hd hc) hat (by rw [← hl]; exact z) fun h' tk acc hkeep hacc => ?_
    refine h _ _ _ hkeep ?_
    have el : acc.toList.length = acc.size := by simp
    refine vals_of_at (by rw [List.length_map, el, hacc.1, hl]) fun j x w h1 h2 => ?_
    obtain ⟨k, y, hky, hi⟩ := hacc.2 j w (by rw [← Array.getElem?_toList]; exact h2)
    have e1 : (kvs.map (·.1))[j]? = some k := by
      rw [KV.keys rk, List.getElem?_map, hky]; rfl
    have e2 : (kvs.map fun kv => kV kv.1)[j]? = some (kV k) := by
      have e3 : (kvs.map fun kv => kV kv.1) = (kvs.map (·.1)).map kV := by rw [List.map_map]; rfl
      rw [e3, List.getElem?_map, e1]; rfl
    rw [e2] at h1
    cases h1
    exact keyIs_rel hi
  · obtain ⟨z, hs, ks, pr, o, es, ep, ho, hx, hdt, he, hn⟩ := (show ObjOk X.prog X.w H s.heap a (.dT kvs) from I.hok a _ hk)
    have l1 : es.size = ks.length := size_of_entries he
    have l2 : kvs.length = ks.length := Paired.length pr
    refine ⟨(ks.map fun x => x.2.1).map V.ref, fun av μ => rvl_dT (isKeys_of pr), by rw [List.length_map, List.length_map]; omega, fun R E h => ?_⟩
    refine PySem.W.kdu_collect (A := X.A.in1) (kdl_raw hs hx hdt) (I.ok.hd hc) ho (by omega) fun h' tk acc kp it => ?_
    refine h _ _ _ kp ?_
    have ea : acc.toList = ks.map fun x => Value.ref x.2.1 := by
      have hl : acc.toList.length = ks.length := by rw [Array.length_toList, it.1]; exact l1
      apply List.ext_getElem?
      intro j
      rw [List.getElem?_map]
      cases hj : acc.toList[j]? with
      | none =>
        have h1 := List.getElem?_eq_none_iff.mp hj
        rw [List.getElem?_eq_none (by omega)]
        rfl
      | some v =>
        obtain ⟨en, hen, hv⟩ := it.2 j v (by rw [← Array.getElem?_toList]; exact hj)
        have qe := entry_at he j
        rw [hen] at qe
        cases hb : ks[j]? with
        | none =>
          rw [hb] at qe
          exact nomatch (show some en = none from qe)
        | some b =>
          rw [hb] at qe
          have e2 : en = entryOfKey (tupleKind (mixKind X.prog X.w)) b := Option.some.inj qe
          rw [hv, e2]
          rfl
    have eb : acc.toList = (ks.map fun x => x.2.1).map Value.ref := by rw [ea, List.map_map]; rfl
    rw [eb]
    exact vals_refs _
def rSortK (K : PySem.W.Frag) : List V → Hp → VK → Prop := fun vs H Q => ∃ (a : Addr) (ks : List D), vs = [.ref a] ∧ ((∃ kvs, H a = some (.dK kvs) ∧ ks = dicKs kvs) ∨ ∃ kvs, H a = some (.dT kvs) ∧ ks = dicKsT kvs) ∧ gdS ks = true ∧
  ∀ (l' : List (V × D)) q, l'.map (·.2) = sortD ks → (∀ (av : Addr → Prop) (μ : List Addr), RVL K av μ H (l'.map (·.2)) (l'.map (·.1))) → H q = none → Q (.ref q) (upd H q (.lst (l'.map (·.1))))
theorem cr_sortK (hc : X.calm = true) (hu : X.A.units + 64 < cLine) : CallR X (.builtin "sorted") (rSortK X.K) := by
  intro pins s σ H vs us Q I r h
  obtain ⟨a, ks, rfl, hs, hg, q⟩ := h
  rw [Vals.ref1 r]
  obtain ⟨xs, hr, hz0, col⟩ := keys_col hc I hs
  have hg' := hg
  simp only [gdS, Bool.and_eq_true] at hg'
  have ok : okDs 60 ks = true := hg'.1.1
  have rl := hr (fun _ => False) []
  obtain ⟨y1, y2, y3⟩ := rvl_zip rl
  have hal : AlkAll (toPs ks) := by
    rw [toPs_map]
    intro x hx y hy
    obtain ⟨x', hx', rfl⟩ := List.mem_map.mp hx
    obtain ⟨y', hy', rfl⟩ := List.mem_map.mp hy
    exact gdS_alk hg _ hx' _ hy'
  have hnn : ∀ x ∈ toPs ks, x ≠ .none := by
    rw [toPs_map]
    intro x hx
    obtain ⟨x', hx', rfl⟩ := List.mem_map.mp hx
    have := List.all_eq_true.mp hg'.1.2 x' hx'
    have k := okDs_mem ok hx'
    cases x' <;> simp [isNon] at this <;> simp [toP]
  have hdep := (okDs_lay 60 _ ok).2
  have huu : X.A.in1.in1.units + PyData.depthAll (toPs ks) < cLine := by
    show X.A.units + 1 + 1 + _ < _
    omega
  have hd : DpAll X.K H xs (toPs ks) := dps_of _ _ _ ok rl
  have reads : ∀ its, Vals xs its → ∃ as, ReadsAll s.heap its (toPs ks) as := fun its rv => Dp.readsAll I _ _ _ hd rv
  refine sorted_col (Pv := Vals xs) (ltv := fun v u => PySem.W.dataLt (rdV s.heap (toPs ks) v) (rdV s.heap (toPs ks) u)) ⟨fun x y => swo_data.asym _ _, fun x y z => swo_data.tr _ _ _⟩ (fun R h => col R _ h) (fun vs rv => by rw [← rv.length]; exact hz0) (fun vs rv h2 h₁ tk a' kk => ?_) fun its rv out hs hb h' tk p keep hf he => ?_
  · obtain ⟨as, ra⟩ := reads vs rv
    exact data_sortable (s := { s with heap := h₁, toks := tk }) ra kk hal hnn huu h2
  · obtain ⟨as, ra⟩ := reads its rv
    have rv' : Vals ((xs.zip ks).map (·.1)) its := by rw [y1]; exact rv
    have ra' : ReadsAll s.heap its (toPs ((xs.zip ks).map (·.2))) as := by rw [y2]; exact ra
    obtain ⟨z1, z2, z3⟩ := zipR rv' ra'
    obtain ⟨m', pm, eo⟩ := perm_map_inv (fun p : Value × (V × D) => p.1) hb.perm (its.zip (xs.zip ks)) z1.symm
    have hm : ∀ p ∈ m', RelV p.2.1 p.1 ∧ ∃ bs, Reads s.heap p.1 (toP p.2.2) bs := fun p hp => z3 p (pm.mem_iff.mp hp)
    have pl : (m'.map (·.2)).Perm (xs.zip ks) := by
      have := pm.map (·.2)
      rwa [z2] at this
    have hn := hok_none I.hok hf
    subst eo
    have hv' := valsR fun p hp => (hm p hp).1
    obtain ⟨ep, he⟩ := he
    have hz' : ((m'.map (·.2)).map (·.1)).length ≤ sizeLine := by
      rw [List.length_map, pl.length_eq]
      have : (xs.zip ks).length = xs.length := by
        have := congrArg List.length y1
        simpa using this
      rw [this]
      exact hz0
    have pw := pwR hal (fun x hx => ⟨by
      rw [toPs_map]
      have hx2 : x.2 ∈ xs.zip ks := pl.mem_iff.mp (List.mem_map_of_mem (f := fun p : Value × (V × D) => p.2) hx)
      have : x.2.2 ∈ ks := by
        rw [← y2]
        exact List.mem_map_of_mem (f := fun p : V × D => p.2) hx2
      exact List.mem_map_of_mem (f := toP) this, (hm x hx).2⟩) hs
    have es : (m'.map (·.2)).map (·.2) = sortD ks := sortD_uniq hg (by have := pl.map (·.2); rwa [y2] at this) (List.pairwise_map.mpr pw)
    refine ⟨.ref p, upd H p (.lst ((m'.map (·.2)).map (·.1))), I.laidN (t' := tk) keep hf hn ⟨hz', _, ep, hv', he⟩, rfl, q _ p es (fun av μ => ?_) hn⟩
    obtain ⟨_, _, w3⟩ := rvl_zip (hr av μ)
    exact rvl_unzip fun p m => w3 p (pl.mem_iff.mp m)
end
/-- the keys, sorted -/
def cSortedK : Sto → List D → Option (List D) := fun S ds => match ds with
  | [x] => (dicD S x).bind fun p => if gdS p.2.1 then some (sortD p.2.1) else none
  | _ => none
theorem cf_sortedK {K : PySem.W.Frag} : CallF K (rSortK K) cSortedK := by
  intro Z μ H S ds es vs Q W r e q
  unfold cSortedK at e
  split at e
  · rw [Option.bind_eq_some_iff] at e
    obtain ⟨⟨t, ks, ws⟩, e1, e2⟩ := e
    split at e2
    · rename_i hg
      cases e2
      obtain ⟨v, rfl, rx⟩ := rvl1 r
      obtain ⟨a, rfl, h⟩ := dic_of W rx e1
      refine ⟨a, ks, rfl, ?_, hg, fun l' p es rl hn => ?_⟩
      · rcases h with ⟨_, kvs, h1, h2, _⟩ | ⟨_, kvs, h1, h2, _⟩
        · exact .inl ⟨kvs, h1, h2⟩
        · exact .inr ⟨kvs, h1, h2⟩
      · have s : Same H (upd H p (.lst (l'.map (·.1)))) := fun c o z => by rw [upd_ne (ne_of_none z hn)]; exact z
        refine q p _ _ hn s upd_same (RVL.newO s hn ?_)
        show RVL K _ μ H (sortD ks) _
        rw [← es]
        exact rl _ _
    · cases e2
  · cases e
end DL

set_option maxHeartbeats 4000000
namespace DL
open PySem PySem.Spec L2

/-! ### sorted(xs, key=f), f a def -/
section
open PySem.W PyProof.Rows
variable {prog : Program} {w : World} {A : Around} {E : Value → Shared → Prop} {s : Shared} {a kS : Addr} {vs : List Value} {keys : Array Value} {e e1 : Nat} {P : PySem.Fin → Shared → Prop}
theorem skey_tail {st : SortSt} {out : List Value} (nk : s.heap.get? kS = some (seqObj "list" keys e)) (na : s.heap.get? a = some (seqObj "list" #[] e1)) (hka : kS ≠ a)
    (hsz : keys.size ≤ sizeLine) (hz : out.length ≤ sizeLine) (hfl : failedOf st = none) (ho : ((arrOf st).map (·.2)) = out.toArray)
    (h : ∀ h' c, (∀ b, b ≠ a → b ≠ kS → h'.get? b = s.heap.get? b) → h'.get? a = some (seqObj "list" out.toArray c) → P (.done (.ret .none)) { s with heap := h' }) :
    wpAny (model prog w) A (ksk_tail a false e1 (.ref kS) st) P E s := by
  have s1 := Heap.SameBut.update s.heap kS (Obj.mapSeq fun _ => (#[] : Array Value))
  have na1 : (s.heap.update kS (Obj.mapSeq fun _ => (#[] : Array Value))).get? a = some (seqObj "list" #[] e1) := (s1.2 a hka.symm).trans na
  have s2 := Heap.SameBut.update (s.heap.update kS (Obj.mapSeq fun _ => (#[] : Array Value))) a (Obj.mapSeq fun _ => out.toArray)
  obtain ⟨c2, hc2⟩ : ∃ c2, ((s.heap.update kS (Obj.mapSeq fun _ => (#[] : Array Value))).update a (Obj.mapSeq fun _ => out.toArray)).get? a = some (seqObj "list" out.toArray c2) :=
    ⟨_, get?_update_seq na1 fun _ => out.toArray⟩
  have hz2 : out.toArray.size ≤ sizeLine + 1 := by
    rw [List.size_toArray]
    exact Nat.le_succ_of_le hz
  unfold ksk_tail
  try dsimp only
  simp only [Bool.false_eq_true, if_false]
  rw [ho]
  refine wpAny_bind (listUpdate_at nk rfl ?_ hsz (Nat.zero_le _))
  refine wpAny_bind (wpAny_letGo ?_)
  refine wpAny_bind (seqEpoch_at na1 rfl ?_)
  refine wpAny_bind (listUpdate_at na1 rfl ?_ (Nat.zero_le _) hz2)
  rw [hfl]
  simp only [bne_self_eq_false, Bool.false_eq_true, if_false]
  exact wpAny_pure (h _ c2 (fun b h1 h2 => (s2.2 b h1).trans (s1.2 b h2)) hc2)
theorem skey_end {κ : PyProof.Rows.KeyKind} (nk : s.heap.get? kS = some (seqObj "list" keys e)) (na : s.heap.get? a = some (seqObj "list" #[] e1)) (hka : kS ≠ a)
    (S : SortsAt prog w A s κ keys.toList) (hsz : keys.size = vs.length) (hZ : vs.length ≤ sizeLine)
    (h : ∀ h' c, (∀ b, b ≠ a → b ≠ kS → h'.get? b = s.heap.get? b) → h'.get? a = some (seqObj "list" (sortVals κ false keys.toList vs).toArray c) → P (.done (.ret .none)) { s with heap := h' }) :
    wpAny (model prog w) A (ksk_end a false vs.toArray e1 (.ref kS) keys) P E s := by
  obtain ⟨kd, h1, h2⟩ := S.kind
  have hkl : keys.toList.length = vs.length := by
    rw [Array.length_toList]
    exact hsz
  have hK : PyProof.Rows.KeysOf κ (keys.zip vs.toArray) := keysOf_zip S.keys
  have hol : (sortVals κ false keys.toList vs).length = vs.length := sortVals_length false hkl
  have hss : (keys.zip vs.toArray).size = vs.length := by rw [Array.size_zip, hsz, List.size_toArray, Nat.min_self]
  have fin : ∀ st' : SortSt, (arrOf st').Perm (keys.zip vs.toArray) → SortedToK κ (arrOf st') (keys.zip vs.toArray).size →
      Stable κ (arrOf st') (keys.zip vs.toArray) → ((arrOf st').map (·.2)) = (sortVals κ false keys.toList vs).toArray := by
    intro st' hp hs ht
    have e := sort_out (rev := false) (keys := keys) (items := vs.toArray) (xs := arrOf st') (κ := κ) hK hp hs ht
    have e' := congrArg List.toArray e
    rw [Array.toArray_toList] at e'
    exact e'
  unfold ksk_end
  try dsimp only
  simp only [Bool.false_eq_true, if_false]
  by_cases hl2 : vs.toArray.size < 2
  · rw [if_pos hl2, if_pos hl2]
    refine wpAny_bind (wpAny_pure ?_)
    rw [StateT.run_pure]
    refine wpAny_bind (wpAny_pure ?_)
    try dsimp only
    refine skey_tail (st := SortSt.mk' general' (keys.zip vs.toArray) #[] 7 none) nk na hka (by rw [hsz]; exact hZ) (by rw [hol]; exact hZ) rfl (fin _ (Array.Perm.refl _) ?_ (Stable.refl _)) h
    intro i j hij hj
    rw [hss] at hj
    rw [List.size_toArray] at hl2
    have : i = j := by omega
    subst this
    exact KeyOrd.kle_refl _
  · rw [if_neg hl2, if_neg hl2]
    rw [List.size_toArray] at hl2
    refine wpAny_bind (h2 (by omega) _ ?_)
    refine wpAny_bind (wpAny_mono (H.wpS_sortRunsSt (κ := κ) (kd := kd) (a₀ := keys.zip vs.toArray)
      (st := SortSt.mk' kd (keys.zip vs.toArray) #[] 7 none)
      (Q := fun _ st' => failedOf st' = none ∧ ((arrOf st').map (·.2)) = (sortVals κ false keys.toList vs).toArray)
      h1 hK ⟨Array.Perm.refl _, rfl, rfl⟩ rfl (Stable.refl _) (by rw [hss]; omega) fun st' a1 a2 a3 a4 => ⟨a2, fin st' a1 a3 a4⟩) ?_ fun _ _ e => e)
    rintro ⟨⟨⟩, st'⟩ s' ⟨rfl, hf, ho⟩
    try dsimp only at ho ⊢
    exact skey_tail nk na hka (by rw [hsz]; exact hZ) (by rw [hol]; exact hZ) hf ho h
end

def sortKD (ks xs : List D) : List (D × D) := (xs.zip ks).mergeSort fun x y => !ltD y.2 x.2
def tupNe : D → Bool
  | .tup (_ :: _) => true
  | _ => false
section
open PySem.W PyProof.Rows
variable {X : Cx} {k : Nat} {f : Addr} {fd : FuncData} {ps : List Str} {g : List D → Option D} {pins : List (Addr × Obj)} {σ : L2.St} {H : Hp} {s : Shared}
theorem each_snoc' {α β : Type} {R : α → β → Prop} {x : α} {y : β} (hxy : R x y) {as : List α} {bs : List β} (h : EachIs R as bs) : EachIs R (as ++ [x]) (bs ++ [y]) := each_snoc hxy h
theorem rvl_snoc {K : PySem.W.Frag} {av : Addr → Prop} {μ : List Addr} {H : Hp} {d : D} {v : V} (h1 : RV K av μ H d v) : ∀ {ds : List D} {ys : List V}, RVL K av μ H ds ys → RVL K av μ H (ds ++ [d]) (ys ++ [v])
  | [], ys, h => by
    unfold RVL at h
    subst h
    exact RVL.cons' h1 RVL.nil'
  | e :: ds, ys, h => by
    unfold RVL at h
    obtain ⟨y, ys, rfl, h2, h3⟩ := h
    exact RVL.cons' h2 (rvl_snoc h1 h3)
theorem vals_each : ∀ {out : List Value} {bs : List (V × D × D)}, EachIs (fun (v : Value) (b : V × D × D) => RelV b.1 v) out bs → Vals (bs.map (·.1)) out
  | _, _, .nil => .nil
  | _, _, .cons h t => .cons h (vals_each t)
theorem vals_snoc {v : V} {u : Value} (r : RelV v u) {vs : List V} {us : List Value} (h : Vals vs us) : Vals (vs ++ [v]) (us ++ [u]) := h.append (.cons r .nil)
theorem spD1 {K : PySem.W.Frag} {Av : Addr → Prop} {H : Hp} {x kd : D} {v : V} {Q : VK} (hA : ∀ a, Av a → H a ≠ none) (r : RV K Av [] H x v) (e : g [x] = some kd) (q : ∀ v H', Same H H' → RV K Av [] H' kd v → Q v H') : spD K 1 g [v] H Q E0 :=
  ⟨Av, [x], rfl, hA, RVL.cons' r RVL.nil', kd, e, q⟩
theorem retrack {a c : Addr} {o : HO} {h' : Heap} (I : Inv X pins σ H s) (keep : ∀ b, b ≠ a → b ≠ c → h'.get? b = s.heap.get? b) (na : H a = none) (nc : H c = none)
    (ra : a ≠ X.env.locals ∧ ¬a ∈ X.fs ∧ (a ∈ X.ex ∨ X.s_0.heap.objs.size ≤ a) ∧ (∀ (x : Str) (c : Addr), List.lookup x X.env.cells = some c → c ≠ a) ∧ ∀ (p : Addr × Obj), p ∈ X.pn ++ pins → p.fst ≠ a)
    (rc : c ≠ X.env.locals ∧ ¬c ∈ X.fs ∧ (c ∈ X.ex ∨ X.s_0.heap.objs.size ≤ c) ∧ (∀ (x : Str) (d : Addr), List.lookup x X.env.cells = some d → d ≠ c) ∧ ∀ (p : Addr × Obj), p ∈ X.pn ++ pins → p.fst ≠ c)
    (new : ObjOk X.prog X.w (upd H a o) h' a o) : Inv X pins σ (upd H a o) { s with heap := h' } := by
  have nm : ∀ {b}, b ∉ [a, c] → b ≠ a ∧ b ≠ c := fun {b} h => ⟨fun z => h (by simp [z]), fun z => h (by simp [z])⟩
  have ne : ∀ b u, H b = some u → b ≠ a ∧ b ≠ c := fun b u e => ⟨fun z => by (rw [z, na] at e; cases e), fun z => by (rw [z, nc] at e; cases e)⟩
  have kp : ∀ b, b ∉ [a, c] → h'.get? b = s.heap.get? b := fun b h => keep b (nm h).1 (nm h).2
  refine I.step (g' := s.gens) (d' := s.drawn) (t' := s.toks) (ch := [a, c]) (fun b hb => ?_) (fun b u _ _ hc e _ => (kp b hc).trans e) (fun b u _ _ hc e _ => ⟨u.slots, (kp b hc).trans e⟩) (fun b u hc e n => by rw [upd_ne (nm hc).1]; exact n)
    (fun b u hc e => ⟨u, (kp b hc).trans e⟩) (fun b xs e => by rw [upd_ne (ne b _ e).1]; exact e) (fun b u xs e => by rw [upd_ne (ne b _ e).1]; exact e) (fun b ps e => ⟨#[], by rw [upd_ne (ne b _ e).1, e]; simp⟩) (fun m hm => ?_) (fun b u e => ?_) I.bare
  · rcases List.mem_cons.mp hb with rfl | hb
    · exact ⟨ra.2.2.1, ra.1, ra.2.2.2.1, ra.2.2.2.2⟩
    · rw [List.mem_singleton.mp hb]
      exact ⟨rc.2.2.1, rc.1, rc.2.2.2.1, rc.2.2.2.2⟩
  · obtain ⟨o, es, ep, ho, r⟩ := hm
    exact ⟨o, es, ep, (keep _ (Ne.symm ra.1) (Ne.symm rc.1)).trans ho, r⟩
  · by_cases hb : b = a
    · subst hb
      rw [upd_same] at e
      cases e
      exact new
    · rw [upd_ne hb] at e
      refine (I.hok b u e).stay (fun d v hc q => ?_) (fun d q => by rw [upd_ne (ne d _ q).1]; exact q) fun d xs q => by rw [upd_ne (ne d _ q).1]; exact q
      have hd : d ≠ a ∧ d ≠ c := by
        rcases hc with z | z
        · rw [z]; exact ne b u e
        · exact ne d _ z
      exact (keep d hd.1 hd.2).trans q
theorem sorted_key_run {l : Addr} {ys : List V} {xs ks : List D} {Av : Addr → Prop} {Q : VK} (F : FnOk X.prog X.w X.K X.mg X.base CX0 k f fd ps (spD X.K 1 g)) (hb : Binds X.K fd ps []) (hr : Room (k + 2) X.A)
    (I : Inv X pins σ H s) (hs : SqL X.K H l ys) (hA : ∀ a, Av a → H a ≠ none) (rx : RVL X.K Av [] H xs ys) (hk : EachIs (fun x kd => g [x] = some kd) xs ks) (hg : gdS ks = true) (ht : ks.all tupNe = true)
    (q : ∀ p (bs : List (V × D × D)) H', H p = none → Same H H' → H' p = some (.lst (bs.map (·.1))) → bs.Perm (ys.zip (xs.zip ks)) → bs.map (·.2) = sortKD ks xs → Q (.ref p) H') :
    wpAny (model X.prog X.w) X.A (call (.builtin "sorted") [.ref l] [(Str.ofString "key", .ref f)]) (EP X pins σ Q) X.xe s := by
  obtain ⟨vs, rv, pl, hz⟩ := I.list hs
  have hZ : vs.length ≤ sizeLine := by rw [← rv.length]; exact hz
  have hn1 : xs.length = ys.length := (RVL.length rx).symm
  have hn2 : xs.length = ks.length := hk.length
  have hn3 : ys.length = vs.length := rv.length
  have hg' := hg
  simp only [gdS, Bool.and_eq_true] at hg'
  have ok : okDs 60 ks = true := hg'.1.1
  have hdep := (okDs_lay 60 _ ok).2
  have hal : AllAlike (ks.map toP) := by
    intro d hd d' hd'
    obtain ⟨x, hx, rfl⟩ := List.mem_map.mp hd
    obtain ⟨y, hy, rfl⟩ := List.mem_map.mp hd'
    exact gdS_alk hg x hx y hy
  have hsk : Sortable (ks.map toP) := .inl fun d hd => by
    obtain ⟨x, hx, rfl⟩ := List.mem_map.mp hd
    have := List.all_eq_true.mp ht x hx
    unfold tupNe at this
    split at this
    · exact ⟨_, _, by rw [toP, toPs]⟩
    · cases this
  have hun := hr.un
  have hu : ∀ d, d ∈ ks.map toP → X.A.in1.in1.units + d.depth < cLine := fun d hd => by
    have h1 := depth_le (x := d) (xs := toPs ks) (by rw [toPs_map]; exact hd)
    show X.A.units + 1 + 1 + _ < _
    have : (65 : Nat) ≤ 200 := by decide
    omega
  refine sorted_of_sort pl.isList hZ (ksk_s1 _ _) (fun _ => ksk_l1 _ _) fun E' => ?_
  rw [ksk_t1]
  -- the copy
  have hcs : s.heap.objs.size ≤ s.heap.objs.size + 1 := Nat.le_succ _
  have na0 : H (s.heap.objs.size + 1) = none := I.hok.fresh hcs
  have ra := (I.fpOk hcs na0).2
  generalize hae : s.heap.objs.size + 1 = a at *
  have ho : (copyHeap s.heap vs).get? a = some (seqObj "list" vs.toArray 0) := by rw [← hae]; exact copyHeap_at _ _
  have I1 : Inv X pins σ H { s with heap := copyHeap s.heap vs } := I.kept (t' := s.toks) fun _ _ e => copyHeap_old e
  have s1 := Heap.SameBut.update (copyHeap s.heap vs) a (Obj.mapSeq fun _ => (#[] : Array Value))
  obtain ⟨e1, ho1⟩ : ∃ e1, ((copyHeap s.heap vs).update a (Obj.mapSeq fun _ => (#[] : Array Value))).get? a = some (seqObj "list" #[] e1) := ⟨_, get?_update_seq ho fun _ => #[]⟩
  have I2 : Inv X pins σ H { s with heap := (copyHeap s.heap vs).update a (Obj.mapSeq fun _ => (#[] : Array Value)) } := I1.turned (t' := s.toks) (fun c o hc e => (s1.2 c hc).trans e) na0 ra.1 ra.2.2.1 ra.2.2.2.1 ra.2.2.2.2
  unfold ksk_tree
  refine wpAny_bind (listItems_at (s := { s with heap := copyHeap s.heap vs }) ho rfl ?_)
  refine wpAny_bind (listUpdate_at (s := { s with heap := copyHeap s.heap vs }) ho rfl ?_ (by rw [List.size_toArray]; exact hZ) (Nat.zero_le _))
  refine wpAny_bind (seqEpoch_at (s := { s with heap := (copyHeap s.heap vs).update a (Obj.mapSeq fun _ => (#[] : Array Value)) }) ho1 rfl ?_)
  refine wpAny_bind (wpAny_newTuple ?_ (by show vs.length ≤ _; exact hZ))
  refine wpAny_bind (wpAny_newList ?_ (Nat.zero_le _))
  refine wpAny_holding ?_
  generalize hh2 : (copyHeap s.heap vs).update a (Obj.mapSeq fun _ => (#[] : Array Value)) = h2 at *
  have I3 : Inv X pins σ H { s with heap := h2.push (seqObj "tuple" vs.toArray 0) } := I2.kept (t' := s.toks) fun _ _ e => Heap.get?_push_of_some _ e
  have hfr : (h2.push (seqObj "tuple" vs.toArray 0)).objs.size ≤ (h2.push (seqObj "tuple" vs.toArray 0)).objs.size := Nat.le_refl _
  have nk0 : H (h2.push (seqObj "tuple" vs.toArray 0)).objs.size = none := I3.hok.fresh hfr
  have rk := (I3.fpOk hfr nk0).2
  have hka : (h2.push (seqObj "tuple" vs.toArray 0)).objs.size ≠ a := fun z => by
    have := Heap.lt_size (Heap.get?_push_of_some (seqObj "tuple" vs.toArray 0) ho1)
    rw [z] at this
    exact Nat.lt_irrefl _ this
  have I4 : Inv X pins σ H { s with heap := (h2.push (seqObj "tuple" vs.toArray 0)).push (seqObj "list" #[] 0) } := I3.kept (t' := s.toks) fun _ _ e => Heap.get?_push_of_some _ e
  have nk : ((h2.push (seqObj "tuple" vs.toArray 0)).push (seqObj "list" #[] 0)).get? (h2.push (seqObj "tuple" vs.toArray 0)).objs.size = some (seqObj "list" #[] 0) := Heap.get?_push_size _ rfl
  have na : ((h2.push (seqObj "tuple" vs.toArray 0)).push (seqObj "list" #[] 0)).get? a = some (seqObj "list" #[] e1) := Heap.get?_push_of_some _ (Heap.get?_push_of_some _ ho1)
  show wpAny _ _ (ksk_rest a (.ref f) false vs.toArray e1 (.ref (h2.push (seqObj "tuple" vs.toArray 0)).objs.size)) _ _ { s with heap := (h2.push (seqObj "tuple" vs.toArray 0)).push (seqObj "list" #[] 0) }
  generalize (h2.push (seqObj "tuple" vs.toArray 0)).objs.size = kS at *
  generalize (h2.push (seqObj "tuple" vs.toArray 0)).push (seqObj "list" #[] 0) = h3 at *
  unfold ksk_rest
  refine wpAny_bind (wpAny_rule ?_)
  first
    | rw [List.forIn_toArray]
    | (rw [← Array.forIn_toList]; simp only [List.toList_toArray])
    | rw [← Array.forIn_toList]
  refine wpAny_bind (ksk_fold (fun i s' => ∃ H' kA e kvs, Inv X pins σ H' s' ∧ H' a = none ∧ H' kS = none ∧ Same H H' ∧ s'.heap.get? a = some (seqObj "list" #[] e1) ∧ s'.heap.get? kS = some (seqObj "list" kA e) ∧
      Vals kvs kA.toList ∧ RVL X.K Av [] H' (ks.take i) kvs) vs 0 _
    ⟨H, #[], 0, [], I4, na0, nk0, fun _ _ e => e, na, nk, .nil, RVL.nil'⟩ ?step ?done)
  case step =>
    rintro j x s' hx ⟨H', kA, e, kvs, I', na', nk', sm, ga, gk, rk', rl⟩
    simp only [Nat.zero_add] at rl ⊢
    have hj : j < vs.length := (List.getElem?_eq_some_iff.mp hx).1
    obtain ⟨y, hy⟩ : ∃ y, ys[j]? = some y := ⟨_, List.getElem?_eq_getElem (by omega)⟩
    obtain ⟨dx, hdx⟩ : ∃ dx, xs[j]? = some dx := ⟨_, List.getElem?_eq_getElem (by omega)⟩
    obtain ⟨kd, hkd⟩ : ∃ kd, ks[j]? = some kd := ⟨_, List.getElem?_eq_getElem (by omega)⟩
    have ry : RelV y x := by
      obtain ⟨u, hu1, hu2⟩ := rv.get hy
      rw [hx] at hu1
      cases hu1
      exact hu2
    have rd : RV X.K Av [] H dx y := by
      obtain ⟨v, h1, h2⟩ := RVL.get rx hdx
      rw [hy] at h1
      cases h1
      exact h2
    have hgk : g [dx] = some kd := by
      have hz1 := hk.zip (dx, kd) (by
        refine List.mem_of_getElem? (i := j) ?_
        rw [List.getElem?_zip_eq_some]
        exact ⟨hdx, hkd⟩)
      exact hz1
    have sameRV : ∀ {d v H1 H2}, Same H1 H2 → RV X.K Av [] H1 d v → RV X.K Av [] H2 d v := fun sm h => RV.tr (fun a o e hn => ⟨sm a o e, hn⟩) (fun _ _ e => e) _ _ h
    have sameRVL : ∀ {d v H1 H2}, Same H1 H2 → RVL X.K Av [] H1 d v → RVL X.K Av [] H2 d v := fun sm h => RVL.tr (fun a o e hn => ⟨sm a o e, hn⟩) (fun _ _ e => e) _ _ h
    have hA' : ∀ b, Av b → H' b ≠ none := fun b hb z => by
      cases hq : H b with
      | none => exact hA b hb hq
      | some o => rw [sm b o hq] at z; cases z
    have Ip : Inv X (pins ++ [(a, seqObj "list" #[] e1), (kS, seqObj "list" kA e)]) σ H' s' := I'.pins_of fun p hp => by
      rcases List.mem_append.mp hp with hp | hp
      · exact I'.pin p (List.mem_append_right _ hp)
      · rcases List.mem_cons.mp hp with rfl | hp
        · exact ⟨ga, na', ra.1, ra.2.1, fun v => by simp [seqObj]⟩
        · rw [List.mem_singleton.mp hp]
          exact ⟨gk, nk', rk.1, rk.2.1, fun v => by simp [seqObj]⟩
    have env0 : Env0 X.prog X.w X.K X.mg X.base X.A.in1.in1 X.stack s' H' := ⟨Ip.env0.frames, Ip.env0.mod, Ip.env0.bs, Ip.env0.bsz, Ip.env0.funs, Ip.env0.frf, Ip.env0.hok, Ip.env0.bare⟩
    have call : wpAny (model X.prog X.w) X.A.in1.in1 (call (.ref f) [x]) (EP X (pins ++ [(a, seqObj "list" #[] e1), (kS, seqObj "list" kA e)]) σ (fun v H2 => Same H' H2 ∧ RV X.K Av [] H2 kd v)) (fun _ _ => False) s' := by
      have hsp : spD X.K 1 g [y] H' (fun v H2 => Same H' H2 ∧ RV X.K Av [] H2 kd v) E0 := spD1 hA' (sameRV sm rd) hgk fun v H2 s2 r2 => ⟨s2, r2⟩
      have hlen := F.len _ _ _ _ hsp
      refine wpAny_call (codeAny_mono (F.run X.A.in1.in1 X.stack s' H' ⟨[x], []⟩ [x] [y] _ E0 hr.in1.in1 env0 (by
        have := hb s' [x] Ip.kIn (by simpa using hlen)
        simpa using this) (.cons ry .nil) hsp) fun r s'' hq => ?_)
      cases r with
      | error e => exact hq
      | ok fl =>
        cases fl with
        | ret u => exact Ip.after hq
        | next => exact hq
        | brk => exact hq
        | cont => exact hq
    refine wpAny_bind (wpAny_attempt (wpAny_mono call (fun v s'' he => ?_) fun _ _ hF => False.elim hF))
    · obtain ⟨kv, H2, I5, rkv, sm2, rkd⟩ := he
      have pa := I5.pin (a, seqObj "list" #[] e1) (by simp)
      have pk := I5.pin (kS, seqObj "list" kA e) (by simp)
      have I6 : Inv X pins σ H2 s'' := I5.unpinned
      try dsimp only
      have hzk : kA.size ≤ vs.length := by
        have h1 : kvs.length = kA.size := by simpa using rk'.length
        have h2 : kvs.length = min j ks.length := by simpa using RVL.length rl
        have h3 : kA.size ≤ ks.length := by rw [← h1, h2]; exact Nat.min_le_right _ _
        omega
      have s2 := Heap.SameBut.update s''.heap kS (Obj.mapSeq (·.push v))
      obtain ⟨c2, hc2⟩ : ∃ c2, (s''.heap.update kS (Obj.mapSeq (·.push v))).get? kS = some (seqObj "list" (kA.push v) c2) := ⟨_, get?_update_seq pk.1 (·.push v)⟩
      refine wpAny_bind (listUpdate_at pk.1 rfl ?_ (Nat.le_trans hzk hZ) (Nat.le_trans (Nat.le_of_eq (Array.size_push ..)) (Nat.succ_le_succ (Nat.le_trans hzk hZ))))
      refine wpAny_pure ⟨rfl, H2, kA.push v, c2, kvs ++ [kv], I6.turned (t' := s''.toks) (fun c o hc e => (s2.2 c hc).trans e) pk.2.1 rk.1 rk.2.2.1 rk.2.2.2.1 rk.2.2.2.2, pa.2.1, pk.2.1, fun c o e => sm2 c o (sm c o e), (s2.2 a hka.symm).trans pa.1, hc2, ?_, ?_⟩
      · have ea : (kA.push v).toList = kA.toList ++ [v] := by simp
        rw [ea]
        exact vals_snoc rkv rk'
      · have ek : ks.take (j + 1) = ks.take j ++ [kd] := by rw [List.take_add_one, hkd]; simp
        rw [ek]
        exact rvl_snoc rkd (sameRVL sm2 rl)
  case done =>
    rintro s' ⟨H', kA, e, kvs, I', na', nk', sm, ga, gk, rk', rl⟩
    have e3 : ks.take (0 + vs.length) = ks := List.take_of_length_le (by omega)
    rw [e3] at rl
    have hd : DpAll X.K H' kvs (toPs ks) := dps_of _ _ _ ok rl
    obtain ⟨as, rr⟩ := Dp.readsAll I' _ _ _ hd rk'
    rw [toPs_map] at rr
    have hk' : EachIs (fun v k => ∃ as, Reads s'.heap v k as) kA.toList (ks.map toP) := each_map toP (readsAll_each toP rr)
    have hsz : kA.size = vs.length := by
      have h1 := hk'.length
      rw [Array.length_toList, List.length_map] at h1
      omega
    try dsimp only
    refine wpAny_bind (listItems_at gk rfl ?_)
    refine skey_end (κ := dataKind s'.heap (ks.map toP)) gk ga hka (SortsAt.data (s := s') hk' hal hsk hu) hsz hZ fun h' c keep hna => ⟨rfl, ?_⟩
    have hlb : (ys.zip (xs.zip ks)).map (·.1) = ys := List.map_fst_zip (by rw [List.length_zip]; omega)
    have hlb2 : (ys.zip (xs.zip ks)).map (·.2) = xs.zip ks := List.map_snd_zip (by rw [List.length_zip]; omega)
    have hlk : (ys.zip (xs.zip ks)).map (fun b => toP b.2.2) = ks.map toP := by
      have e5 : (ys.zip (xs.zip ks)).map (fun b => toP b.2.2) = (((ys.zip (xs.zip ks)).map (·.2)).map (·.2)).map toP := by
        rw [List.map_map, List.map_map]
        rfl
      rw [e5, hlb2, List.map_snd_zip (by omega)]
    have KO : KeyedOut false ((ys.zip (xs.zip ks)).map fun b => toP b.2.2) vs (sortVals (dataKind s'.heap (ks.map toP)) false kA.toList vs) := by
      rw [hlk]
      exact ⟨s'.heap, kA.toList, hal, rfl, hk'⟩
    have hR : EachIs (fun (v : Value) (b : V × D × D) => RelV b.1 v) vs (ys.zip (xs.zip ks)) := by
      refine EachIs.of_zip (by rw [List.length_zip, List.length_zip]; omega) fun p hp => ?_
      obtain ⟨i, hi⟩ := List.mem_iff_getElem?.mp hp
      rw [List.getElem?_zip_eq_some] at hi
      obtain ⟨h1, h2⟩ := hi
      have h3 := List.getElem?_zip_eq_some.mp (show (ys.zip (xs.zip ks))[i]? = some (p.2.1, p.2.2) from h2)
      obtain ⟨u, h4, h5⟩ := rv.get h3.1
      rw [h1] at h4
      cases h4
      exact h5
    have hE := keyedOut_each (fun b : V × D × D => toP b.2.2) KO hR
    generalize hout : sortVals (dataKind s'.heap (ks.map toP)) false kA.toList vs = out at hna hE
    have hperm : ((ys.zip (xs.zip ks)).mergeSort (dataLe false fun b : V × D × D => toP b.2.2)).Perm (ys.zip (xs.zip ks)) := List.mergeSort_perm _ _
    have hsnd : ((ys.zip (xs.zip ks)).mergeSort (dataLe false fun b : V × D × D => toP b.2.2)).map (·.2) = sortKD ks xs := by
      refine (sort_maps (r := dataLe false fun b : V × D × D => toP b.2.2) (s := fun x y : D × D => !ltD y.2 x.2) (fun b : V × D × D => b.2) (fun p hp q hq => rfl)).trans ?_
      rw [hlb2]
      rfl
    generalize ((ys.zip (xs.zip ks)).mergeSort (dataLe false fun b : V × D × D => toP b.2.2)) = bs at hE hperm hsnd
    have hv : Vals (bs.map (·.1)) out := vals_each hE
    have hz' : (bs.map (·.1)).length ≤ sizeLine := by
      rw [List.length_map, hperm.length_eq, List.length_zip]
      omega
    refine ⟨.ref a, upd H' a (.lst (bs.map (·.1))), ?_, rfl, q a bs _ na0 (fun c o e => by rw [upd_ne (ne_of_none (sm c o e) na')]; exact sm c o e) upd_same hperm hsnd⟩
    exact retrack I' keep na' nk' ra rk ⟨hz', out, c, hv, hna⟩
end

def keysD (g : List D → Option D) : List D → Option (List D)
  | [] => some []
  | x :: xs => (g [x]).bind fun k => (keysD g xs).map fun ks => k :: ks
theorem keysD_each {g : List D → Option D} : ∀ {xs ks : List D}, keysD g xs = some ks → PySem.W.EachIs (fun x kd => g [x] = some kd) xs ks
  | [], ks, h => by
    simp only [keysD, Option.some.injEq] at h
    subst h
    exact .nil
  | x :: xs, ks, h => by
    simp only [keysD, Option.bind_eq_some_iff, Option.map_eq_some_iff] at h
    obtain ⟨k, h1, ks', h2, rfl⟩ := h
    exact .cons h1 (keysD_each h2)
def srtKey (g : List D → Option D) (xs : List D) : Option (List D) :=
  if nrs xs then (keysD g xs).bind fun ks => if gdS ks && ks.all tupNe then some ((sortKD ks xs).map (·.1)) else none else none
def cSortK (g : List D → Option D) : Sto → List D → Option (List D) := fun S ds => match ds with
  | [d] => (lstD S d).bind fun xs => srtKey g xs
  | _ => none
section
variable {X : Cx} {k j : Nat} {g : List D → Option D} {x kx : Str} {p p' pos kpos : Pos} {e : Expr} {fs : EL}
def rSortKey (K : PySem.W.Frag) (f : Addr) (g : List D → Option D) : List V → List V → Hp → VK → Prop := fun vs zs H Q => ∃ (a : Addr) (ys : List V) (xs ks : List D) (Av : Addr → Prop), vs = [.ref a] ∧ zs = [.ref f] ∧ SqL K H a ys ∧ (∀ a, Av a → H a ≠ none) ∧ RVL K Av [] H xs ys ∧
  PySem.W.EachIs (fun x kd => g [x] = some kd) xs ks ∧ gdS ks = true ∧ ks.all tupNe = true ∧
  ∀ p (bs : List (V × D × D)) H', H p = none → Same H H' → H' p = some (.lst (bs.map (·.1))) → bs.Perm (ys.zip (xs.zip ks)) → bs.map (·.2) = sortKD ks xs → Q (.ref p) H'
theorem cr_sortKey {f : Addr} {fd : FuncData} {ps : List Str} (F : FnOk X.prog X.w X.K X.mg X.base CX0 k f fd ps (spD X.K 1 g)) (hb : Binds X.K fd ps []) (hr : Room (k + 2) X.A) : CallRK X (.builtin "sorted") [Str.ofString "key"] (rSortKey X.K f g) := by
  intro pins s σ H vs zs us ws Q I r rz h
  obtain ⟨a, ys, xs, ks, Av, rfl, rfl, hs, hA, rx, hk, hg, ht, q⟩ := h
  obtain rfl := Vals.ref1 r
  obtain ⟨w1, rfl, e1⟩ := vals1 rz
  obtain rfl : w1 = Value.ref f := e1
  exact sorted_key_run F hb hr I hs hA rx hk hg ht q
theorem d_sortK (h : At X.prog X.w X.K X.mg X.base kx k 1 g) (hr : Room j X.A) (hk : k + 2 ≤ j) (hgk : Gl X kx) (hg : Gl X x) (hm : X.mg x = none) (hv : bootBuiltins x = some (.builtin "sorted")) (ha : PA X [e] (tA X.K fs)) (hn : x ≠ "__name__" := by decide) (hdb : (x == ("__debug__" : Str)) = false := by decide) (hdk : (kx == ("__debug__" : Str)) = false := by decide)
    (he' : backTo pos (starEach (e :: []) X.env) = (false, eval e X.env) :: backTo pos (starEach [] X.env) := by rfl) (hpl : (backTo pos (starEach (e :: []) X.env)).any (·.1) = false := by rfl)
    (hall : (backToKw pos (keywordEach [⟨some "key", .Name kx p', kpos⟩] X.env)).all (·.1.isSome) = true := by rfl) (hnone : (backToKw pos (keywordEach [⟨some "key", .Name kx p', kpos⟩] X.env)).any (·.1.isNone) = false := by rfl) (hks : (backToKw pos (keywordEach [⟨some "key", .Name kx p', kpos⟩] X.env)).filterMap (·.1) = [Str.ofString "key"] := by rfl) :
    PE X (.Call (.Name x p) [e] [⟨some "key", .Name kx p', kpos⟩] pos) (tF X.K (fCall (cSortK g) fs)) := by
  obtain ⟨f, fd, ps, hmf, hkp, hb, F⟩ := h
  refine pe_imp (pe_callBK (cr_sortKey F hb (hr.mono hk)) hg hm hv ha (pk_cons (pe_glob (v := .ref f) hgk hmf rfl hdk) pk_nil) hn hdb he' hpl hall hnone hks) fun σ H Q ⟨Z, μ, ρ, S, R, d, ef, q⟩ => ?_
  simp only [fCall, Option.bind_eq_some_iff] at ef
  obtain ⟨ds, e1, ef⟩ := ef
  unfold cSortK at ef
  split at ef
  rotate_left
  · cases ef
  rename_i d0
  rw [Option.bind_eq_some_iff] at ef
  obtain ⟨xs, e2, e3⟩ := ef
  unfold srtKey at e3
  split at e3
  · rename_i hnr
    rw [Option.bind_eq_some_iff] at e3
    obtain ⟨ks, e4, e5⟩ := e3
    split at e5
    · rename_i hgt
      cases e5
      rw [Bool.and_eq_true] at hgt
      refine ⟨Z, μ, ρ, S, R, [d0], e1, fun vs H1 s1 rl1 => ?_⟩
      have W1 := R.wd.mono s1
      obtain ⟨v, rfl, r1⟩ := rvl1 rl1
      obtain ⟨a, ys, rfl, hs, hr1⟩ := lst_of W1 r1 e2
      refine ⟨a, ys, xs, ks, avd Z μ, rfl, rfl, SqL.of hs, W1.avd, RVL.nr _ _ hnr hr1, keysD_each e4, hgt.1, hgt.2, fun p bs H' n sm hp pm hb => ?_⟩
      have n0 : H p = none := s1.free n
      refine q p (bs.map (·.1)) H' n0 (s1.trans sm) hp ?_
      have hl1 : ys.length = xs.length := RVL.length hr1
      have rl : RVLz X.K Z μ H1 (bs.map (·.2.1)) (bs.map (·.1)) := by
        have hz : ∀ b ∈ bs, RV X.K (avd Z μ) μ H1 b.2.1 b.1 := fun b hbm => by
          have h1 := pm.mem_iff.mp hbm
          obtain ⟨i, hi⟩ := List.mem_iff_getElem?.mp h1
          rw [show b = (b.1, b.2.1, b.2.2) from rfl, List.getElem?_zip_eq_some] at hi
          obtain ⟨h2, h3⟩ := hi
          rw [List.getElem?_zip_eq_some] at h3
          obtain ⟨v, h4, h5⟩ := RVL.get hr1 h3.1
          rw [h2] at h4
          cases h4
          exact h5
        have := rvl_unzip (K := X.K) (av := avd Z μ) (μ := μ) (H := H1) (l := bs.map fun b => (b.1, b.2.1)) (fun p hp => by
          obtain ⟨b, hbm, rfl⟩ := List.mem_map.mp hp
          exact hz b hbm)
        rw [List.map_map, List.map_map] at this
        exact this
      have e6 : (sortKD ks xs).map (·.1) = bs.map (·.2.1) := by
        rw [← hb, List.map_map]
        rfl
      rw [e6]
      exact RVL.tr (fun b u e hn => ⟨sm _ _ e, fun m q => by
        rcases q with q | q
        · exact hn m q
        · subst q; rw [n] at e; cases e⟩) (fun _ _ e => e) _ _ rl
    · cases e5
  · cases e3
end
end DL

set_option maxHeartbeats 4000000
namespace DL
open PySem PySem.Spec L2

/-! ### {k: v for x in xs if ..}, keys whole numbers or texts: a new cell -/
def dk1 (ks : List D) (k : D) : List D := if hasD ks k then ks else ks ++ [k]
def dv1 (ks vs : List D) (k v : D) : List D := if hasD ks k then putV ks vs k v else vs ++ [v]
def dcL (g : G) (t : EB) (ek ev : E) (ρ : Rho) (S : Sto) : List D → List D → List D → Option (List D × List D)
  | [], ks, vs => some (ks, vs)
  | d :: ds, ks, vs => (g d ρ).bind fun ρ1 => (t ρ1 S).bind fun b => if b then (ek ρ1 S).bind fun k => (ev ρ1 S).bind fun v => if keyT false k then dcL g t ek ev ρ S ds (dk1 ks k) (dv1 ks vs k v) else none else dcL g t ek ev ρ S ds ks vs
def cDc (f : EL) (vs : List Nat) (g : G) (t : EB) (ek ev : E) : EC := fun ρ S => (f ρ S).bind fun ds => if small ds.length then (dcL g t ek ev (wipeR ρ vs) S ds [] []).map fun p => [.dic false p.1 p.2] else none
theorem tDc_of {K : PySem.W.Frag} {f : EL} {vs vt : List Nat} {g : G} {t : EB} {ek ev : E} (hv : ∀ i ∈ vt, i ∈ vs) {σ : L2.St} {H : Hp} {Q : VK} (h : tN K (cDc f vs g t ek ev) σ H Q) :
    tDc (tJ K f) (tG K vt g) (tT K t) (tD K ek) (tD K ev) vs σ H Q := by
  obtain ⟨Z, μ, ρ, S, R, cs, ef, q⟩ := h
  simp only [cDc, Option.bind_eq_some_iff] at ef
  obtain ⟨ds, e1, e3⟩ := ef
  split at e3
  case isFalse => cases e3
  rename_i hsm
  rw [Option.map_eq_some_iff] at e3
  obtain ⟨⟨rk, rv⟩, er, rfl⟩ := e3
  have h3 : ds.length ≤ 1000000 := of_decide_eq_true hsm
  have h5 : (1000000 : Nat) < sizeLine := by decide
  refine ⟨Z, μ, ρ, S, R, ds, e1, fun J H1 s1 it D nD => ?_⟩
  have R1 := (R.mono s1).wipe vs
  refine ⟨fun i m H => m = ds.length - i ∧ i ≤ ds.length ∧ Same H1 H ∧ ∃ kvs dvs, H D = some (.dK kvs) ∧ kvs.length ≤ i ∧ RVLz K (Z.plus D) μ H dvs (kvs.map (·.2)) ∧ dcL g t ek ev (wipeR ρ vs) S (ds.drop i) (dicKs kvs) dvs = some (rk, rv),
    ⟨ds.length, by simp, Nat.zero_le _, fun c o z => by rw [upd_ne (ne_of_none z nD)]; exact z, [], [], upd_same, Nat.le_refl _, RVL.nil', by simpa [dicKs] using er⟩, ?_⟩
  rintro i m H' ⟨rfl, hi, s2, kvs, dvs, hD, hkl, hacc, ec⟩
  obtain ⟨it1, it2⟩ := it i H' fun a o ha _ => s2 a o ha
  by_cases hlt : i < ds.length
  · obtain ⟨hgo, hyld⟩ := it1 ds[i] (List.getElem?_eq_getElem hlt)
    rw [List.drop_eq_getElem_cons hlt] at ec
    refine .inr ⟨hgo, _, fun H2 h2 => ⟨ds.length - (i + 1), by omega, rfl, hlt, h2⟩, fun x H2 hy => ?_⟩
    obtain ⟨s3, rx⟩ := hyld x H2 hy
    simp only [dcL, Option.bind_eq_some_iff] at ec
    obtain ⟨ρ1, eg, b, et, ec⟩ := ec
    have R2 : Rel K (Z.plus D) μ (L2.wipe σ vs) H2 (wipeR ρ vs) S := R1.plus (s2.trans s3) nD (by rw [s3 _ _ hD]; exact fun z => by cases z)
    have rx' : RVz K (Z.plus D) μ H2 ds[i] x := RV.tr (fun a o e hn => ⟨e, fun m q => by
      rcases q with (q | q) | q
      · exact hn m (.inl (.inl q))
      · subst q; exact hn m (.inr nD)
      · exact hn m (.inl (.inr q))⟩) (fun _ _ e => e) _ _ rx
    refine ⟨Z.plus D, μ, wipeR ρ vs, S, ds[i], R2, rx', ρ1, eg, fun σ2 R3 k2 l2 => ⟨?_, ?_⟩⟩
    · exact (wipe_eq l2 fun j hj => k2 j fun h => hj (hv j h)).trans wipe_wipe
    · refine ⟨Z.plus D, μ, ρ1, S, R3, b, et, fun H3 s4 => ?_⟩
      have hD3 : H3 D = some (.dK kvs) := s4 _ _ (s3 _ _ hD)
      cases b with
      | false =>
        rw [if_neg Bool.false_ne_true] at ec
        refine iteF ?_
        exact ⟨(s2.trans s3).trans s4, kvs, dvs, hD3, Nat.le_succ_of_le hkl, RVL.mono (s3.trans s4) hacc, ec⟩
      | true =>
        rw [if_pos rfl] at ec
        refine iteT ?_
        simp only [Option.bind_eq_some_iff] at ec
        obtain ⟨dk, ekk, dv, evv, ec⟩ := ec
        split at ec
        case isFalse => cases ec
        rename_i hkt
        refine ⟨Z.plus D, μ, ρ1, S, R3.mono s4, dk, ekk, fun y H4 s5 ry => ⟨Z.plus D, μ, ρ1, S, (R3.mono s4).mono s5, dv, evv, fun z H5 s6 rz => ?_⟩⟩
        have hk' : (keyOf dk).isSome = true := hkt
        obtain ⟨k, ekey⟩ := Option.isSome_iff_exists.mp hk'
        have ex := keyOf_some ekey
        subst ex
        have hD5 : H5 D = some (.dK kvs) := s6 _ _ (s5 _ _ hD3)
        have hacc5 : RVLz K (Z.plus D) μ H5 dvs (kvs.map (·.2)) := RVL.mono (((s3.trans s4).trans s5).trans s6) hacc
        have ey : y = kV k := rv_key ry
        have lp := length_putK kvs k z
        have hh : hasD (dicKs kvs) (keyD k) = (kvs.any fun kv => decide (kv.1 = k)) := by
          rw [valV_any]
          exact has_k keyD (fun _ _ => keyD_inj) k kvs
        have both : dicKs (putK kvs k z) = dk1 (dicKs kvs) (keyD k) ∧ RVLz K (Z.plus D) μ H5 (dv1 (dicKs kvs) dvs (keyD k) dv) ((putK kvs k z).map (·.2)) := by
          unfold dk1 dv1
          rw [hh]
          by_cases ha : (kvs.any fun kv => decide (kv.1 = k)) = true
          · obtain ⟨p1, p2⟩ := put_k keyD (fun _ _ => keyD_inj) k rz hacc5
            have ep : putK kvs k z = kvs.map (fun kv => if kv.1 = k then (kv.1, z) else kv) := if_pos ha
            rw [if_pos ha, if_pos ha, ep]
            exact ⟨by unfold dicKs; rw [p2], p1⟩
          · have ep : putK kvs k z = kvs ++ [(k, z)] := if_neg ha
            rw [if_neg ha, if_neg ha, ep]
            refine ⟨by simp [dicKs], ?_⟩
            rw [List.map_append]
            exact RVL.app hacc5 (RVL.one rz)
        refine ⟨kvs, k, ey, hD5, by omega, ?_, putK kvs k z, dv1 (dicKs kvs) dvs (keyD k) dv, upd_same, by omega, ?_, ?_⟩
        · intro c o w
          rw [upd_ne (ne_of_none w nD)]
          exact s6 _ _ (s5 _ _ (s4 _ _ (s3 _ _ (s2 _ _ w))))
        · refine RVL.tr (fun a o e hn => ?_) (fun _ _ e => e) _ _ both.2
          have ne : a ≠ D := by
            rintro rfl
            rw [hD5] at e; cases e
            exact hn rfl (.inl (.inr rfl))
          exact ⟨by rw [upd_ne ne]; exact e, hn⟩
        · rw [both.1]
          exact ec
  · have hi' : i = ds.length := by omega
    subst hi'
    simp only [List.drop_length, dcL, Option.some.injEq, Prod.mk.injEq] at ec
    obtain ⟨rfl, rfl⟩ := ec
    refine .inl ⟨it2 (Nat.le_refl _), q D [] H' rfl (by simp) (by simpa using s1.free nD) (s1.trans s2) fun i b c hb hc => ?_⟩
    cases i with
    | succ i => simp at hb
    | zero =>
      simp at hb hc
      subst hb; subst hc
      refine .inl ⟨rfl, kvs, hD, rfl, ?_⟩
      exact RVL.tr (fun a o e hn => ⟨e, fun m q => by
        rcases q with q | q
        · exact hn m (.inl (.inl q))
        · rcases List.mem_append.mp q with q | q
          · exact hn m (.inr q)
          · rw [List.mem_singleton] at q
            exact hn m (.inl (.inr q))⟩) (fun j b e => by rw [List.getElem?_append_left (List.getElem?_eq_some_iff.mp e).1]; exact e) _ _ hacc
section
variable {X : Cx} {kx vx tg iter : Expr} {ifs : List Expr} {scope : Scope} {own : List (Str × Nat)} {pos : Pos}
theorem d_dcomp {f : EL} {vt : List Nat} {g : G} {t : EB} {ek ev : E} (hc : X.calm = true) (hN : X.N.Nodup) (hi : PI X tg iter (tJ X.K f)) (ok : BlkOk X.N X.env.scope scope own)
    (hg : ∀ (s : Shared) (H : Hp) (C : Addr) (cl : List (Str × Addr)) (fp : List Addr), PG (X.blk s H scope (compEnvC scope cl C X.env) fp) tg (tG X.K vt g)) (ht : ∀ (s : Shared) (H : Hp) (C : Addr) (cl : List (Str × Addr)) (fp : List Addr), PTs (X.blk s H scope (compEnvC scope cl C X.env) fp) ifs (tT X.K t))
    (hk : ∀ (s : Shared) (H : Hp) (C : Addr) (cl : List (Str × Addr)) (fp : List Addr), PE (X.blk s H scope (compEnvC scope cl C X.env) fp) kx (tD X.K ek))
    (he : ∀ (s : Shared) (H : Hp) (C : Addr) (cl : List (Str × Addr)) (fp : List Addr), PE (X.blk s H scope (compEnvC scope cl C X.env) fp) vx (tD X.K ev)) (hv : ∀ i ∈ vt, i ∈ own.map (·.2) := by decide) (hs : ∀ x, foldedSetIterable iter X.env x = pure x := by intro _; rfl) :
    PE X (.DictComp kx vx [⟨tg, iter, ifs, 0⟩] scope pos) (tN X.K (cDc f (own.map (·.2)) g t ek ev)) :=
  pe_imp (pe_dc hc hN hi ok hg ht hk he hs) fun _ _ _ h => tDc_of hv h
end
end DL

set_option maxHeartbeats 4000000
namespace DL
open PySem PySem.Spec L2 PyProof.Rows

/-! ### comprehensions of any number of clauses -/
/-- what a turn of a clause does, em being done behind the tests -/
def turnG (t0 i0 : Expr) (ifs0 : List Expr) (em : Sem Fin → Sem Fin) (c : Code) (it : Value) (env : Env) : Sem Fin := do
  standAt i0.pos
  match ← pyNext it with
  | none => pure (.done .next)
  | some v =>
    letOwnedTupleGo t0 it v
    assign t0 env v
    let mut ok := true
    for c in ifs0 do
      if ok then ok ← isTrue c env (eval c env)
    if ok then
      em (again c)
    else
      again c
def emNext (e : Expr) (d : Nat) (i1 : Expr) (acc : Value) (env : Env) (c : Sem Fin) : Sem Fin := do
  let x ← eval i1 env
  standAt i1.pos
  let x ← foldedSetIterable i1 env x
  let _ ← runOwn (.compStart e (d + 1) (← holding [x] (pyIter x)) acc env) env
  c
def emL (elt : Expr) (acc : Value) (env : Env) (c : Sem Fin) : Sem Fin := do
  (do let _ ← call (.builtin "list.append") [acc, ← eval elt env])
  c
def emD (k v : Expr) (D : Addr) (env : Env) (c : Sem Fin) : Sem Fin := do
  (do
    let kv ← eval k env
    let vv ← holding [kv] (eval v env)
    standAt { k.pos with endLine := v.pos.endLine, endCol := v.pos.endCol }
    holding [kv, vv] (dictSet D kv vv))
  c
theorem turnL_last {elt : Expr} {gs : List Comprehension} {scope : Scope} {pos : Pos} {d : Nat} {t0 i0 : Expr} {ifs0 : List Expr} {it acc : Value} {env : Env} (h0 : gs[d]? = some ⟨t0, i0, ifs0, 0⟩) (h1 : gs[d + 1]? = none) :
    compTurn (.ListComp elt gs scope pos) d it acc env = turnG t0 i0 ifs0 (emL elt acc env) (.compLoop (.ListComp elt gs scope pos) d it acc env) it env := by
  unfold compTurn
  simp only [h0, h1]
  rfl
theorem turnL_next {elt : Expr} {gs : List Comprehension} {scope : Scope} {pos : Pos} {d : Nat} {t0 i0 t1 i1 : Expr} {ifs0 ifs1 : List Expr} {it acc : Value} {env : Env} (h0 : gs[d]? = some ⟨t0, i0, ifs0, 0⟩) (h1 : gs[d + 1]? = some ⟨t1, i1, ifs1, 0⟩) :
    compTurn (.ListComp elt gs scope pos) d it acc env = turnG t0 i0 ifs0 (emNext (.ListComp elt gs scope pos) d i1 acc env) (.compLoop (.ListComp elt gs scope pos) d it acc env) it env := by
  unfold compTurn
  simp only [h0, h1]
  rfl
theorem turnD_last {kx vx : Expr} {gs : List Comprehension} {scope : Scope} {pos : Pos} {d : Nat} {t0 i0 : Expr} {ifs0 : List Expr} {it : Value} {D : Addr} {env : Env} (h0 : gs[d]? = some ⟨t0, i0, ifs0, 0⟩) (h1 : gs[d + 1]? = none) :
    compTurn (.DictComp kx vx gs scope pos) d it (.ref D) env = turnG t0 i0 ifs0 (emD kx vx D env) (.compLoop (.DictComp kx vx gs scope pos) d it (.ref D) env) it env := by
  unfold compTurn
  simp only [h0, h1]
  rfl
theorem turnD_next {kx vx : Expr} {gs : List Comprehension} {scope : Scope} {pos : Pos} {d : Nat} {t0 i0 t1 i1 : Expr} {ifs0 ifs1 : List Expr} {it acc : Value} {env : Env} (h0 : gs[d]? = some ⟨t0, i0, ifs0, 0⟩) (h1 : gs[d + 1]? = some ⟨t1, i1, ifs1, 0⟩) :
    compTurn (.DictComp kx vx gs scope pos) d it acc env = turnG t0 i0 ifs0 (emNext (.DictComp kx vx gs scope pos) d i1 acc env) (.compLoop (.DictComp kx vx gs scope pos) d it acc env) it env := by
  unfold compTurn
  simp only [h0, h1]
  rfl
theorem turnG_ok {M : Model} {A : Around} {R : Result → Shared → Prop} {t0 i0 : Expr} {ifs0 : List Expr} {em : Sem Fin → Sem Fin} {c : Code} {it : Value} {env : Env} {n : Nat} {I : Nat → Shared → Prop} {s : Shared}
    (h : wpAny M A (pyNext it) (fun r s₁ => match r with
      | none => R (.ok .next) s₁
      | some v => wpAny M A (letOwnedTupleGo t0 it v) (fun _ s₁' => wpAny M A (assign t0 env v) (fun _ s₂ =>
          wpAny M A (forIn ifs0 true fun c r => if r = true then do let ok ← isTrue c env (eval c env); pure (ForInStep.yield ok) else pure (ForInStep.yield r)) (fun ok s₃ =>
            if ok = true then (∀ (cc : Sem Fin) (Q : Fin → Shared → Prop) (E : Value → Shared → Prop), (∀ s', (∃ m, m < n ∧ I m s') → wpAny M A cc Q E s') → wpAny M A (em cc) Q E s₃)
            else ∃ m, m < n ∧ I m s₃) (notedBy M A env fun e s' => R (.error e) s') s₂) (notedBy M A env fun e s' => R (.error e) s') s₁') (notedBy M A env fun e s' => R (.error e) s') s₁) (notedBy M A env fun e s' => R (.error e) s') s) :
    wpAny M A (turnG t0 i0 ifs0 em c it env) (fun fin s' => match fin with | .done f => R (.ok f) s' | .again c' => c' = c ∧ ∃ m, m < n ∧ I m s') (notedBy M A env fun e s' => R (.error e) s') s := by
  unfold turnG
  refine wpAny_bind (wpAny_standAt (wpAny_bind (wpAny_mono h (fun r s₁ h₁ => ?_) fun _ _ h' => h')))
  cases r with
  | none => exact wpAny_pure h₁
  | some v =>
    refine wpAny_bind (wpAny_mono h₁ (fun _ s₁' h₁' => ?_) fun _ _ h' => h')
    refine wpAny_bind (wpAny_mono h₁' (fun _ s₂ h₂ => wpAny_bind (wpAny_mono h₂ (fun ok s₃ h₃ => ?_) fun _ _ h' => h')) fun _ _ h' => h')
    cases ok with
    | false => exact wpAny_pure ⟨rfl, h₃⟩
    | true => exact h₃ _ _ _ fun s' h' => wpAny_pure ⟨rfl, h'⟩

section
variable {Y : Cx}
/-- behind the tests: what comes next leaves all names alone but vs -/
def EmOk (Y : Cx) (em : Sem Fin → Sem Fin) (vs : List Nat) (te : L2.St → Hp → (Hp → Prop) → Prop) : Prop :=
  ∀ (pins : List (Addr × Obj)) (s : Shared) (σ : L2.St) (H : Hp) (N : Hp → Prop) (cc : Sem Fin) (Q : Fin → Shared → Prop) (E : Value → Shared → Prop), Inv Y pins σ H s → te σ H N →
    (∀ s', (∃ σ' H', Inv Y pins σ' H' s' ∧ σ.length = σ'.length ∧ (∀ (j : Nat) v, (wipe σ vs)[j]? = some (some v) → σ'[j]? = some (some v)) ∧ N H') → wpAny (model Y.prog Y.w) Y.A cc Q E s') →
    wpAny (model Y.prog Y.w) Y.A (em cc) Q E s
/-- the loop of a clause, an iterator being there -/
def tClL (g : TG) (tt : TT) (te : L2.St → Hp → (Hp → Prop) → Prop) (vs : List Nat) (J : It) (σ : L2.St) (N : Hp → Prop) (H1 : Hp) : Prop :=
  ∃ W : Nat → Nat → Hp → Prop, (∃ m, W 0 m H1) ∧ ∀ i m H, W i m H →
    (J.stop i H ∧ N H) ∨ (J.go i H ∧ ∃ Nx : Hp → Prop, (∀ H', Nx H' → ∃ m', m' < m ∧ W (i + 1) m' H') ∧ ∀ x H', J.yld i H x H' → g x (wipe σ vs) H' fun σ2 H2 => wipe σ2 vs = wipe σ vs ∧ tt σ2 H2 fun b H3 =>
      if b = true then te σ2 H3 Nx else Nx H3)
/-- a further clause -/
def tCl (wi : TI) (g : TG) (tt : TT) (te : L2.St → Hp → (Hp → Prop) → Prop) (vs : List Nat) : L2.St → Hp → (Hp → Prop) → Prop := fun σ H N => wi σ H fun J H1 => tClL g tt te vs J σ N H1

theorem loop_ok {t0 i0 : Expr} {ifs0 : List Expr} {em : Sem Fin → Sem Fin} {e : Expr} {d : Nat} {acc : Value} {g : TG} {tt : TT} {te : L2.St → Hp → (Hp → Prop) → Prop} {vs vs1 : List Nat} (hc : Y.calm = true) (hxe : Y.xe = fun _ _ => False)
    (hturn : ∀ it, compTurn e d it acc Y.env = turnG t0 i0 ifs0 em (.compLoop e d it acc Y.env) it Y.env) (hfr : ∀ it, (Code.compLoop e d it acc Y.env).isFrame = false) (hq : ∀ it, (Code.compLoop e d it acc Y.env).quiet = true) (hun : ∀ it, Y.A.under (Code.compLoop e d it acc Y.env) = Y.A)
    (hg : PG Y t0 g) (ht : PTs Y ifs0 tt) (he : EmOk Y em vs1 te) (hv : ∀ i ∈ vs1, i ∈ vs) {pins : List (Addr × Obj)} {s : Shared} {σ : L2.St} {H : Hp} {N : Hp → Prop} {J : It} {fp : List Addr} {it : Addr} {tn : Nat → Heap → Prop}
    (I : Inv Y pins (wipe σ vs) H s) (T : Turn Y.prog Y.w Y.K t0 J fp it tn) (st : tn 0 s.heap) (f : ∀ b ∈ fp, FpOk Y pins H b) (h : tClL g tt te vs J σ N H) {R : Result → Shared → Prop}
    (hR : ∀ s' H', Inv Y pins (wipe σ vs) H' s' → (∀ b ∈ fp, H' b = none) → N H' → R (.ok .next) s') :
    codeAny (model Y.prog Y.w) Y.A (.compLoop e d (.ref it) acc Y.env) R s := by
  obtain ⟨W, ⟨m0, w0⟩, turn⟩ := h
  have stat : ∀ {H' : Hp}, (∀ b ∈ fp, H' b = none) → ∀ b ∈ fp, FpOk Y pins H' b := fun hn b hb => ⟨hn b hb, (f b hb).2⟩
  refine codeAny_loop (hq _) (fun n s' => ∃ i H', Inv Y pins (wipe σ vs) H' s' ∧ tn i s'.heap ∧ (∀ b ∈ fp, H' b = none) ∧ W i n H') (fun n s5 hI => ?_) m0 ⟨0, H, I, st, fun b hb => (f b hb).1, w0⟩
  have hden : (model Y.prog Y.w).den (.compLoop e d (.ref it) acc Y.env) = (compTurn e d (.ref it) acc Y.env).onRaise (fun x => do noteFrame x Y.env; theTreesLotGoes x) := by
    show (if (Code.compLoop e d (.ref it) acc Y.env).isFrame then _ else _) = _
    rw [hfr]
    rfl
  rw [hden, hun]
  refine wpAny_noted ?_
  rw [hturn]
  refine turnG_ok ?_
  obtain ⟨i, H5, I5, st5, n5, w5⟩ := hI
  rcases turn i n H5 w5 with ⟨stop, qq⟩ | ⟨go, Nx, hNx, step⟩
  · have td := T.done Y rfl rfl rfl hc i pins s5 _ H5 (fun _ _ => False) I5 (stat n5) st5 stop
    refine thnF td fun r s6 ⟨hr, I6⟩ => ?_
    subst hr
    exact hR s6 H5 I6 n5 qq
  · have ti := T.item Y rfl rfl rfl hc i pins s5 _ H5 (fun _ _ => False) I5 (stat n5) st5 go
    refine thnF ti fun r s6 ⟨u, hr, h6⟩ => ?_
    subst hr
    refine thnF h6 fun _ s7 ⟨x, H7, I7, r7, y7, st7, n7⟩ => ?_
    have I7' := I7.pinned (stat n7) (T.obj _ _ st7)
    have pgr := hg.run _ s7 _ H7 x u _ I7' r7 (step x H7 y7)
    rw [hxe] at pgr
    refine thnF pgr fun _ s8 ⟨σ8, H8, I8, hw8, q8⟩ => ?_
    have ptr := ht.run _ s8 σ8 H8 _ I8 q8
    rw [hxe] at ptr
    refine thnF ptr fun b s9 ⟨H9, I9, q9⟩ => ?_
    have fin : ∀ {σ9 : L2.St} {s' : Shared} {H' : Hp}, Inv Y (pins ++ pinsAt fp s7.heap) σ9 H' s' → (wipe σ vs).length = σ9.length → (∀ (j : Nat) v, (wipe σ vs)[j]? = some (some v) → σ9[j]? = some (some v)) → Nx H' →
        ∃ m, m < n ∧ ∃ i H', Inv Y pins (wipe σ vs) H' s' ∧ tn i s'.heap ∧ (∀ b ∈ fp, H' b = none) ∧ W i m H' := fun {σ9 s' H'} I' hl hk nx => by
      obtain ⟨m', hm, w'⟩ := hNx H' nx
      have pin' : ∀ b ∈ fp, ∀ o, s7.heap.get? b = some o → s'.heap.get? b = some o ∧ H' b = none := fun b hb o e =>
        let z := I'.pin (b, o) (List.mem_append_right _ (List.mem_append_right _ (mem_pinsAt hb e)))
        ⟨z.1, z.2.1⟩
      refine ⟨m', hm, i + 1, H', (I'.unpinned (pins := pins)).weak hl hk, T.keep _ _ _ st7 fun b hb o e => (pin' b hb o e).1, fun b hb => ?_, w'⟩
      obtain ⟨o, e, _⟩ := T.obj _ _ st7 b hb
      exact (pin' b hb o e).2
    have hl8 : (wipe σ vs).length = σ8.length := by rw [← hw8, wipe_length]
    cases b with
    | false =>
      simp only [Bool.false_eq_true, if_false] at q9 ⊢
      refine fin I9 hl8 (fun j v e => ?_) q9
      rw [← hw8] at e
      exact (wipe_some e).1
    | true =>
      simp only [if_true] at q9 ⊢
      intro cc Q E hcc
      refine he _ s9 σ8 H9 _ cc Q E I9 q9 fun s10 ⟨σ10, H10, I10, hl10, hk10, nx⟩ => hcc s10 ?_
      refine fin I10 (hl8.trans hl10) (fun j v e => hk10 j v ?_) nx
      rw [← hw8] at e
      obtain ⟨e1, e2⟩ := wipe_some e
      rw [wipe_out fun z => e2 (hv j z)]
      exact e1

/-- the next clause's start -/
theorem start_ok {prog : Program} {w : World} {A : Around} {R : Result → Shared → Prop} {s : Shared} {e : Expr} {d : Nat} {it acc : Value} {env : Env} {t1 i1 : Expr} {ifs1 : List Expr}
    (hfr : (Code.compStart e (d + 1) it acc env).isFrame = false) (hun : A.under (Code.compStart e (d + 1) it acc env) = A) (hq : ∀ it, (Code.compLoop e (d + 1) it acc env).quiet = true) (hcl : (clausesOf e)[d + 1]? = some ⟨t1, i1, ifs1, 0⟩)
    (h0 : codeAny (model prog w) A (.compLoop e (d + 1) it acc env) R s)
    (h : wpAny (model prog w) A (pyIter it) (fun it' s' => codeAny (model prog w) A (.compLoop e (d + 1) it' acc env) R s')
      (notedBy (model prog w) A env fun x s' => R (.error x) s') s) :
    codeAny (model prog w) A (.compStart e (d + 1) it acc env) R s := by
  refine codeAny_of_tree ?_
  have hden : (model prog w).den (.compStart e (d + 1) it acc env) = (compStart e (d + 1) it acc env).onRaise (fun x => do noteFrame x env; standAt theWindowsPlace) := by
    show (if (Code.compStart e (d + 1) it acc env).isFrame then _ else _) = _
    rw [hfr]
    rfl
  rw [hden, hun]
  refine wpAny_notedAt ?_
  unfold compStart
  simp only [hcl]
  show wpAny _ _ (ask >>= _) _ _ s
  refine wpAny_bind (wpAny_askSetting (wpAny_ite ?_))
  split
  · exact wpAny_pure (And.intro (hq _) h0)
  · refine wpAny_bind (wpAny_rule ?_)
    show wpAny _ _ (standAt i1.pos >>= _) _ _ s
    exact wpAny_bind (wpAny_standAt (wpAny_bind (wpAny_mono h (fun it' s' h' => wpAny_pure (And.intro (hq _) h')) fun _ _ x => x)))

theorem em_next {t1 i1 : Expr} {ifs1 : List Expr} {em : Sem Fin → Sem Fin} {e : Expr} {d : Nat} {acc : Value} {wi : TI} {g : TG} {tt : TT} {te : L2.St → Hp → (Hp → Prop) → Prop} {vs vs1 : List Nat} (hc : Y.calm = true) (hxe : Y.xe = fun _ _ => False)
    (hturn : ∀ it, compTurn e (d + 1) it acc Y.env = turnG t1 i1 ifs1 em (.compLoop e (d + 1) it acc Y.env) it Y.env) (hfr : ∀ it, (Code.compLoop e (d + 1) it acc Y.env).isFrame = false) (hq : ∀ it, (Code.compLoop e (d + 1) it acc Y.env).quiet = true)
    (hfr2 : ∀ it, (Code.compStart e (d + 1) it acc Y.env).isFrame = false) (hun : ∀ it, Y.A.under (Code.compLoop e (d + 1) it acc Y.env) = Y.A) (hun2 : ∀ it, Y.A.under (Code.compStart e (d + 1) it acc Y.env) = Y.A) (hcl : (clausesOf e)[d + 1]? = some ⟨t1, i1, ifs1, 0⟩) (hs1 : ∀ env x, foldedSetIterable i1 env x = pure x)
    (hi : PI Y t1 i1 wi) (hg : PG Y t1 g) (ht : PTs Y ifs1 tt) (he : EmOk Y em vs1 te) (hv : ∀ i ∈ vs1, i ∈ vs) : EmOk Y (emNext e d i1 acc Y.env) vs (tCl wi g tt te vs) := by
  intro pins s σ H N cc Q E I h hcc
  unfold emNext
  have pir := hi.run pins s σ H _ I h
  rw [hxe] at pir
  refine wpAny_bind (thnF pir fun xv s10 hx => ?_)
  refine wpAny_bind (wpAny_standAt (wpAny_bind (wpAny_of_eq (hs1 Y.env xv) ?_)))
  refine wpAny_bind (wpAny_holding (thnF hx fun itv s11 h11 => ?_))
  obtain ⟨it1, fp1, tn1, J1, H11, e1, I11, T1, st11, f11, q⟩ := h11
  subst e1
  refine wpAny_bind (wpAny_runOwn ?_)
  rw [Around.mark_none]
  have loop := loop_ok (R := fun r s' => match r with | .ok _ => ∃ σ' H', Inv Y pins σ' H' s' ∧ σ.length = σ'.length ∧ (∀ (j : Nat) v, (wipe σ vs)[j]? = some (some v) → σ'[j]? = some (some v)) ∧ N H' | .error _ => False) hc hxe hturn hfr hq hun hg ht he hv
    (I11.weak (wipe_length _ _) (fun j v e => (wipe_some e).1)) T1 st11 f11 q fun s' H' I' _ n => ⟨wipe σ vs, H', I', (wipe_length _ _).symm, fun _ _ e => e, n⟩
  refine codeAny_mono (start_ok (hfr2 _) (hun2 _) hq hcl loop (T1.self Y.A 0 _ _ _ st11 loop)) fun r s' hr => ?_
  cases r with
  | ok f => exact hcc s' hr
  | error e => exact hr.elim
end
end DL

set_option maxHeartbeats 4000000
namespace DL
open PySem PySem.Spec L2 PyProof.Rows

/-! ### clauses as data -/
def kForL {α : Type} (g : G) (t : EB) (k : Rho → Sto → α → Option α) (ρ : Rho) (S : Sto) : List D → α → Option α
  | [], a => some a
  | d :: ds, a => (g d ρ).bind fun ρ1 => (t ρ1 S).bind fun b => if b then (k ρ1 S a).bind fun a' => kForL g t k ρ S ds a' else kForL g t k ρ S ds a
def kFor {α : Type} (f : EL) (vs : List Nat) (g : G) (t : EB) (k : Rho → Sto → α → Option α) : Rho → Sto → α → Option α := fun ρ S a => (f ρ S).bind fun ds => kForL g t k (wipeR ρ vs) S ds a
def kL (e : E) : Rho → Sto → List D → Option (List D) := fun ρ S a => if small a.length then (e ρ S).map fun d => a ++ [d] else none
def kD (ek ev : E) : Rho → Sto → List D × List D → Option (List D × List D) := fun ρ S p => (ek ρ S).bind fun k => (ev ρ S).bind fun v => if keyT false k && small p.1.length then some (dk1 p.1 k, dv1 p.1 p.2 k v) else none
abbrev AcT (α : Type) := PySem.W.Frag → Fr → List Addr → Hp → Addr → α → Prop
def AcL : AcT (List D) := fun K Z μ H D a => ∃ xs, H D = some (.lst xs) ∧ RVLz K Z μ H a xs
def AcD : AcT (List D × List D) := fun K Z μ H D a => ∃ kvs, H D = some (.dK kvs) ∧ a.1 = dicKs kvs ∧ RVLz K Z μ H a.2 (kvs.map (·.2))
structure AcOk {α : Type} (AC : AcT α) : Prop where
  mono : ∀ {K Z μ H H' D a}, Same H H' → AC K Z μ H D a → AC K Z μ H' D a
  mtb : ∀ {K Z μ H D a}, AC K Z μ H D a → ∃ o, H D = some o ∧ isMut o = true
theorem acL_ok : AcOk AcL := ⟨fun s ⟨xs, h, r⟩ => ⟨xs, s _ _ h, RVL.mono s r⟩, fun ⟨xs, h, _⟩ => ⟨_, h, rfl⟩⟩
theorem acD_ok : AcOk AcD := ⟨fun s ⟨xs, h, e, r⟩ => ⟨xs, s _ _ h, e, RVL.mono s r⟩, fun ⟨xs, h, _⟩ => ⟨_, h, rfl⟩⟩
def tM (K : PySem.W.Frag) {α : Type} (AC : AcT α) (k : Rho → Sto → α → Option α) (D : Addr) : L2.St → Hp → (Hp → Prop) → Prop := fun σ H N =>
  ∃ Z μ ρ S a r, Rel K Z μ σ H ρ S ∧ Z.A D ∧ Z.Hb D = none ∧ AC K Z μ H D a ∧ k ρ S a = some r ∧ ∀ H', (∀ b o, b ≠ D → H b = some o → H' b = some o) → AC K Z μ H' D r → N H'
section
variable {K : PySem.W.Frag} {Z : Fr} {μ : List Addr} {H H' H1 : Hp} {S : Sto} {σ : L2.St} {ρ : Rho} {D : Addr}
theorem RV.exc (hA : Z.A D) (hm : ∃ o, H D = some o ∧ isMut o = true) (k : ∀ b o, b ≠ D → H b = some o → H' b = some o) {d : DL.D} {v : V} (h : RVz K Z μ H d v) : RVz K Z μ H' d v :=
  RV.tr (fun a o e hn => ⟨k a o (by
    rintro rfl
    obtain ⟨u, e', m⟩ := hm
    rw [e] at e'; cases e'
    exact hn m (.inl hA)) e, hn⟩) (fun _ _ e => e) d v h
theorem RVL.exc (hA : Z.A D) (hm : ∃ o, H D = some o ∧ isMut o = true) (k : ∀ b o, b ≠ D → H b = some o → H' b = some o) {d : List DL.D} {v : List V} (h : RVLz K Z μ H d v) : RVLz K Z μ H' d v :=
  RVL.tr (fun a o e hn => ⟨k a o (by
    rintro rfl
    obtain ⟨u, e', m⟩ := hm
    rw [e] at e'; cases e'
    exact hn m (.inl hA)) e, hn⟩) (fun _ _ e => e) d v h
theorem RC.exc {a : Addr} {c : Cell} (ne : a ≠ D) (hA : Z.A D) (hm : ∃ o, H D = some o ∧ isMut o = true) (k : ∀ b o, b ≠ D → H b = some o → H' b = some o) (r : RC K Z μ H a c) : RC K Z μ H' a c := by
  cases c with
  | lst ds => obtain ⟨xs, q, r⟩ := r; exact ⟨xs, k _ _ ne q, RVL.exc hA hm k r⟩
  | dic t ks vs =>
    rcases r with ⟨t, kvs, q, e, r⟩ | ⟨t, kvs, q, e, r⟩
    · exact .inl ⟨t, kvs, k _ _ ne q, e, RVL.exc hA hm k r⟩
    · exact .inr ⟨t, kvs, k _ _ ne q, e, RVL.exc hA hm k r⟩
  | ins c fs vs => obtain ⟨C, dx, fvs, q, kc, e, r⟩ := r; exact ⟨C, dx, fvs, k _ _ ne q, kc, e, RVL.exc hA hm k r⟩
  | lck => obtain ⟨o, u, q, l⟩ := r; exact ⟨o, u, k _ _ ne q, l⟩
theorem Rel.exc (R : Rel K Z μ σ H ρ S) (hA : Z.A D) (hB : Z.Hb D = none) (hm : ∃ o, H D = some o ∧ isMut o = true) (k : ∀ b o, b ≠ D → H b = some o → H' b = some o) (t : H' D ≠ none) : Rel K Z μ σ H' ρ S := by
  have nm : ∀ a ∈ μ, a ≠ D := fun a h e => R.wd.disA a h (by rw [e]; exact hA)
  refine ⟨⟨R.wd.len, R.wd.nd, fun i c a h1 h2 => (R.wd.cell i c a h1 h2).exc (nm a (List.mem_of_getElem? h2)) hA hm k, fun a o e => k a o (by rintro rfl; rw [hB] at e; cases e) (R.wd.base a o e), R.wd.dis, fun a h => ?_, R.wd.disA, R.wd.root⟩, R.len, fun i d h => ?_⟩
  · by_cases e : a = D
    · subst e; exact t
    · cases q : H a with
      | none => exact absurd q (R.wd.av a h)
      | some o => rw [k a o e q]; exact fun z => by cases z
  · obtain ⟨v, h1, h2⟩ := R.env i d h
    exact ⟨v, h1, RV.exc hA hm k h2⟩
/-! ### iterators of further clauses -/
def Pok (Z : Fr) (H1 : Hp) (P : Addr → Prop) : Prop := ∀ a, P a → Z.A a ∧ ∀ o, H1 a = some o → isMut o = true
variable {P : Addr → Prop} {S : Sto}
theorem RV.keepA (hP : Pok Z H1 P) (k : ∀ a o, H1 a = some o → ¬ P a → H' a = some o) {d : DL.D} {v : V}
    (h : RV K (fun a => avd Z μ a ∨ H1 a = none) μ H1 d v) : RV K (fun a => avd Z μ a ∨ H1 a = none) μ H' d v :=
  RV.tr (fun a o e hn => ⟨k a o e fun p => hn ((hP a p).2 o e) (.inl (.inl (hP a p).1)), hn⟩) (fun _ _ e => e) d v h
theorem notP_A (hP : Pok Z H1 P) {a : Addr} {o : HO} (h : H1 a = some o) (m : isMut o = false) : ¬ P a := fun p => by
  have := (hP a p).2 o h
  rw [m] at this; cases this
theorem sqT_keepA (hP : Pok Z H1 P) (k : ∀ a o, H1 a = some o → ¬ P a → H' a = some o) {a : Addr} {xs : List V} (h : SqT K H1 a xs) : SqT K H' a xs := by
  rcases h with (h | ⟨o, h⟩) | h
  · exact .inl (.inl (k a _ h (notP_A hP h rfl)))
  · exact .inl (.inr ⟨o, k a _ h (notP_A hP h rfl)⟩)
  · exact .inr h
theorem itD_listA {a : Addr} {xs : List V} {ds : List DL.D} (hP : Pok Z H1 P) (hs : ∀ H', (∀ a o, H1 a = some o → ¬ P a → H' a = some o) → SqL K H' a xs) (hr : RVLz K Z μ H1 ds xs) : ItD K Z μ P (Itl K a) H1 ds := by
  intro i H' k
  have q := hs H' k
  refine ⟨fun d hd => ?_, fun hl => ⟨xs, q, by rw [RVL.length hr]; exact hl⟩⟩
  obtain ⟨v, hv, rv⟩ := RVL.get hr.old hd
  exact ⟨⟨xs, v, q, hv⟩, fun x H'' ⟨e, y⟩ => by
    subst e
    have := y xs q
    rw [hv] at this; cases this
    exact ⟨Same.refl _, RV.keepA hP k rv⟩⟩
theorem itD_tupA {a : Addr} {xs : List V} {ds : List DL.D} (hP : Pok Z H1 P) (hs : SqT K H1 a xs) (hr : RVLz K Z μ H1 ds xs) : ItD K Z μ P (Itt K a) H1 ds := by
  intro i H' k
  have q := sqT_keepA hP k hs
  refine ⟨fun d hd => ?_, fun hl => ⟨xs, q, by rw [RVL.length hr]; exact hl⟩⟩
  obtain ⟨v, hv, rv⟩ := RVL.get hr.old hd
  exact ⟨⟨xs, v, q, hv⟩, fun x H'' ⟨e, y⟩ => by
    subst e
    have := y xs q
    rw [hv] at this; cases this
    exact ⟨Same.refl _, RV.keepA hP k rv⟩⟩
theorem seq_ofA {d : DL.D} {ds : List DL.D} {v : V} (W : Wd K Z μ H1 S) (r : RVz K Z μ H1 d v) (h : seqD S d = some ds) :
    ∃ a xs, v = .ref a ∧ ((∀ P, Pok Z H1 P → ∀ H', (∀ a o, H1 a = some o → ¬ P a → H' a = some o) → SqL K H' a xs) ∧ SqL K H1 a xs ∨ SqT K H1 a xs) ∧ RVLz K Z μ H1 ds xs := by
  cases d with
  | tup es =>
    simp only [seqD, Option.some.injEq] at h; subst h
    obtain ⟨a, xs, e, h1, h2⟩ := rv_tup.mp r
    exact ⟨a, xs, e, .inr (SqT.of h1), h2⟩
  | lst es =>
    simp only [seqD, Option.some.injEq] at h; subst h
    obtain ⟨a, xs, e, h1, n, h2⟩ := rv_lst.mp r
    exact ⟨a, xs, e, .inl ⟨fun P hP H' k => SqL.of (k a _ h1 fun m => n (.inl (hP a m).1)), SqL.of h1⟩, h2⟩
  | scr ns =>
    simp only [seqD, Option.some.injEq] at h; subst h
    obtain ⟨a, e, h1⟩ := rv_scr.mp r
    refine ⟨a, _, e, .inl ⟨fun P hP H' k => ?_, ?_⟩, rvl_ints ns⟩
    · rcases h1 with ⟨o, h1⟩ | h1
      · exact .inl (.inr ⟨o, k a _ h1 (notP_A hP h1 rfl)⟩)
      · exact h1 H'
    · rcases h1 with ⟨o, h1⟩ | h1
      · exact .inl (.inr ⟨o, h1⟩)
      · exact h1 H1
  | ref n =>
    simp only [seqD] at h
    split at h
    · rename_i es hc
      cases h
      obtain ⟨a, e, hn⟩ := rv_ref.mp r
      obtain ⟨xs, hx, hr⟩ := W.cell n _ a hc hn
      exact ⟨a, xs, e, .inl ⟨fun P hP H' k => SqL.of (k a _ hx fun m => W.disA a (List.mem_of_getElem? hn) (hP a m).1), SqL.of hx⟩, hr⟩
    · cases h
  | _ => simp [seqD] at h
end
def tIA (K : PySem.W.Frag) (f : EL) : TI := fun σ H R => ∃ Z μ ρ S, Rel K Z μ σ H ρ S ∧ ∃ ds, f ρ S = some ds ∧ ∀ J H1, Same H H1 → (∀ P, Pok Z H1 P → ItD K Z μ P J H1 ds) → R J H1
section
variable {X : Cx} {e : Expr} {tg : Expr} {fa : E} {pos p : Pos}
theorem dk_seq (h : PE X e (tD X.K fa)) : PI X tg e (tIA X.K (jSeqD fa)) := pi_imp (pi_seq h) fun σ H R ⟨Z, μ, ρ, S, Rl, ds, ef, q⟩ => by
  simp only [jSeqD, Option.bind_eq_some_iff] at ef
  obtain ⟨d, e1, e2⟩ := ef
  refine ⟨Z, μ, ρ, S, Rl, d, e1, fun v H1 s1 r1 => ?_⟩
  obtain ⟨a, xs, rfl, hs, hr⟩ := seq_ofA (Rl.wd.mono s1) r1 e2
  refine ⟨a, xs, rfl, ?_⟩
  rcases hs with ⟨hs, hs1⟩ | hs
  · exact .inl ⟨hs1, q _ H1 s1 fun P hP => itD_listA hP (hs P hP) hr⟩
  · exact .inr ⟨hs, q _ H1 s1 fun P hP => itD_tupA hP hs hr⟩
theorem dk_rng1 {a : Expr} {fs : EL} (hg : Gl X "range") (hm : X.mg "range" = none) (ha : PA X [a] (tA X.K fs)) (hs : starEach [a] X.env = [(false, eval a X.env)] := by rfl) : PI X tg (.Call (.Name "range" p) [a] [] pos) (tIA X.K (iRng rng1 fs)) :=
  pi_imp (pi_range1 hg hm ha hs) fun σ H R ⟨Z, μ, ρ, S, Rl, ds, ef, q⟩ => by
    simp only [iRng, Option.bind_eq_some_iff] at ef
    obtain ⟨es, e1, e2⟩ := ef
    refine ⟨Z, μ, ρ, S, Rl, es, e1, fun vs H1 s1 r1 => ?_⟩
    unfold rng1 at e2
    split at e2
    · split at e2
      · rename_i hl
        cases e2
        obtain ⟨v, rfl, rv⟩ := rvl1 r1
        rw [rv_int.mp rv]
        exact ⟨_, rfl, (lim62_of hl).1, (lim62_of hl).2, q _ H1 s1 fun P _ => itD_rng⟩
      · cases e2
    · cases e2
theorem dk_rng2 {a b : Expr} {fs : EL} (hg : Gl X "range") (hm : X.mg "range" = none) (ha : PA X [a, b] (tA X.K fs)) (hs : starEach [a, b] X.env = [(false, eval a X.env), (false, eval b X.env)] := by rfl) (hs2 : starEach [b] X.env = [(false, eval b X.env)] := by rfl) : PI X tg (.Call (.Name "range" p) [a, b] [] pos) (tIA X.K (iRng rng2 fs)) :=
  pi_imp (pi_range2 hg hm ha hs hs2) fun σ H R ⟨Z, μ, ρ, S, Rl, ds, ef, q⟩ => by
    simp only [iRng, Option.bind_eq_some_iff] at ef
    obtain ⟨es, e1, e2⟩ := ef
    refine ⟨Z, μ, ρ, S, Rl, es, e1, fun vs H1 s1 r1 => ?_⟩
    unfold rng2 at e2
    split at e2
    · split at e2
      · rename_i hl
        cases e2
        rw [Bool.and_eq_true] at hl
        obtain ⟨v, u, rfl, rv, ru⟩ := rvl2 r1
        rw [rv_int.mp rv, rv_int.mp ru]
        have h1 := lim62_of hl.1
        have h2 := lim62_of hl.2
        exact ⟨_, _, rfl, ⟨h1.1, h1.2, h2.1, h2.2⟩, q _ H1 s1 fun P _ => itD_rng⟩
      · cases e2
    · cases e2
end

/-! ### what is done behind the tests -/
section
variable {Y : Cx} {α : Type} {AC : AcT α} {D : Addr}
theorem em_leafL {elt : Expr} {e : E} (hxe : Y.xe = fun _ _ => False) (h : PE Y elt (tD Y.K e)) : EmOk Y (emL elt (.ref D) Y.env) [] (tM Y.K AcL (kL e) D) := by
  intro pins s σ H N cc Q E I ⟨Z, μ, ρ, S, a, r, R, hA, hB, ⟨xs, hD, ha⟩, ek, q⟩ hcc
  unfold kL at ek
  split at ek
  case isFalse => cases ek
  rename_i hsm
  rw [Option.map_eq_some_iff] at ek
  obtain ⟨d, ee, rfl⟩ := ek
  have her := h.run pins s σ H (fun v H1 => Same H H1 ∧ RVz Y.K Z μ H1 d v) I ⟨Z, μ, ρ, S, R, d, ee, fun v H1 s1 rv => ⟨s1, rv⟩⟩
  rw [hxe] at her
  unfold emL
  refine wpAny_bind (wpAny_bind (thnF her fun z s1 ⟨y, H1, I1, r1, s1', rv⟩ => ?_))
  have hD1 : H1 D = some (.lst xs) := s1' _ _ hD
  have hl : xs.length < sizeLine := by rw [RVL.length ha]; exact small_lt hsm
  refine wpAny_bind (app_ok (X := Y) I1 hD1 hl r1 fun s2 I2 => wpAny_pure (hcc s2 ⟨σ, _, I2, rfl, fun _ _ e => e, ?_⟩))
  have k : ∀ b o, b ≠ D → H1 b = some o → (upd H1 D (.lst (xs ++ [y]))) b = some o := fun b o ne e => by rw [upd_ne ne]; exact e
  have hm : ∃ o, H1 D = some o ∧ isMut o = true := ⟨_, hD1, rfl⟩
  refine q _ (fun b o ne e => k b o ne (s1' _ _ e)) ⟨xs ++ [y], upd_same, ?_⟩
  exact RVL.app (RVL.exc hA hm k (RVL.mono s1' ha)) (RVL.one (RV.exc hA hm k rv))
theorem em_leafD {kx vx : Expr} {ek ev : E} (hxe : Y.xe = fun _ _ => False) (hk : PE Y kx (tD Y.K ek)) (hv : PE Y vx (tD Y.K ev)) : EmOk Y (emD kx vx D Y.env) [] (tM Y.K AcD (kD ek ev) D) := by
  intro pins s σ H N cc Q E I ⟨Z, μ, ρ, S, a, r, R, hA, hB, ⟨kvs, hD, hks, ha⟩, ekk, q⟩ hcc
  simp only [kD, Option.bind_eq_some_iff] at ekk
  obtain ⟨dk, e1, dv, e2, e3⟩ := ekk
  split at e3
  case isFalse => cases e3
  rename_i hc
  rw [Bool.and_eq_true] at hc
  obtain ⟨hkt, hsm⟩ := hc
  cases e3
  have her := hk.run pins s σ H (fun v H1 => Same H H1 ∧ RVz Y.K Z μ H1 dk v) I ⟨Z, μ, ρ, S, R, dk, e1, fun v H1 s1 rv => ⟨s1, rv⟩⟩
  rw [hxe] at her
  unfold emD
  refine wpAny_bind (wpAny_bind (thnF her fun z s1 ⟨y, H1, I1, r1, s1', rk⟩ => ?_))
  have her2 := hv.run pins s1 σ H1 (fun v H2 => Same H1 H2 ∧ RVz Y.K Z μ H2 dv v) I1 ⟨Z, μ, ρ, S, R.mono s1', dv, e2, fun v H2 s2 rv => ⟨s2, rv⟩⟩
  rw [hxe] at her2
  refine wpAny_bind (wpAny_holding (thnF her2 fun z2 s2 ⟨y2, H2, I2, r2, s2', rv⟩ => ?_))
  obtain ⟨k, ekey⟩ := Option.isSome_iff_exists.mp hkt
  have ex := keyOf_some ekey
  subst ex
  have hs := s1'.trans s2'
  have hD2 : H2 D = some (.dK kvs) := hs _ _ hD
  have ha2 : RVLz Y.K Z μ H2 a.2 (kvs.map (·.2)) := RVL.mono hs ha
  have ey : y = kV k := rv_key rk
  subst ey
  have hl : kvs.length < sizeLine := by
    have : a.1.length = kvs.length := by rw [hks]; simp [dicKs]
    rw [← this]; exact small_lt hsm
  refine wpAny_bind (wpAny_standAt (wpAny_holding (d_dictSet (X := Y) I2 hD2 hl r1 r2 fun s3 I3 => hcc s3 ⟨σ, _, I3, rfl, fun _ _ e => e, ?_⟩)))
  have kp : ∀ b o, b ≠ D → H2 b = some o → (upd H2 D (.dK (putK kvs k y2))) b = some o := fun b o ne e => by rw [upd_ne ne]; exact e
  have hm : ∃ o, H2 D = some o ∧ isMut o = true := ⟨_, hD2, rfl⟩
  have hh : hasD (dicKs kvs) (keyD k) = (kvs.any fun kv => decide (kv.1 = k)) := by
    rw [valV_any]
    exact has_k keyD (fun _ _ => keyD_inj) k kvs
  have both : dicKs (putK kvs k y2) = dk1 (dicKs kvs) (keyD k) ∧ RVLz Y.K Z μ H2 (dv1 (dicKs kvs) a.2 (keyD k) dv) ((putK kvs k y2).map (·.2)) := by
    unfold dk1 dv1
    rw [hh]
    by_cases hany : (kvs.any fun kv => decide (kv.1 = k)) = true
    · obtain ⟨p1, p2⟩ := put_k keyD (fun _ _ => keyD_inj) k rv ha2
      have ep : putK kvs k y2 = kvs.map (fun kv => if kv.1 = k then (kv.1, y2) else kv) := if_pos hany
      rw [if_pos hany, if_pos hany, ep]
      exact ⟨by unfold dicKs; rw [p2], p1⟩
    · have ep : putK kvs k y2 = kvs ++ [(k, y2)] := if_neg hany
      rw [if_neg hany, if_neg hany, ep]
      refine ⟨by simp [dicKs], ?_⟩
      rw [List.map_append]
      exact RVL.app ha2 (RVL.one rv)
  refine q _ (fun b o ne e => kp b o ne (hs _ _ e)) ⟨putK kvs k y2, upd_same, ?_, ?_⟩
  · rw [hks]; exact both.1.symm
  · rw [hks]; exact RVL.exc hA hm kp both.2
theorem tCl_of {K : PySem.W.Frag} (ao : AcOk AC) {f : EL} {vs vt : List Nat} {g : G} {t : EB} {k : Rho → Sto → α → Option α} (hv : ∀ i ∈ vt, i ∈ vs) {σ : L2.St} {H : Hp} {N : Hp → Prop} (h : tM K AC (kFor f vs g t k) D σ H N) :
    tCl (tIA K f) (tG K vt g) (tT K t) (tM K AC k D) vs σ H N := by
  obtain ⟨Z, μ, ρ, S, a, r, R, hA, hB, hac, ek, q⟩ := h
  simp only [kFor, Option.bind_eq_some_iff] at ek
  obtain ⟨ds, e1, e2⟩ := ek
  refine ⟨Z, μ, ρ, S, R, ds, e1, fun J H1 s1 it => ?_⟩
  have R1 := R.mono s1
  have hm1 := ao.mtb (ao.mono s1 hac)
  have itd := it (fun b => b = D) fun b e => by
    subst e
    refine ⟨hA, fun o e => ?_⟩
    obtain ⟨u, e', m⟩ := hm1
    rw [e] at e'; cases e'
    exact m
  refine ⟨fun i m H' => m = ds.length - i ∧ i ≤ ds.length ∧ (∀ b o, b ≠ D → H1 b = some o → H' b = some o) ∧ ∃ a', AC K Z μ H' D a' ∧ kForL g t k (wipeR ρ vs) S (ds.drop i) a' = some r,
    ⟨ds.length, by simp, Nat.zero_le _, fun _ _ _ e => e, a, ao.mono s1 hac, by simpa using e2⟩, ?_⟩
  rintro i m H' ⟨rfl, hi, k2, a', hac', ec⟩
  obtain ⟨it1, it2⟩ := itd i H' fun b o e n => k2 b o n e
  have RH : Rel K Z μ σ H' ρ S := R1.exc hA hB hm1 k2 (by obtain ⟨o, e, _⟩ := ao.mtb hac'; rw [e]; exact fun z => by cases z)
  by_cases hlt : i < ds.length
  · obtain ⟨hgo, hyld⟩ := it1 ds[i] (List.getElem?_eq_getElem hlt)
    rw [List.drop_eq_getElem_cons hlt] at ec
    refine .inr ⟨hgo, _, fun H2 h2 => ⟨ds.length - (i + 1), by omega, rfl, hlt, h2⟩, fun x H2 hy => ?_⟩
    obtain ⟨s3, rx⟩ := hyld x H2 hy
    simp only [kForL, Option.bind_eq_some_iff] at ec
    obtain ⟨ρ1, eg, b, et, ec⟩ := ec
    have R2 := (RH.mono s3).wipe vs
    have rx' : RVz K Z μ H2 ds[i] x := RV.tr (fun a o e hn => ⟨e, fun m q => hn m (.inl q)⟩) (fun _ _ e => e) _ _ rx
    refine ⟨Z, μ, wipeR ρ vs, S, ds[i], R2, rx', ρ1, eg, fun σ2 R3 kk l2 => ⟨?_, ?_⟩⟩
    · exact (wipe_eq l2 fun j hj => kk j fun h => hj (hv j h)).trans wipe_wipe
    · refine ⟨Z, μ, ρ1, S, R3, b, et, fun H3 s4 => ?_⟩
      cases b with
      | false =>
        rw [if_neg Bool.false_ne_true] at ec
        exact iteF ⟨fun b o ne e => s4 _ _ (s3 _ _ (k2 b o ne e)), a', ao.mono (s3.trans s4) hac', ec⟩
      | true =>
        rw [if_pos rfl] at ec
        rw [Option.bind_eq_some_iff] at ec
        obtain ⟨a2, ek2, ec⟩ := ec
        refine iteT ⟨Z, μ, ρ1, S, a', a2, R3.mono s4, hA, hB, ao.mono (s3.trans s4) hac', ek2, fun H5 k5 ac5 => ?_⟩
        exact ⟨fun b o ne e => k5 b o ne (s4 _ _ (s3 _ _ (k2 b o ne e))), a2, ac5, ec⟩
  · have hi' : i = ds.length := by omega
    subst hi'
    simp only [List.drop_length, kForL, Option.some.injEq] at ec
    subst ec
    exact .inl ⟨it2 (Nat.le_refl _), q H' (fun b o ne e => k2 b o ne (s1 _ _ e)) hac'⟩
theorem em_imp {em : Sem Fin → Sem Fin} {vs : List Nat} {te te' : L2.St → Hp → (Hp → Prop) → Prop} (h : EmOk Y em vs te) (i : ∀ σ H N, te' σ H N → te σ H N) : EmOk Y em vs te' := fun pins s σ H N cc Q E I q => h pins s σ H N cc Q E I (i σ H N q)
theorem em_nextD {t1 i1 : Expr} {ifs1 : List Expr} {em : Sem Fin → Sem Fin} {e : Expr} {d : Nat} {f : EL} {vs vt vs1 : List Nat} {g : G} {t : EB} {k : Rho → Sto → α → Option α} (ao : AcOk AC) (hc : Y.calm = true) (hxe : Y.xe = fun _ _ => False)
    (hturn : ∀ it, compTurn e (d + 1) it (.ref D) Y.env = turnG t1 i1 ifs1 em (.compLoop e (d + 1) it (.ref D) Y.env) it Y.env) (hfr : ∀ it, (Code.compLoop e (d + 1) it (.ref D) Y.env).isFrame = false) (hq : ∀ it, (Code.compLoop e (d + 1) it (.ref D) Y.env).quiet = true)
    (hfr2 : ∀ it, (Code.compStart e (d + 1) it (.ref D) Y.env).isFrame = false) (hun : ∀ it, Y.A.under (Code.compLoop e (d + 1) it (.ref D) Y.env) = Y.A) (hun2 : ∀ it, Y.A.under (Code.compStart e (d + 1) it (.ref D) Y.env) = Y.A) (hcl : (clausesOf e)[d + 1]? = some ⟨t1, i1, ifs1, 0⟩) (hs1 : ∀ env x, foldedSetIterable i1 env x = pure x)
    (hi : PI Y t1 i1 (tIA Y.K f)) (hg : PG Y t1 (tG Y.K vt g)) (ht : PTs Y ifs1 (tT Y.K t)) (he : EmOk Y em vs1 (tM Y.K AC k D)) (hv : ∀ i ∈ vs1, i ∈ vs) (hvt : ∀ i ∈ vt, i ∈ vs) :
    EmOk Y (emNext e d i1 (.ref D) Y.env) vs (tM Y.K AC (kFor f vs g t k) D) :=
  em_imp (em_next hc hxe hturn hfr hq hfr2 hun hun2 hcl hs1 hi hg ht he hv) fun σ H N h => tCl_of ao hvt h
end
end DL

set_option maxHeartbeats 4000000
namespace DL
open PySem PySem.Spec L2 PyProof.Rows
def tCN (wi : TI) (o0 : HO) (g : TG) (tt : TT) (te : Addr → L2.St → Hp → (Hp → Prop) → Prop) (vs : List Nat) : TE := fun σ H Q => wi σ H fun J H1 => ∀ D, H1 D = none → tClL g tt (te D) vs J σ (fun H => Q (.ref D) H) (upd H1 D o0)
section
variable {X : Cx}

theorem lcN_core {pins : List (Addr × Obj)} {s : Shared} {σ : L2.St} {H : Hp} {Q : VK} {elt tg iter : Expr} {ifs : List Expr} {gs : List Comprehension} {scope : Scope} {own : List (Str × Nat)} {vs1 : List Nat} {pos pos' : Pos} {wi : TI} {g : TG} {tt : TT} {te : Addr → L2.St → Hp → (Hp → Prop) → Prop} {em : Addr → Env → Sem Fin → Sem Fin} {use : Option (Value → Sem Unit)} {Qf : Value → Shared → Prop}
    (hc : X.calm = true) (hN : X.N.Nodup) (I : Inv X pins σ H s) (hi : PI X tg iter wi) (ok : BlkOk X.N X.env.scope scope own) (hv : ∀ i ∈ vs1, i ∈ own.map (·.2))
    (hturn : ∀ it D env, compTurn (.ListComp elt (⟨tg, iter, ifs, 0⟩ :: gs) scope pos) 0 it (.ref D) env = turnG tg iter ifs (em D env) (.compLoop (.ListComp elt (⟨tg, iter, ifs, 0⟩ :: gs) scope pos) 0 it (.ref D) env) it env)
    (hg : ∀ (s : Shared) (H : Hp) (C : Addr) (cl : List (Str × Addr)) (fp : List Addr), PG (X.blk s H scope (compEnvC scope cl C X.env) fp) tg g) (ht : ∀ (s : Shared) (H : Hp) (C : Addr) (cl : List (Str × Addr)) (fp : List Addr), PTs (X.blk s H scope (compEnvC scope cl C X.env) fp) ifs tt)
    (he : ∀ (s : Shared) (H : Hp) (C : Addr) (cl : List (Str × Addr)) (fp : List Addr) (D : Addr), EmOk (X.blk s H scope (compEnvC scope cl C X.env) fp) (em D (compEnvC scope cl C X.env)) vs1 (te D)) (hs : ∀ x, foldedSetIterable iter X.env x = pure x)
    (h : tCN wi (.lst []) g tt te (own.map (·.2)) σ H Q)
    (hRR : ∀ D C s' m H', Inv X pins σ H' s' → Q (.ref D) H' → s'.heap.Ns C m → FpOk X pins H' C → compPost (model X.prog X.w) X.A X.xe use Qf (.ref D) C (.ok .next) s') :
    wpAny (model X.prog X.w) X.A (comprehension (.ListComp elt (⟨tg, iter, ifs, 0⟩ :: gs) scope pos) scope X.env pos' (newList []) false (eval iter X.env) use) Qf X.xe s := by
  have hfree : ∀ y ∈ scope.names, y.2 = .free → ∃ c, X.env.cells.lookup y.1 = some c := fun y hy e => by
    rcases ok.free y hy e with k | k
    · exact I.ok.has _ (.inl k)
    · exact I.ok.has _ (.inr k)
  refine wpAny_comprehension_free (use := use) rfl hs (closure_ok hfree) ok.kind (fun y hy e => by rw [ok.uniq y hy, e])
    (thn (hi.run pins s σ H _ I h) fun xv s1 hx => thn hx fun itv s2 h2 => ?_)
  obtain ⟨it, fp, tn, J, H2, e, I2, T, st2, f2, q⟩ := h2
  subst e
  refine wpAny_newObj_type (newEnv_comp ?_) (by show 0 ≤ sizeLine; decide)
  generalize hD : s2.heap.objs.size = D
  have hDn : H2 D = none := I2.hok.fresh (Nat.le_of_eq hD)
  have q' := q D hDn
  generalize hs3 : ({ s2 with heap := s2.heap.push { cls := .type "list", data := .seq ([] : List Value).toArray } } : Shared) = s3
  have I3 : Inv X pins σ (upd H2 D (.lst [])) s3 := by
    rw [← hs3]
    refine I2.laid (t' := s2.toks) (fun b o e => Heap.get?_push_of_some _ e) (Nat.le_of_eq hD) ⟨Nat.zero_le _, [], 0, .nil, ?_⟩
    rw [← hD]
    exact Heap.get?_push_size _ rfl
  have h3 : s3.heap = s2.heap.push { cls := .type "list", data := .seq ([] : List Value).toArray } := by rw [← hs3]
  have sz : ∀ b ∈ fp, b < s2.heap.objs.size := fun b hb => by
    obtain ⟨o, e, _⟩ := T.obj _ _ st2 b hb
    exact Heap.lt_size e
  have f3 : ∀ b ∈ fp, FpOk X pins (upd H2 D (.lst [])) b ∧ b < s3.heap.objs.size := fun b hb => by
    have hlt := sz b hb
    refine ⟨⟨?_, (f2 b hb).2⟩, by rw [h3, Heap.size_push]; exact Nat.lt_succ_of_lt hlt⟩
    rw [upd_ne (by rw [← hD]; exact Nat.ne_of_lt hlt)]
    exact (f2 b hb).1
  have st3 : tn 0 s3.heap := T.keep _ _ _ st2 fun b _ o e => by rw [h3]; exact Heap.get?_push_of_some _ e
  have I4 := block_start I3 ok hN f3
  have pg := hg s3 (upd H2 D (.lst [])) s3.heap.objs.size (cellsFrom (s3.heap.objs.size + 1) scope.names (cloFrom X.env.cells scope.names [])) fp
  have pt := ht s3 (upd H2 D (.lst [])) s3.heap.objs.size (cellsFrom (s3.heap.objs.size + 1) scope.names (cloFrom X.env.cells scope.names [])) fp
  have pe := he s3 (upd H2 D (.lst [])) s3.heap.objs.size (cellsFrom (s3.heap.objs.size + 1) scope.names (cloFrom X.env.cells scope.names [])) fp D
  show codeAny _ _ (.compStart (.ListComp elt (⟨tg, iter, ifs, 0⟩ :: gs) scope pos) 0 (.ref it) (.ref D) (compEnvC scope (cellsFrom (s3.heap.objs.size + 1) scope.names (cloFrom X.env.cells scope.names [])) s3.heap.objs.size X.env)) (compPost (model X.prog X.w) X.A X.xe use Qf (.ref D) s3.heap.objs.size) { s3 with heap := pushCells (s3.heap.push { cls := .type "dict", data := .dict #[] }) scope.names }
  have nfp : ∀ b ∈ fp, (upd H2 D (.lst [])) b = none := fun b hb => (f3 b hb).1.1
  generalize hce : compEnvC scope (cellsFrom (s3.heap.objs.size + 1) scope.names (cloFrom X.env.cells scope.names [])) s3.heap.objs.size X.env = ce at I4 pg pt pe ⊢
  have cL : ce.locals = s3.heap.objs.size := by subst hce; rfl
  generalize hH3 : upd H2 D (.lst []) = H3 at I3 I4 pg pt pe q' nfp f3
  generalize hs4 : ({ s3 with heap := pushCells (s3.heap.push { cls := .type "dict", data := .dict #[] }) scope.names } : Shared) = s4 at I4 ⊢
  have st4 : tn 0 s4.heap := T.keep _ _ _ st3 fun b _ o e => by rw [← hs4]; exact pushCells_keeps _ _ _ _ (Heap.get?_push_of_some _ e)
  have stat : ∀ {σ' : L2.St} {H' : Hp} {s' : Shared}, Inv (X.blk s3 H3 scope ce fp) [] σ' H' s' → (∀ b ∈ fp, H' b = none) → ∀ b ∈ fp, FpOk (X.blk s3 H3 scope ce fp) [] H' b := fun {σ' H' s'} I' hn b hb =>
    ⟨hn b hb, (I'.ok.exf b hb).1, I'.ok.exfs b hb, .inl hb, fun x c e => (I'.ok.exf b hb).2 x c e, fun p hp => absurd (show p ∈ ([] : List (Addr × Obj)) ++ [] from hp) (by simp)⟩
  have loop : codeAny (model X.prog X.w) X.A (.compLoop (.ListComp elt (⟨tg, iter, ifs, 0⟩ :: gs) scope pos) 0 (.ref it) (.ref D) ce) (compPost (model X.prog X.w) X.A X.xe use Qf (.ref D) s3.heap.objs.size) s4 := by
    refine loop_ok (Y := X.blk s3 H3 scope ce fp) hc rfl (fun it => hturn it D ce) (fun _ => rfl) (fun _ => rfl) (fun _ => rfl) pg pt pe hv I4 T st4 (stat I4 nfp) q' fun s6 H5 I6 n5 qq => ?_
    have I7 : Inv X pins σ H5 s6 := I3.call' (ch := fp) I6.os I6.base I6.hok I6.bare fun b hb => ⟨(f3 b hb).1.2.2.2.1, (f3 b hb).1.2.1, (f3 b hb).1.2.2.2.2.1, (f3 b hb).1.2.2.2.2.2⟩
    have nC : H5 s3.heap.objs.size = none := by
      have z : H5 ce.locals = none := I6.free
      rw [cL] at z
      exact z
    obtain ⟨m, hn, _⟩ := I6.loc
    have hn : s6.heap.Ns ce.locals m := hn
    rw [cL] at hn
    exact hRR D s3.heap.objs.size s6 m H5 I7 qq hn (I3.fpOk (Nat.le_refl _) nC)
  exact codeAny_compStart_list loop (T.self X.A 0 _ _ _ st4 loop)
theorem pe_lcN {elt tg iter : Expr} {ifs : List Expr} {gs : List Comprehension} {scope : Scope} {own : List (Str × Nat)} {vs1 : List Nat} {pos : Pos} {wi : TI} {g : TG} {tt : TT} {te : Addr → L2.St → Hp → (Hp → Prop) → Prop} {em : Addr → Env → Sem Fin → Sem Fin}
    (hc : X.calm = true) (hN : X.N.Nodup) (hi : PI X tg iter wi) (ok : BlkOk X.N X.env.scope scope own) (hv : ∀ i ∈ vs1, i ∈ own.map (·.2))
    (hturn : ∀ it D env, compTurn (.ListComp elt (⟨tg, iter, ifs, 0⟩ :: gs) scope pos) 0 it (.ref D) env = turnG tg iter ifs (em D env) (.compLoop (.ListComp elt (⟨tg, iter, ifs, 0⟩ :: gs) scope pos) 0 it (.ref D) env) it env)
    (hg : ∀ (s : Shared) (H : Hp) (C : Addr) (cl : List (Str × Addr)) (fp : List Addr), PG (X.blk s H scope (compEnvC scope cl C X.env) fp) tg g) (ht : ∀ (s : Shared) (H : Hp) (C : Addr) (cl : List (Str × Addr)) (fp : List Addr), PTs (X.blk s H scope (compEnvC scope cl C X.env) fp) ifs tt)
    (he : ∀ (s : Shared) (H : Hp) (C : Addr) (cl : List (Str × Addr)) (fp : List Addr) (D : Addr), EmOk (X.blk s H scope (compEnvC scope cl C X.env) fp) (em D (compEnvC scope cl C X.env)) vs1 (te D)) (hs : ∀ x, foldedSetIterable iter X.env x = pure x) :
    PE X (.ListComp elt (⟨tg, iter, ifs, 0⟩ :: gs) scope pos) (tCN wi (.lst []) g tt te (own.map (·.2))) := by
  refine ⟨fun pins s σ H Q I h => ?_⟩
  rw [eval_ListComp]
  refine lcN_core hc hN I hi ok hv hturn hg ht he hs h fun D C s' m H' I' q hn f => ⟨m, hn, fun h'' sb => ?_⟩
  obtain ⟨f0, f1, f2, f3, f4, f5⟩ := f
  exact ⟨.ref D, H', I'.turned (t' := s'.toks) (fun b o hb e => (sb.2 b hb).trans e) f0 f1 f3 f4 f5, rfl, q⟩
theorem ps_setlcN {i : Nat} {y : Str} {py : Pos} {elt tg iter : Expr} {ifs : List Expr} {gs : List Comprehension} {scope : Scope} {own : List (Str × Nat)} {vs1 : List Nat} {pos spos : Pos} {wi : TI} {g : TG} {tt : TT} {te : Addr → L2.St → Hp → (Hp → Prop) → Prop} {em : Addr → Env → Sem Fin → Sem Fin}
    (hc : X.calm = true) (hN : X.N.Nodup) (hy : X.N[i]? = some y) (hyl : X.env.scope.names.lookup y = some .local)
    (hsw : swapsWith (.ListComp elt (⟨tg, iter, ifs, 0⟩ :: gs) scope pos) (some (.Name y py)) spos.line X.env = pure true) (hi : PI X tg iter wi) (ok : BlkOk X.N X.env.scope scope own) (hv : ∀ i ∈ vs1, i ∈ own.map (·.2))
    (hturn : ∀ it D env, compTurn (.ListComp elt (⟨tg, iter, ifs, 0⟩ :: gs) scope pos) 0 it (.ref D) env = turnG tg iter ifs (em D env) (.compLoop (.ListComp elt (⟨tg, iter, ifs, 0⟩ :: gs) scope pos) 0 it (.ref D) env) it env)
    (hg : ∀ (s : Shared) (H : Hp) (C : Addr) (cl : List (Str × Addr)) (fp : List Addr), PG (X.blk s H scope (compEnvC scope cl C X.env) fp) tg g) (ht : ∀ (s : Shared) (H : Hp) (C : Addr) (cl : List (Str × Addr)) (fp : List Addr), PTs (X.blk s H scope (compEnvC scope cl C X.env) fp) ifs tt)
    (he : ∀ (s : Shared) (H : Hp) (C : Addr) (cl : List (Str × Addr)) (fp : List Addr) (D : Addr), EmOk (X.blk s H scope (compEnvC scope cl C X.env) fp) (em D (compEnvC scope cl C X.env)) vs1 (te D)) (hs : ∀ x, foldedSetIterable iter X.env x = pure x) :
    PS X (.Assign [.Name y py] (.ListComp elt (⟨tg, iter, ifs, 0⟩ :: gs) scope pos) spos) (tAsg (tCN wi (.lst []) g tt te (own.map (·.2))) (L2.gName i)) := by
  refine ⟨fun pins s σ H D I h => ?_⟩
  rw [exec_Assign_Name_used _ _ _ _ hsw]
  refine wpAny_bind (wpAny_standAt (wpAny_bind ?_))
  show wpAny _ X.A (do let _ ← comprehension (.ListComp elt (⟨tg, iter, ifs, 0⟩ :: gs) scope pos) scope X.env (firstIterPos (⟨tg, iter, ifs, 0⟩ :: gs) pos) (newList []) false (eval iter X.env) (some (assign (.Name y py) X.env))) _ _ s
  have h : tCN wi (.lst []) g tt te (own.map (·.2)) σ H (fun x H1 => L2.gName i x σ H1 D.nx) := h
  refine wpAny_bind (thn (lcN_core (Qf := fun _ s' => SP X pins D .next s') hc hN I hi ok hv hturn hg ht he hs h fun L C s' m H' I' q hn f => ?_) fun _ s' hq => wpAny_pure (wpAny_pure hq))
  show wpAny _ _ (assign (.Name y py) X.env (.ref L)) _ _ _
  refine wpAny_assign_Name (store_ok2 (v := V.ref L) I' hN hy (.inl hyl) rfl (fun s2 I2 ⟨a, sb, ha⟩ => ?_) (.inr hyl))
  obtain ⟨f0, f1, f2, f3, f4, f5⟩ := f
  have haC : C ≠ a := by
    rcases ha with z | z
    · rw [z]; exact f1
    · exact fun e => f4 y a z e.symm
  refine ⟨m, hn.sameBut sb haC, fun h3 sb3 => ?_⟩
  exact ⟨_, H', I2.turned (t' := s2.toks) (fun b o hb e => (sb3.2 b hb).trans e) f0 f1 f3 f4 f5, q⟩

theorem dcN_core {pins : List (Addr × Obj)} {s : Shared} {σ : L2.St} {H : Hp} {Q : VK} {kx vx tg iter : Expr} {ifs : List Expr} {gs : List Comprehension} {scope : Scope} {own : List (Str × Nat)} {vs1 : List Nat} {pos pos' : Pos} {wi : TI} {g : TG} {tt : TT} {te : Addr → L2.St → Hp → (Hp → Prop) → Prop} {em : Addr → Env → Sem Fin → Sem Fin} {use : Option (Value → Sem Unit)} {Qf : Value → Shared → Prop}
    (hc : X.calm = true) (hN : X.N.Nodup) (I : Inv X pins σ H s) (hi : PI X tg iter wi) (ok : BlkOk X.N X.env.scope scope own) (hv : ∀ i ∈ vs1, i ∈ own.map (·.2))
    (hturn : ∀ it D env, compTurn (.DictComp kx vx (⟨tg, iter, ifs, 0⟩ :: gs) scope pos) 0 it (.ref D) env = turnG tg iter ifs (em D env) (.compLoop (.DictComp kx vx (⟨tg, iter, ifs, 0⟩ :: gs) scope pos) 0 it (.ref D) env) it env)
    (hg : ∀ (s : Shared) (H : Hp) (C : Addr) (cl : List (Str × Addr)) (fp : List Addr), PG (X.blk s H scope (compEnvC scope cl C X.env) fp) tg g) (ht : ∀ (s : Shared) (H : Hp) (C : Addr) (cl : List (Str × Addr)) (fp : List Addr), PTs (X.blk s H scope (compEnvC scope cl C X.env) fp) ifs tt)
    (he : ∀ (s : Shared) (H : Hp) (C : Addr) (cl : List (Str × Addr)) (fp : List Addr) (D : Addr), EmOk (X.blk s H scope (compEnvC scope cl C X.env) fp) (em D (compEnvC scope cl C X.env)) vs1 (te D)) (hs : ∀ x, foldedSetIterable iter X.env x = pure x)
    (h : tCN wi (.dK []) g tt te (own.map (·.2)) σ H Q)
    (hRR : ∀ D C s' m H', Inv X pins σ H' s' → Q (.ref D) H' → s'.heap.Ns C m → FpOk X pins H' C → compPost (model X.prog X.w) X.A X.xe use Qf (.ref D) C (.ok .next) s') :
    wpAny (model X.prog X.w) X.A (comprehension (.DictComp kx vx (⟨tg, iter, ifs, 0⟩ :: gs) scope pos) scope X.env pos' newDict false (eval iter X.env) use) Qf X.xe s := by
  have hfree : ∀ y ∈ scope.names, y.2 = .free → ∃ c, X.env.cells.lookup y.1 = some c := fun y hy e => by
    rcases ok.free y hy e with k | k
    · exact I.ok.has _ (.inl k)
    · exact I.ok.has _ (.inr k)
  refine wpAny_comprehension_free (use := use) rfl hs (closure_ok hfree) ok.kind (fun y hy e => by rw [ok.uniq y hy, e])
    (thn (hi.run pins s σ H _ I h) fun xv s1 hx => thn hx fun itv s2 h2 => ?_)
  obtain ⟨it, fp, tn, J, H2, e, I2, T, st2, f2, q⟩ := h2
  subst e
  refine wpAny_newObj_type (newEnv_comp ?_)
  generalize hD : s2.heap.objs.size = D
  have hDn : H2 D = none := I2.hok.fresh (Nat.le_of_eq hD)
  have q' := q D hDn
  generalize hs3 : ({ s2 with heap := s2.heap.push { cls := .type "dict", data := .dict #[] } } : Shared) = s3
  have I3 : Inv X pins σ (upd H2 D (.dK [])) s3 := by
    rw [← hs3]
    refine I2.laid (t' := s2.toks) (fun b o e => Heap.get?_push_of_some _ e) (Nat.le_of_eq hD) ?_
    rw [← hD]
    exact dk_empty s2.heap I2.big
  have h3 : s3.heap = s2.heap.push { cls := .type "dict", data := .dict #[] } := by rw [← hs3]
  have sz : ∀ b ∈ fp, b < s2.heap.objs.size := fun b hb => by
    obtain ⟨o, e, _⟩ := T.obj _ _ st2 b hb
    exact Heap.lt_size e
  have f3 : ∀ b ∈ fp, FpOk X pins (upd H2 D (.dK [])) b ∧ b < s3.heap.objs.size := fun b hb => by
    have hlt := sz b hb
    refine ⟨⟨?_, (f2 b hb).2⟩, by rw [h3, Heap.size_push]; exact Nat.lt_succ_of_lt hlt⟩
    rw [upd_ne (by rw [← hD]; exact Nat.ne_of_lt hlt)]
    exact (f2 b hb).1
  have st3 : tn 0 s3.heap := T.keep _ _ _ st2 fun b _ o e => by rw [h3]; exact Heap.get?_push_of_some _ e
  have I4 := block_start I3 ok hN f3
  have pg := hg s3 (upd H2 D (.dK [])) s3.heap.objs.size (cellsFrom (s3.heap.objs.size + 1) scope.names (cloFrom X.env.cells scope.names [])) fp
  have pt := ht s3 (upd H2 D (.dK [])) s3.heap.objs.size (cellsFrom (s3.heap.objs.size + 1) scope.names (cloFrom X.env.cells scope.names [])) fp
  have pe := he s3 (upd H2 D (.dK [])) s3.heap.objs.size (cellsFrom (s3.heap.objs.size + 1) scope.names (cloFrom X.env.cells scope.names [])) fp D
  show codeAny _ _ (.compStart (.DictComp kx vx (⟨tg, iter, ifs, 0⟩ :: gs) scope pos) 0 (.ref it) (.ref D) (compEnvC scope (cellsFrom (s3.heap.objs.size + 1) scope.names (cloFrom X.env.cells scope.names [])) s3.heap.objs.size X.env)) (compPost (model X.prog X.w) X.A X.xe use Qf (.ref D) s3.heap.objs.size) { s3 with heap := pushCells (s3.heap.push { cls := .type "dict", data := .dict #[] }) scope.names }
  have nfp : ∀ b ∈ fp, (upd H2 D (.dK [])) b = none := fun b hb => (f3 b hb).1.1
  generalize hce : compEnvC scope (cellsFrom (s3.heap.objs.size + 1) scope.names (cloFrom X.env.cells scope.names [])) s3.heap.objs.size X.env = ce at I4 pg pt pe ⊢
  have cL : ce.locals = s3.heap.objs.size := by subst hce; rfl
  generalize hH3 : upd H2 D (.dK []) = H3 at I3 I4 pg pt pe q' nfp f3
  generalize hs4 : ({ s3 with heap := pushCells (s3.heap.push { cls := .type "dict", data := .dict #[] }) scope.names } : Shared) = s4 at I4 ⊢
  have st4 : tn 0 s4.heap := T.keep _ _ _ st3 fun b _ o e => by rw [← hs4]; exact pushCells_keeps _ _ _ _ (Heap.get?_push_of_some _ e)
  have stat : ∀ {σ' : L2.St} {H' : Hp} {s' : Shared}, Inv (X.blk s3 H3 scope ce fp) [] σ' H' s' → (∀ b ∈ fp, H' b = none) → ∀ b ∈ fp, FpOk (X.blk s3 H3 scope ce fp) [] H' b := fun {σ' H' s'} I' hn b hb =>
    ⟨hn b hb, (I'.ok.exf b hb).1, I'.ok.exfs b hb, .inl hb, fun x c e => (I'.ok.exf b hb).2 x c e, fun p hp => absurd (show p ∈ ([] : List (Addr × Obj)) ++ [] from hp) (by simp)⟩
  have loop : codeAny (model X.prog X.w) X.A (.compLoop (.DictComp kx vx (⟨tg, iter, ifs, 0⟩ :: gs) scope pos) 0 (.ref it) (.ref D) ce) (compPost (model X.prog X.w) X.A X.xe use Qf (.ref D) s3.heap.objs.size) s4 := by
    refine loop_ok (Y := X.blk s3 H3 scope ce fp) hc rfl (fun it => hturn it D ce) (fun _ => rfl) (fun _ => rfl) (fun _ => rfl) pg pt pe hv I4 T st4 (stat I4 nfp) q' fun s6 H5 I6 n5 qq => ?_
    have I7 : Inv X pins σ H5 s6 := I3.call' (ch := fp) I6.os I6.base I6.hok I6.bare fun b hb => ⟨(f3 b hb).1.2.2.2.1, (f3 b hb).1.2.1, (f3 b hb).1.2.2.2.2.1, (f3 b hb).1.2.2.2.2.2⟩
    have nC : H5 s3.heap.objs.size = none := by
      have z : H5 ce.locals = none := I6.free
      rw [cL] at z
      exact z
    obtain ⟨m, hn, _⟩ := I6.loc
    have hn : s6.heap.Ns ce.locals m := hn
    rw [cL] at hn
    exact hRR D s3.heap.objs.size s6 m H5 I7 qq hn (I3.fpOk (Nat.le_refl _) nC)
  exact codeAny_compStart_dict loop (T.self X.A 0 _ _ _ st4 loop)
theorem pe_dcN {kx vx tg iter : Expr} {ifs : List Expr} {gs : List Comprehension} {scope : Scope} {own : List (Str × Nat)} {vs1 : List Nat} {pos : Pos} {wi : TI} {g : TG} {tt : TT} {te : Addr → L2.St → Hp → (Hp → Prop) → Prop} {em : Addr → Env → Sem Fin → Sem Fin}
    (hc : X.calm = true) (hN : X.N.Nodup) (hi : PI X tg iter wi) (ok : BlkOk X.N X.env.scope scope own) (hv : ∀ i ∈ vs1, i ∈ own.map (·.2))
    (hturn : ∀ it D env, compTurn (.DictComp kx vx (⟨tg, iter, ifs, 0⟩ :: gs) scope pos) 0 it (.ref D) env = turnG tg iter ifs (em D env) (.compLoop (.DictComp kx vx (⟨tg, iter, ifs, 0⟩ :: gs) scope pos) 0 it (.ref D) env) it env)
    (hg : ∀ (s : Shared) (H : Hp) (C : Addr) (cl : List (Str × Addr)) (fp : List Addr), PG (X.blk s H scope (compEnvC scope cl C X.env) fp) tg g) (ht : ∀ (s : Shared) (H : Hp) (C : Addr) (cl : List (Str × Addr)) (fp : List Addr), PTs (X.blk s H scope (compEnvC scope cl C X.env) fp) ifs tt)
    (he : ∀ (s : Shared) (H : Hp) (C : Addr) (cl : List (Str × Addr)) (fp : List Addr) (D : Addr), EmOk (X.blk s H scope (compEnvC scope cl C X.env) fp) (em D (compEnvC scope cl C X.env)) vs1 (te D)) (hs : ∀ x, foldedSetIterable iter X.env x = pure x) :
    PE X (.DictComp kx vx (⟨tg, iter, ifs, 0⟩ :: gs) scope pos) (tCN wi (.dK []) g tt te (own.map (·.2))) := by
  refine ⟨fun pins s σ H Q I h => ?_⟩
  rw [arm_eval_DictComp]
  refine dcN_core hc hN I hi ok hv hturn hg ht he hs h fun D C s' m H' I' q hn f => ⟨m, hn, fun h'' sb => ?_⟩
  obtain ⟨f0, f1, f2, f3, f4, f5⟩ := f
  exact ⟨.ref D, H', I'.turned (t' := s'.toks) (fun b o hb e => (sb.2 b hb).trans e) f0 f1 f3 f4 f5, rfl, q⟩
theorem ps_setdcN {i : Nat} {y : Str} {py : Pos} {kx vx tg iter : Expr} {ifs : List Expr} {gs : List Comprehension} {scope : Scope} {own : List (Str × Nat)} {vs1 : List Nat} {pos spos : Pos} {wi : TI} {g : TG} {tt : TT} {te : Addr → L2.St → Hp → (Hp → Prop) → Prop} {em : Addr → Env → Sem Fin → Sem Fin}
    (hc : X.calm = true) (hN : X.N.Nodup) (hy : X.N[i]? = some y) (hyl : X.env.scope.names.lookup y = some .local)
    (hsw : swapsWith (.DictComp kx vx (⟨tg, iter, ifs, 0⟩ :: gs) scope pos) (some (.Name y py)) spos.line X.env = pure true) (hi : PI X tg iter wi) (ok : BlkOk X.N X.env.scope scope own) (hv : ∀ i ∈ vs1, i ∈ own.map (·.2))
    (hturn : ∀ it D env, compTurn (.DictComp kx vx (⟨tg, iter, ifs, 0⟩ :: gs) scope pos) 0 it (.ref D) env = turnG tg iter ifs (em D env) (.compLoop (.DictComp kx vx (⟨tg, iter, ifs, 0⟩ :: gs) scope pos) 0 it (.ref D) env) it env)
    (hg : ∀ (s : Shared) (H : Hp) (C : Addr) (cl : List (Str × Addr)) (fp : List Addr), PG (X.blk s H scope (compEnvC scope cl C X.env) fp) tg g) (ht : ∀ (s : Shared) (H : Hp) (C : Addr) (cl : List (Str × Addr)) (fp : List Addr), PTs (X.blk s H scope (compEnvC scope cl C X.env) fp) ifs tt)
    (he : ∀ (s : Shared) (H : Hp) (C : Addr) (cl : List (Str × Addr)) (fp : List Addr) (D : Addr), EmOk (X.blk s H scope (compEnvC scope cl C X.env) fp) (em D (compEnvC scope cl C X.env)) vs1 (te D)) (hs : ∀ x, foldedSetIterable iter X.env x = pure x) :
    PS X (.Assign [.Name y py] (.DictComp kx vx (⟨tg, iter, ifs, 0⟩ :: gs) scope pos) spos) (tAsg (tCN wi (.dK []) g tt te (own.map (·.2))) (L2.gName i)) := by
  refine ⟨fun pins s σ H D I h => ?_⟩
  rw [exec_Assign_Name_used _ _ _ _ hsw]
  refine wpAny_bind (wpAny_standAt (wpAny_bind ?_))
  show wpAny _ X.A (do let _ ← comprehension (.DictComp kx vx (⟨tg, iter, ifs, 0⟩ :: gs) scope pos) scope X.env (firstIterPos (⟨tg, iter, ifs, 0⟩ :: gs) pos) newDict false (eval iter X.env) (some (assign (.Name y py) X.env))) _ _ s
  have h : tCN wi (.dK []) g tt te (own.map (·.2)) σ H (fun x H1 => L2.gName i x σ H1 D.nx) := h
  refine wpAny_bind (thn (dcN_core (Qf := fun _ s' => SP X pins D .next s') hc hN I hi ok hv hturn hg ht he hs h fun L C s' m H' I' q hn f => ?_) fun _ s' hq => wpAny_pure (wpAny_pure hq))
  show wpAny _ _ (assign (.Name y py) X.env (.ref L)) _ _ _
  refine wpAny_assign_Name (store_ok2 (v := V.ref L) I' hN hy (.inl hyl) rfl (fun s2 I2 ⟨a, sb, ha⟩ => ?_) (.inr hyl))
  obtain ⟨f0, f1, f2, f3, f4, f5⟩ := f
  have haC : C ≠ a := by
    rcases ha with z | z
    · rw [z]; exact f1
    · exact fun e => f4 y a z e.symm
  refine ⟨m, hn.sameBut sb haC, fun h3 sb3 => ?_⟩
  exact ⟨_, H', I2.turned (t' := s2.toks) (fun b o hb e => (sb3.2 b hb).trans e) f0 f1 f3 f4 f5, q⟩
end

/-! ### the first clause, as data -/
def tJg (K : PySem.W.Frag) (ok : Fr → List Addr → Hp → Rho → Sto → List D → Prop) : TI := fun σ H R => ∃ Z μ ρ S, Rel K Z μ σ H ρ S ∧ ∃ ds, ok Z μ H ρ S ds ∧ ∀ J H1, Same H H1 → ItD K Z μ (fun _ => False) J H1 ds → R J H1
def tNg (K : PySem.W.Frag) {α : Type} (AC : AcT α) (ok : Fr → List Addr → Hp → Rho → Sto → List D → Prop) (vs : List Nat) (g : G) (t : EB) (k : Rho → Sto → α → Option α) (a0 : α) : TE := fun σ H Q =>
  ∃ Z μ ρ S, Rel K Z μ σ H ρ S ∧ ∃ ds r, ok Z μ H ρ S ds ∧ kForL g t k (wipeR ρ vs) S ds a0 = some r ∧ ∀ D H', H D = none → Same H H' → AC K (Z.plus D) μ H' D r → Q (.ref D) H'
section
variable {α : Type} {AC : AcT α}
theorem tCN_of {K : PySem.W.Frag} (ao : AcOk AC) {o0 : HO} {a0 : α} (h0 : ∀ Z μ H D, H D = some o0 → AC K Z μ H D a0) {ok : Fr → List Addr → Hp → Rho → Sto → List D → Prop} {vs vt : List Nat} {g : G} {t : EB} {k : Rho → Sto → α → Option α} (hv : ∀ i ∈ vt, i ∈ vs) {σ : L2.St} {H : Hp} {Q : VK} (h : tNg K AC ok vs g t k a0 σ H Q) :
    tCN (tJg K ok) o0 (tG K vt g) (tT K t) (tM K AC k) vs σ H Q := by
  obtain ⟨Z, μ, ρ, S, R, ds, r, e1, e2, q⟩ := h
  refine ⟨Z, μ, ρ, S, R, ds, e1, fun J H1 s1 it D nD => ?_⟩
  have R1 := (R.mono s1).wipe vs
  have zB : (Z.plus D).Hb D = none := R1.wd.newB nD
  refine ⟨fun i m H' => m = ds.length - i ∧ i ≤ ds.length ∧ Same H1 H' ∧ ∃ a', AC K (Z.plus D) μ H' D a' ∧ kForL g t k (wipeR ρ vs) S (ds.drop i) a' = some r,
    ⟨ds.length, by simp, Nat.zero_le _, fun c o z => by rw [upd_ne (ne_of_none z nD)]; exact z, a0, h0 _ _ _ _ upd_same, by simpa using e2⟩, ?_⟩
  rintro i m H' ⟨rfl, hi, s2, a', hac', ec⟩
  obtain ⟨it1, it2⟩ := it i H' fun a o ha _ => s2 a o ha
  by_cases hlt : i < ds.length
  · obtain ⟨hgo, hyld⟩ := it1 ds[i] (List.getElem?_eq_getElem hlt)
    rw [List.drop_eq_getElem_cons hlt] at ec
    refine .inr ⟨hgo, _, fun H2 h2 => ⟨ds.length - (i + 1), by omega, rfl, hlt, h2⟩, fun x H2 hy => ?_⟩
    obtain ⟨s3, rx⟩ := hyld x H2 hy
    simp only [kForL, Option.bind_eq_some_iff] at ec
    obtain ⟨ρ1, eg, b, et, ec⟩ := ec
    have hac2 := ao.mono s3 hac'
    have R2 : Rel K (Z.plus D) μ (L2.wipe σ vs) H2 (wipeR ρ vs) S := R1.plus (s2.trans s3) nD (by obtain ⟨o, e, _⟩ := ao.mtb hac2; rw [e]; exact fun z => by cases z)
    have rx' : RVz K (Z.plus D) μ H2 ds[i] x := RV.tr (fun a o e hn => ⟨e, fun m q => by
      rcases q with (q | q) | q
      · exact hn m (.inl (.inl q))
      · subst q; exact hn m (.inr nD)
      · exact hn m (.inl (.inr q))⟩) (fun _ _ e => e) _ _ rx
    refine ⟨Z.plus D, μ, wipeR ρ vs, S, ds[i], R2, rx', ρ1, eg, fun σ2 R3 k2 l2 => ⟨?_, ?_⟩⟩
    · exact (wipe_eq l2 fun j hj => k2 j fun h => hj (hv j h)).trans wipe_wipe
    · refine ⟨Z.plus D, μ, ρ1, S, R3, b, et, fun H3 s4 => ?_⟩
      cases b with
      | false =>
        rw [if_neg Bool.false_ne_true] at ec
        exact iteF ⟨(s2.trans s3).trans s4, a', ao.mono (s3.trans s4) hac', ec⟩
      | true =>
        rw [if_pos rfl, Option.bind_eq_some_iff] at ec
        obtain ⟨a2, ek2, ec⟩ := ec
        refine iteT ⟨Z.plus D, μ, ρ1, S, a', a2, R3.mono s4, .inr rfl, zB, ao.mono (s3.trans s4) hac', ek2, fun H5 k5 ac5 => ?_⟩
        exact ⟨fun b o e => k5 b o (by rintro rfl; rw [nD] at e; cases e) (s4 _ _ (s3 _ _ (s2 _ _ e))), a2, ac5, ec⟩
  · have hi' : i = ds.length := by omega
    subst hi'
    simp only [List.drop_length, kForL, Option.some.injEq] at ec
    subst ec
    exact .inl ⟨it2 (Nat.le_refl _), q D H' (s1.free nD) (s1.trans s2) hac'⟩
end
/-- a list .. -/
def fCompN (f : EL) (vs : List Nat) (g : G) (t : EB) (k : Rho → Sto → List D → Option (List D)) : EL := fun ρ S => (f ρ S).bind fun ds => kForL g t k (wipeR ρ vs) S ds []
theorem tNg_F {K : PySem.W.Frag} {f : EL} {vs : List Nat} {g : G} {t : EB} {k : Rho → Sto → List D → Option (List D)} {σ : L2.St} {H : Hp} {Q : VK} (h : tF K (fCompN f vs g t k) σ H Q) : tNg K AcL (fun _ _ _ ρ S ds => f ρ S = some ds) vs g t k [] σ H Q := by
  obtain ⟨Z, μ, ρ, S, R, res, ef, q⟩ := h
  simp only [fCompN, Option.bind_eq_some_iff] at ef
  obtain ⟨ds, e1, e2⟩ := ef
  refine ⟨Z, μ, ρ, S, R, ds, res, e1, e2, fun D H' nD s1 ⟨xs, hD, r⟩ => q D xs H' nD s1 hD ?_⟩
  exact RVL.tr (fun a o e hn => ⟨e, fun m q => by
    rcases q with (q | q) | q
    · exact hn m (.inl (.inl q))
    · exact hn m (.inr q)
    · exact hn m (.inl (.inr q))⟩) (fun _ _ e => e) _ _ r
theorem acD_new {K : PySem.W.Frag} {Z : Fr} {μ : List Addr} {H' : Hp} {D : Addr} {r : List DL.D × List DL.D} (h : AcD K (Z.plus D) μ H' D r) : RC K Z (μ ++ [D]) H' D (.dic false r.1 r.2) := by
  obtain ⟨kvs, hD, hk, rr⟩ := h
  refine .inl ⟨rfl, kvs, hD, hk, ?_⟩
  exact RVL.tr (fun a o e hn => ⟨e, fun m q => by
    rcases q with q | q
    · exact hn m (.inl (.inl q))
    · rcases List.mem_append.mp q with q | q
      · exact hn m (.inr q)
      · rw [List.mem_singleton] at q
        exact hn m (.inl (.inr q))⟩) (fun j b e => by rw [List.getElem?_append_left (List.getElem?_eq_some_iff.mp e).1]; exact e) _ _ rr
/-- .. a dict .. -/
def cDcN (f : EL) (vs : List Nat) (g : G) (t : EB) (k : Rho → Sto → List D × List D → Option (List D × List D)) : EC := fun ρ S => (f ρ S).bind fun ds => (kForL g t k (wipeR ρ vs) S ds ([], [])).map fun p => [.dic false p.1 p.2]
theorem one_cell {K : PySem.W.Frag} {Z : Fr} {μ : List Addr} {H' : Hp} {D : Addr} {c : Cell} (r : RC K Z (μ ++ [D]) H' D c) : ∀ (i : Nat) b c', (D :: [])[i]? = some b → [c][i]? = some c' → RC K Z (μ ++ D :: []) H' b c' := fun i b c' hb hc => by
  cases i with
  | succ i => simp at hb
  | zero =>
    simp at hb hc
    subst hb; subst hc
    exact r
theorem tNg_N {K : PySem.W.Frag} {f : EL} {vs : List Nat} {g : G} {t : EB} {k : Rho → Sto → List D × List D → Option (List D × List D)} {σ : L2.St} {H : Hp} {Q : VK} (h : tN K (cDcN f vs g t k) σ H Q) : tNg K AcD (fun _ _ _ ρ S ds => f ρ S = some ds) vs g t k ([], []) σ H Q := by
  obtain ⟨Z, μ, ρ, S, R, cs, ef, q⟩ := h
  simp only [cDcN, Option.bind_eq_some_iff, Option.map_eq_some_iff] at ef
  obtain ⟨ds, e1, p, e2, rfl⟩ := ef
  exact ⟨Z, μ, ρ, S, R, ds, p, e1, e2, fun D H' nD s1 ac => q D [] H' rfl (by simp) (by simpa using nD) s1 (one_cell (acD_new ac))⟩
/-! .. over a dict that is a cell: it is locked meanwhile -/
def lckOf (fo : E) (ρ : Rho) (S : Sto) : Option (Nat × List D) := (fo ρ S).bind fun d => match d with
  | .ref n => match S[n]? with
    | some (.dic false ks _) => some (n, ks)
    | _ => none
  | _ => none
theorem lckOf_some {fo : E} {ρ : Rho} {S : Sto} {n : Nat} {ks : List D} (h : lckOf fo ρ S = some (n, ks)) : fo ρ S = some (.ref n) ∧ ∃ vs, S[n]? = some (.dic false ks vs) := by
  simp only [lckOf, Option.bind_eq_some_iff] at h
  obtain ⟨d, e1, e2⟩ := h
  split at e2
  · split at e2
    · rename_i n' _ ks' vs' hS
      cases e2
      exact ⟨e1, vs', hS⟩
    · cases e2
  · cases e2
def fCompK (fo : E) (vs : List Nat) (g : G) (t : EB) (k : Rho → Sto → List D → Option (List D)) : EL := fun ρ S => (lckOf fo ρ S).bind fun p => if (fo ρ (S.set p.1 .lck)).any (fun d => match d with | .ref m => m == p.1 | _ => false) then kForL g t k (wipeR ρ vs) (S.set p.1 .lck) p.2 [] else none
def cDcK (fo : E) (vs : List Nat) (g : G) (t : EB) (k : Rho → Sto → List D × List D → Option (List D × List D)) : EC := fun ρ S => (lckOf fo ρ S).bind fun p => if (fo ρ (S.set p.1 .lck)).any (fun d => match d with | .ref m => m == p.1 | _ => false) then (kForL g t k (wipeR ρ vs) (S.set p.1 .lck) p.2 ([], [])).map fun p => [.dic false p.1 p.2] else none
theorem any_ref {o : Option D} {n : Nat} (h : o.any (fun d => match d with | .ref m => m == n | _ => false) = true) : o = some (.ref n) := by
  cases o with
  | none => cases h
  | some d =>
    cases d with
    | ref m =>
      have : (m == n) = true := h
      rw [beq_iff_eq] at this
      rw [this]
    | _ => cases h
def okK (K : PySem.W.Frag) (fo : E) : Fr → List Addr → Hp → Rho → Sto → List D → Prop := fun Z μ H ρ S ds => ∃ n a o kvs, fo ρ S = some (.ref n) ∧ μ[n]? = some a ∧ H a = some (.frz o (.dK kvs)) ∧ ds = dicKs kvs
section
variable {X : Cx} {tg e : Expr} {fo : E}
theorem itD_keys {K : PySem.W.Frag} {Z : Fr} {μ : List Addr} {H1 : Hp} {a : Addr} {o : Obj} {kvs : List (Key × V)} (h : H1 a = some (.frz o (.dK kvs))) : ItD K Z μ (fun _ => False) (Itk a o kvs) H1 (dicKs kvs) := by
  intro i H' k
  have h' := k a _ h (fun z => z)
  refine ⟨fun d hd => ?_, fun hl => ⟨h', by simpa [dicKs] using hl⟩⟩
  have hi : i < kvs.length := by
    have := (List.getElem?_eq_some_iff.mp hd).1
    simpa [dicKs] using this
  refine ⟨⟨h', hi⟩, fun x H'' ⟨e, k', v, ek, ex⟩ => ?_⟩
  subst e; subst ex
  refine ⟨Same.refl _, ?_⟩
  have : d = keyD k' := by
    simp only [dicKs, List.getElem?_map, ek, Option.map_some, Option.some.injEq] at hd
    exact hd.symm
  subst this
  cases k' with
  | inl i => exact rv_int.mpr rfl
  | inr s => exact rv_str.mpr rfl
theorem dj_keys (h : PE X e (tD X.K fo)) : PI X tg e (tJg X.K (okK X.K fo)) := pi_imp (pi_keys h) fun σ H R ⟨Z, μ, ρ, S, Rl, ds, ⟨n, a, o, kvs, e1, hn, ha, hk⟩, q⟩ => by
  refine ⟨Z, μ, ρ, S, Rl, _, e1, fun v H1 s1 r1 => ?_⟩
  obtain ⟨a', e, hn'⟩ := rv_ref.mp r1
  rw [hn] at hn'; cases hn'
  subst hk
  exact ⟨a, o, e, .inl ⟨kvs, s1 _ _ ha, q _ H1 s1 (itD_keys (s1 _ _ ha))⟩⟩
theorem Mut_dK {kvs : List (Key × V)} : Mut (some (.dK kvs)) := True.intro
/-- under the lock -/
theorem lock_of {α : Type} {AC : AcT α} {K : PySem.W.Frag} {vs : List Nat} {g : G} {t : EB} {k : Rho → Sto → α → Option α} {a0 : α} {σ : L2.St} {H : Hp} {Q : VK} {Z : Fr} {μ : List Addr} {ρ : Rho} {S : Sto} (R : Rel K Z μ σ H ρ S) {n : Nat} {ks : List D} {r : α}
    (hl : lckOf fo ρ S = some (n, ks)) (hf : fo ρ (S.set n .lck) = some (.ref n)) (hk : kForL g t k (wipeR ρ vs) (S.set n .lck) ks a0 = some r)
    (q : ∀ D H', H D = none → Same H H' → (∃ a H2, μ[n]? = some a ∧ a ≠ D ∧ (∃ od u, H2 a = some (.frz od (.dK u)) ∧ H' = upd H2 a (.dK u)) ∧ AC K (Z.plus D) μ H2 D r) → Q (.ref D) H') :
    tLockE (tNg K AC (okK K fo) vs g t k a0) σ H Q := by
  obtain ⟨e1, vs', hS⟩ := lckOf_some hl
  have hnl : n < μ.length := by rw [← R.wd.len]; exact (List.getElem?_eq_some_iff.mp hS).1
  obtain ⟨a, ha⟩ : ∃ a, μ[n]? = some a := ⟨_, List.getElem?_eq_getElem hnl⟩
  have hm : a ∈ μ := List.mem_of_getElem? ha
  obtain ⟨_, kvs, hH, hks, _⟩ | ⟨z, _⟩ := R.wd.cell n _ a hS ha
  case inr => cases z
  refine ⟨a, .dK kvs, hH, Mut_dK, fun od => ?_⟩
  have W' : Wd K Z μ (upd H a (.frz od (.dK kvs))) (S.set n .lck) := R.wd.wr ha ⟨od, .dK kvs, upd_same, rfl⟩
  have R' : Rel K Z μ σ (upd H a (.frz od (.dK kvs))) ρ (S.set n .lck) := R.with W' fun d v r => RV.wr R.wd hm r
  refine ⟨Z, μ, ρ, S.set n .lck, R', ks, r, ⟨n, a, od, kvs, hf, ha, upd_same, hks⟩, hk, fun D H' nD s1 ac => ?_⟩
  have hH' : H' a = some (.frz od (.dK kvs)) := s1 _ _ upd_same
  have hne : a ≠ D := by rintro rfl; rw [upd_same] at nD; cases nD
  have nD' : H D = none := by rw [upd_ne (Ne.symm hne)] at nD; exact nD
  refine ⟨hH', q D _ nD' (fun b o e => ?_) ⟨a, H', ha, hne, ⟨od, kvs, hH', rfl⟩, ac⟩⟩
  by_cases hb : b = a
  · subst hb
    rw [upd_same, ← hH]; exact e
  · rw [upd_ne hb]
    exact s1 _ _ (by rw [upd_ne hb]; exact e)
theorem RVL.unlock {K : PySem.W.Frag} {av : Addr → Prop} {μ : List Addr} {H2 : Hp} {a : Addr} {od : Obj} {u : List (Key × V)} {o : HO} (ha : av a) (h : H2 a = some (.frz od (.dK u))) {ds : List D} {xs : List V} (r : RVL K av μ H2 ds xs) : RVL K av μ (upd H2 a o) ds xs :=
  RVL.tr (fun b o e hn => by
    have ne : b ≠ a := by
      rintro rfl
      rw [h] at e; cases e
      exact hn rfl ha
    exact ⟨by rw [upd_ne ne]; exact e, hn⟩) (fun _ _ e => e) _ _ r
theorem tLock_F {K : PySem.W.Frag} {vs : List Nat} {g : G} {t : EB} {k : Rho → Sto → List D → Option (List D)} {σ : L2.St} {H : Hp} {Q : VK} (h : tF K (fCompK fo vs g t k) σ H Q) : tLockE (tNg K AcL (okK K fo) vs g t k []) σ H Q := by
  obtain ⟨Z, μ, ρ, S, R, res, ef, q⟩ := h
  simp only [fCompK, Option.bind_eq_some_iff] at ef
  obtain ⟨⟨n, ks⟩, e1, e2⟩ := ef
  split at e2
  case isFalse => cases e2
  rename_i hany
  refine lock_of R e1 (any_ref hany) e2 fun D H' nD s1 ⟨a, H2, ha, ne, ⟨od, u, h2, e⟩, ⟨xs, hD, r⟩⟩ => ?_
  subst e
  refine q D xs _ nD s1 (by rw [upd_ne (Ne.symm ne)]; exact hD) ?_
  refine RVL.unlock (.inl (.inr (List.mem_of_getElem? ha))) h2 ?_
  exact RVL.tr (fun a o e hn => ⟨e, fun m q => by
    rcases q with (q | q) | q
    · exact hn m (.inl (.inl q))
    · exact hn m (.inr q)
    · exact hn m (.inl (.inr q))⟩) (fun _ _ e => e) _ _ r
theorem tLock_N {K : PySem.W.Frag} {vs : List Nat} {g : G} {t : EB} {k : Rho → Sto → List D × List D → Option (List D × List D)} {σ : L2.St} {H : Hp} {Q : VK} (h : tN K (cDcK fo vs g t k) σ H Q) : tLockE (tNg K AcD (okK K fo) vs g t k ([], [])) σ H Q := by
  obtain ⟨Z, μ, ρ, S, R, cs, ef, q⟩ := h
  simp only [cDcK, Option.bind_eq_some_iff] at ef
  obtain ⟨⟨n, ks⟩, e1, e2⟩ := ef
  split at e2
  case isFalse => cases e2
  rename_i hany
  rw [Option.map_eq_some_iff] at e2
  obtain ⟨p, e2, rfl⟩ := e2
  refine lock_of R e1 (any_ref hany) e2 fun D H' nD s1 ⟨a, H2, ha, ne, ⟨od, u, h2, e⟩, ac⟩ => ?_
  subst e
  refine q D [] _ rfl (by simp) (by simpa using nD) s1 (one_cell ?_)
  obtain ⟨_, kvs, hD, hk, rr⟩ | ⟨z, _⟩ := acD_new ac
  case inr => cases z
  exact .inl ⟨rfl, kvs, by rw [upd_ne (Ne.symm ne)]; exact hD, hk, RVL.unlock (.inr (List.mem_append_left _ (List.mem_of_getElem? ha))) h2 rr⟩
end
end DL

set_option maxHeartbeats 4000000
namespace DL
open PySem PySem.Spec L2 PyProof.Rows
theorem sw_trueD {kx vx : Expr} {gs : List Comprehension} {scope : Scope} {pos py : Pos} {y : Str} {l : Nat} {env : Env} (hk : env.scope.kind = .function) (hy : env.scope.names.lookup y = some .local) (hl : (py.line == pos.line) = true)
    (hn : (scope.names.any fun (n, k) => n == y && (k == .local || k == .cell)) = false) : swapsWith (.DictComp kx vx gs scope pos) (some (.Name y py)) l env = pure true := by
  have e : swapsWith (.DictComp kx vx gs scope pos) (some (.Name y py)) l env = swapsWith (.ListComp kx gs scope pos) (some (.Name y py)) l env := rfl
  rw [e]
  exact sw_true hk hy hl hn
theorem tLockE_mono {t t' : TE} {σ : L2.St} {H : Hp} {Q : VK} (h : tLockE t σ H Q) (i : ∀ σ H Q, t σ H Q → t' σ H Q) : tLockE t' σ H Q := by
  obtain ⟨d, u, h1, h2, h3⟩ := h
  exact ⟨d, u, h1, h2, fun od => i _ _ _ (h3 od)⟩
theorem ps_lockA {X : Cx} {st : Stmt} {te : TE} {i : Nat} (h : PS X st (tAsg te (L2.gName i))) : PS X st (tAsg (tLockE te) (L2.gName i)) :=
  ps_imp (ps_lock h) fun De σ H ⟨d, u, h1, h2, h3⟩ => ⟨d, u, h1, h2, fun od => h3 od⟩
section
variable {X : Cx} {elt tg iter : Expr} {ifs : List Expr} {gs : List Comprehension} {scope : Scope} {own : List (Str × Nat)} {vs1 vt : List Nat} {pos spos py : Pos} {i : Nat} {y : Str} {f : EL} {fo : E} {g : G} {t : EB} {k : Rho → Sto → List D → Option (List D)} {em : Addr → Env → Sem Fin → Sem Fin}
theorem d_compN (hc : X.calm = true) (hN : X.N.Nodup) (hi : PI X tg iter (tJ X.K f)) (ok : BlkOk X.N X.env.scope scope own)
    (hturn : ∀ it D env, compTurn (.ListComp elt (⟨tg, iter, ifs, 0⟩ :: gs) scope pos) 0 it (.ref D) env = turnG tg iter ifs (em D env) (.compLoop (.ListComp elt (⟨tg, iter, ifs, 0⟩ :: gs) scope pos) 0 it (.ref D) env) it env)
    (hg : ∀ (s : Shared) (H : Hp) (C : Addr) (cl : List (Str × Addr)) (fp : List Addr), PG (X.blk s H scope (compEnvC scope cl C X.env) fp) tg (tG X.K vt g)) (ht : ∀ (s : Shared) (H : Hp) (C : Addr) (cl : List (Str × Addr)) (fp : List Addr), PTs (X.blk s H scope (compEnvC scope cl C X.env) fp) ifs (tT X.K t))
    (he : ∀ (s : Shared) (H : Hp) (C : Addr) (cl : List (Str × Addr)) (fp : List Addr) (D : Addr), EmOk (X.blk s H scope (compEnvC scope cl C X.env) fp) (em D (compEnvC scope cl C X.env)) vs1 (tM X.K AcL k D)) (hv : ∀ i ∈ vs1, i ∈ own.map (·.2) := by decide) (hvt : ∀ i ∈ vt, i ∈ own.map (·.2) := by decide) (hs : ∀ x, foldedSetIterable iter X.env x = pure x := by intro _; rfl) :
    PE X (.ListComp elt (⟨tg, iter, ifs, 0⟩ :: gs) scope pos) (tF X.K (fCompN f (own.map (·.2)) g t k)) :=
  pe_imp (pe_lcN hc hN hi ok hv hturn hg ht he hs) fun _ _ _ h => tCN_of acL_ok (fun _ _ _ _ e => ⟨[], e, RVL.nil'⟩) hvt (tNg_F h)
theorem ds_setLcN (hc : X.calm = true) (hN : X.N.Nodup) (hy : X.N[i]? = some y) (hyl : X.env.scope.names.lookup y = some .local)
    (hsw : swapsWith (.ListComp elt (⟨tg, iter, ifs, 0⟩ :: gs) scope pos) (some (.Name y py)) spos.line X.env = pure true) (hi : PI X tg iter (tJ X.K f)) (ok : BlkOk X.N X.env.scope scope own)
    (hturn : ∀ it D env, compTurn (.ListComp elt (⟨tg, iter, ifs, 0⟩ :: gs) scope pos) 0 it (.ref D) env = turnG tg iter ifs (em D env) (.compLoop (.ListComp elt (⟨tg, iter, ifs, 0⟩ :: gs) scope pos) 0 it (.ref D) env) it env)
    (hg : ∀ (s : Shared) (H : Hp) (C : Addr) (cl : List (Str × Addr)) (fp : List Addr), PG (X.blk s H scope (compEnvC scope cl C X.env) fp) tg (tG X.K vt g)) (ht : ∀ (s : Shared) (H : Hp) (C : Addr) (cl : List (Str × Addr)) (fp : List Addr), PTs (X.blk s H scope (compEnvC scope cl C X.env) fp) ifs (tT X.K t))
    (he : ∀ (s : Shared) (H : Hp) (C : Addr) (cl : List (Str × Addr)) (fp : List Addr) (D : Addr), EmOk (X.blk s H scope (compEnvC scope cl C X.env) fp) (em D (compEnvC scope cl C X.env)) vs1 (tM X.K AcL k D)) (hv : ∀ i ∈ vs1, i ∈ own.map (·.2) := by decide) (hvt : ∀ i ∈ vt, i ∈ own.map (·.2) := by decide) (hs : ∀ x, foldedSetIterable iter X.env x = pure x := by intro _; rfl) :
    PS X (.Assign [.Name y py] (.ListComp elt (⟨tg, iter, ifs, 0⟩ :: gs) scope pos) spos) (tS X.K (sSet i (eF (fCompN f (own.map (·.2)) g t k)))) :=
  ds_setA (ps_setlcN hc hN hy hyl hsw hi ok hv hturn hg ht he hs) (tF_tD fun _ _ _ h => tCN_of acL_ok (fun _ _ _ _ e => ⟨[], e, RVL.nil'⟩) hvt (tNg_F h))
theorem ds_newLcN (hc : X.calm = true) (hN : X.N.Nodup) (hy : X.N[i]? = some y) (hyl : X.env.scope.names.lookup y = some .local)
    (hsw : swapsWith (.ListComp elt (⟨tg, iter, ifs, 0⟩ :: gs) scope pos) (some (.Name y py)) spos.line X.env = pure true) (hi : PI X tg iter (tJ X.K f)) (ok : BlkOk X.N X.env.scope scope own)
    (hturn : ∀ it D env, compTurn (.ListComp elt (⟨tg, iter, ifs, 0⟩ :: gs) scope pos) 0 it (.ref D) env = turnG tg iter ifs (em D env) (.compLoop (.ListComp elt (⟨tg, iter, ifs, 0⟩ :: gs) scope pos) 0 it (.ref D) env) it env)
    (hg : ∀ (s : Shared) (H : Hp) (C : Addr) (cl : List (Str × Addr)) (fp : List Addr), PG (X.blk s H scope (compEnvC scope cl C X.env) fp) tg (tG X.K vt g)) (ht : ∀ (s : Shared) (H : Hp) (C : Addr) (cl : List (Str × Addr)) (fp : List Addr), PTs (X.blk s H scope (compEnvC scope cl C X.env) fp) ifs (tT X.K t))
    (he : ∀ (s : Shared) (H : Hp) (C : Addr) (cl : List (Str × Addr)) (fp : List Addr) (D : Addr), EmOk (X.blk s H scope (compEnvC scope cl C X.env) fp) (em D (compEnvC scope cl C X.env)) vs1 (tM X.K AcL k D)) (hv : ∀ i ∈ vs1, i ∈ own.map (·.2) := by decide) (hvt : ∀ i ∈ vt, i ∈ own.map (·.2) := by decide) (hs : ∀ x, foldedSetIterable iter X.env x = pure x := by intro _; rfl) :
    PS X (.Assign [.Name y py] (.ListComp elt (⟨tg, iter, ifs, 0⟩ :: gs) scope pos) spos) (tS X.K (sNew i (fCompN f (own.map (·.2)) g t k))) :=
  ds_newA (ps_setlcN hc hN hy hyl hsw hi ok hv hturn hg ht he hs) (fun _ _ _ h => tCN_of acL_ok (fun _ _ _ _ e => ⟨[], e, RVL.nil'⟩) hvt (tNg_F h))
theorem d_compK (hc : X.calm = true) (hN : X.N.Nodup) (hi : PI X tg iter (tJg X.K (okK X.K fo))) (ok : BlkOk X.N X.env.scope scope own)
    (hturn : ∀ it D env, compTurn (.ListComp elt (⟨tg, iter, ifs, 0⟩ :: gs) scope pos) 0 it (.ref D) env = turnG tg iter ifs (em D env) (.compLoop (.ListComp elt (⟨tg, iter, ifs, 0⟩ :: gs) scope pos) 0 it (.ref D) env) it env)
    (hg : ∀ (s : Shared) (H : Hp) (C : Addr) (cl : List (Str × Addr)) (fp : List Addr), PG (X.blk s H scope (compEnvC scope cl C X.env) fp) tg (tG X.K vt g)) (ht : ∀ (s : Shared) (H : Hp) (C : Addr) (cl : List (Str × Addr)) (fp : List Addr), PTs (X.blk s H scope (compEnvC scope cl C X.env) fp) ifs (tT X.K t))
    (he : ∀ (s : Shared) (H : Hp) (C : Addr) (cl : List (Str × Addr)) (fp : List Addr) (D : Addr), EmOk (X.blk s H scope (compEnvC scope cl C X.env) fp) (em D (compEnvC scope cl C X.env)) vs1 (tM X.K AcL k D)) (hv : ∀ i ∈ vs1, i ∈ own.map (·.2) := by decide) (hvt : ∀ i ∈ vt, i ∈ own.map (·.2) := by decide) (hs : ∀ x, foldedSetIterable iter X.env x = pure x := by intro _; rfl) :
    PE X (.ListComp elt (⟨tg, iter, ifs, 0⟩ :: gs) scope pos) (tF X.K (fCompK fo (own.map (·.2)) g t k)) :=
  pe_imp (pe_lock (pe_lcN hc hN hi ok hv hturn hg ht he hs)) (fun _ _ _ h => tLockE_mono (tLock_F h) fun _ _ _ h => tCN_of acL_ok (fun _ _ _ _ e => ⟨[], e, RVL.nil'⟩) hvt h)
theorem ds_setLcK (hc : X.calm = true) (hN : X.N.Nodup) (hy : X.N[i]? = some y) (hyl : X.env.scope.names.lookup y = some .local)
    (hsw : swapsWith (.ListComp elt (⟨tg, iter, ifs, 0⟩ :: gs) scope pos) (some (.Name y py)) spos.line X.env = pure true) (hi : PI X tg iter (tJg X.K (okK X.K fo))) (ok : BlkOk X.N X.env.scope scope own)
    (hturn : ∀ it D env, compTurn (.ListComp elt (⟨tg, iter, ifs, 0⟩ :: gs) scope pos) 0 it (.ref D) env = turnG tg iter ifs (em D env) (.compLoop (.ListComp elt (⟨tg, iter, ifs, 0⟩ :: gs) scope pos) 0 it (.ref D) env) it env)
    (hg : ∀ (s : Shared) (H : Hp) (C : Addr) (cl : List (Str × Addr)) (fp : List Addr), PG (X.blk s H scope (compEnvC scope cl C X.env) fp) tg (tG X.K vt g)) (ht : ∀ (s : Shared) (H : Hp) (C : Addr) (cl : List (Str × Addr)) (fp : List Addr), PTs (X.blk s H scope (compEnvC scope cl C X.env) fp) ifs (tT X.K t))
    (he : ∀ (s : Shared) (H : Hp) (C : Addr) (cl : List (Str × Addr)) (fp : List Addr) (D : Addr), EmOk (X.blk s H scope (compEnvC scope cl C X.env) fp) (em D (compEnvC scope cl C X.env)) vs1 (tM X.K AcL k D)) (hv : ∀ i ∈ vs1, i ∈ own.map (·.2) := by decide) (hvt : ∀ i ∈ vt, i ∈ own.map (·.2) := by decide) (hs : ∀ x, foldedSetIterable iter X.env x = pure x := by intro _; rfl) :
    PS X (.Assign [.Name y py] (.ListComp elt (⟨tg, iter, ifs, 0⟩ :: gs) scope pos) spos) (tS X.K (sSet i (eF (fCompK fo (own.map (·.2)) g t k)))) :=
  ds_setA (ps_lockA (ps_setlcN hc hN hy hyl hsw hi ok hv hturn hg ht he hs)) (tF_tD (fun _ _ _ h => tLockE_mono (tLock_F h) fun _ _ _ h => tCN_of acL_ok (fun _ _ _ _ e => ⟨[], e, RVL.nil'⟩) hvt h))
theorem ds_newLcK (hc : X.calm = true) (hN : X.N.Nodup) (hy : X.N[i]? = some y) (hyl : X.env.scope.names.lookup y = some .local)
    (hsw : swapsWith (.ListComp elt (⟨tg, iter, ifs, 0⟩ :: gs) scope pos) (some (.Name y py)) spos.line X.env = pure true) (hi : PI X tg iter (tJg X.K (okK X.K fo))) (ok : BlkOk X.N X.env.scope scope own)
    (hturn : ∀ it D env, compTurn (.ListComp elt (⟨tg, iter, ifs, 0⟩ :: gs) scope pos) 0 it (.ref D) env = turnG tg iter ifs (em D env) (.compLoop (.ListComp elt (⟨tg, iter, ifs, 0⟩ :: gs) scope pos) 0 it (.ref D) env) it env)
    (hg : ∀ (s : Shared) (H : Hp) (C : Addr) (cl : List (Str × Addr)) (fp : List Addr), PG (X.blk s H scope (compEnvC scope cl C X.env) fp) tg (tG X.K vt g)) (ht : ∀ (s : Shared) (H : Hp) (C : Addr) (cl : List (Str × Addr)) (fp : List Addr), PTs (X.blk s H scope (compEnvC scope cl C X.env) fp) ifs (tT X.K t))
    (he : ∀ (s : Shared) (H : Hp) (C : Addr) (cl : List (Str × Addr)) (fp : List Addr) (D : Addr), EmOk (X.blk s H scope (compEnvC scope cl C X.env) fp) (em D (compEnvC scope cl C X.env)) vs1 (tM X.K AcL k D)) (hv : ∀ i ∈ vs1, i ∈ own.map (·.2) := by decide) (hvt : ∀ i ∈ vt, i ∈ own.map (·.2) := by decide) (hs : ∀ x, foldedSetIterable iter X.env x = pure x := by intro _; rfl) :
    PS X (.Assign [.Name y py] (.ListComp elt (⟨tg, iter, ifs, 0⟩ :: gs) scope pos) spos) (tS X.K (sNew i (fCompK fo (own.map (·.2)) g t k))) :=
  ds_newA (ps_lockA (ps_setlcN hc hN hy hyl hsw hi ok hv hturn hg ht he hs)) (fun _ _ _ h => tLockE_mono (tLock_F h) fun _ _ _ h => tCN_of acL_ok (fun _ _ _ _ e => ⟨[], e, RVL.nil'⟩) hvt h)
end
section
variable {X : Cx} {kx vx tg iter : Expr} {ifs : List Expr} {gs : List Comprehension} {scope : Scope} {own : List (Str × Nat)} {vs1 vt : List Nat} {pos spos py : Pos} {i : Nat} {y : Str} {f : EL} {fo : E} {g : G} {t : EB} {k : Rho → Sto → (List D × List D) → Option ((List D × List D))} {em : Addr → Env → Sem Fin → Sem Fin}
theorem d_dcompN (hc : X.calm = true) (hN : X.N.Nodup) (hi : PI X tg iter (tJ X.K f)) (ok : BlkOk X.N X.env.scope scope own)
    (hturn : ∀ it D env, compTurn (.DictComp kx vx (⟨tg, iter, ifs, 0⟩ :: gs) scope pos) 0 it (.ref D) env = turnG tg iter ifs (em D env) (.compLoop (.DictComp kx vx (⟨tg, iter, ifs, 0⟩ :: gs) scope pos) 0 it (.ref D) env) it env)
    (hg : ∀ (s : Shared) (H : Hp) (C : Addr) (cl : List (Str × Addr)) (fp : List Addr), PG (X.blk s H scope (compEnvC scope cl C X.env) fp) tg (tG X.K vt g)) (ht : ∀ (s : Shared) (H : Hp) (C : Addr) (cl : List (Str × Addr)) (fp : List Addr), PTs (X.blk s H scope (compEnvC scope cl C X.env) fp) ifs (tT X.K t))
    (he : ∀ (s : Shared) (H : Hp) (C : Addr) (cl : List (Str × Addr)) (fp : List Addr) (D : Addr), EmOk (X.blk s H scope (compEnvC scope cl C X.env) fp) (em D (compEnvC scope cl C X.env)) vs1 (tM X.K AcD k D)) (hv : ∀ i ∈ vs1, i ∈ own.map (·.2) := by decide) (hvt : ∀ i ∈ vt, i ∈ own.map (·.2) := by decide) (hs : ∀ x, foldedSetIterable iter X.env x = pure x := by intro _; rfl) :
    PE X (.DictComp kx vx (⟨tg, iter, ifs, 0⟩ :: gs) scope pos) (tN X.K (cDcN f (own.map (·.2)) g t k)) :=
  pe_imp (pe_dcN hc hN hi ok hv hturn hg ht he hs) fun _ _ _ h => tCN_of acD_ok (fun _ _ _ _ e => ⟨[], e, rfl, RVL.nil'⟩) hvt (tNg_N h)
theorem ds_newDcN (hc : X.calm = true) (hN : X.N.Nodup) (hy : X.N[i]? = some y) (hyl : X.env.scope.names.lookup y = some .local)
    (hsw : swapsWith (.DictComp kx vx (⟨tg, iter, ifs, 0⟩ :: gs) scope pos) (some (.Name y py)) spos.line X.env = pure true) (hi : PI X tg iter (tJ X.K f)) (ok : BlkOk X.N X.env.scope scope own)
    (hturn : ∀ it D env, compTurn (.DictComp kx vx (⟨tg, iter, ifs, 0⟩ :: gs) scope pos) 0 it (.ref D) env = turnG tg iter ifs (em D env) (.compLoop (.DictComp kx vx (⟨tg, iter, ifs, 0⟩ :: gs) scope pos) 0 it (.ref D) env) it env)
    (hg : ∀ (s : Shared) (H : Hp) (C : Addr) (cl : List (Str × Addr)) (fp : List Addr), PG (X.blk s H scope (compEnvC scope cl C X.env) fp) tg (tG X.K vt g)) (ht : ∀ (s : Shared) (H : Hp) (C : Addr) (cl : List (Str × Addr)) (fp : List Addr), PTs (X.blk s H scope (compEnvC scope cl C X.env) fp) ifs (tT X.K t))
    (he : ∀ (s : Shared) (H : Hp) (C : Addr) (cl : List (Str × Addr)) (fp : List Addr) (D : Addr), EmOk (X.blk s H scope (compEnvC scope cl C X.env) fp) (em D (compEnvC scope cl C X.env)) vs1 (tM X.K AcD k D)) (hv : ∀ i ∈ vs1, i ∈ own.map (·.2) := by decide) (hvt : ∀ i ∈ vt, i ∈ own.map (·.2) := by decide) (hs : ∀ x, foldedSetIterable iter X.env x = pure x := by intro _; rfl) :
    PS X (.Assign [.Name y py] (.DictComp kx vx (⟨tg, iter, ifs, 0⟩ :: gs) scope pos) spos) (tS X.K (sNewN i (cDcN f (own.map (·.2)) g t k))) :=
  ds_newNA (ps_setdcN hc hN hy hyl hsw hi ok hv hturn hg ht he hs) (fun _ _ _ h => tCN_of acD_ok (fun _ _ _ _ e => ⟨[], e, rfl, RVL.nil'⟩) hvt (tNg_N h))
theorem d_dcompK (hc : X.calm = true) (hN : X.N.Nodup) (hi : PI X tg iter (tJg X.K (okK X.K fo))) (ok : BlkOk X.N X.env.scope scope own)
    (hturn : ∀ it D env, compTurn (.DictComp kx vx (⟨tg, iter, ifs, 0⟩ :: gs) scope pos) 0 it (.ref D) env = turnG tg iter ifs (em D env) (.compLoop (.DictComp kx vx (⟨tg, iter, ifs, 0⟩ :: gs) scope pos) 0 it (.ref D) env) it env)
    (hg : ∀ (s : Shared) (H : Hp) (C : Addr) (cl : List (Str × Addr)) (fp : List Addr), PG (X.blk s H scope (compEnvC scope cl C X.env) fp) tg (tG X.K vt g)) (ht : ∀ (s : Shared) (H : Hp) (C : Addr) (cl : List (Str × Addr)) (fp : List Addr), PTs (X.blk s H scope (compEnvC scope cl C X.env) fp) ifs (tT X.K t))
    (he : ∀ (s : Shared) (H : Hp) (C : Addr) (cl : List (Str × Addr)) (fp : List Addr) (D : Addr), EmOk (X.blk s H scope (compEnvC scope cl C X.env) fp) (em D (compEnvC scope cl C X.env)) vs1 (tM X.K AcD k D)) (hv : ∀ i ∈ vs1, i ∈ own.map (·.2) := by decide) (hvt : ∀ i ∈ vt, i ∈ own.map (·.2) := by decide) (hs : ∀ x, foldedSetIterable iter X.env x = pure x := by intro _; rfl) :
    PE X (.DictComp kx vx (⟨tg, iter, ifs, 0⟩ :: gs) scope pos) (tN X.K (cDcK fo (own.map (·.2)) g t k)) :=
  pe_imp (pe_lock (pe_dcN hc hN hi ok hv hturn hg ht he hs)) (fun _ _ _ h => tLockE_mono (tLock_N h) fun _ _ _ h => tCN_of acD_ok (fun _ _ _ _ e => ⟨[], e, rfl, RVL.nil'⟩) hvt h)
theorem ds_newDcK (hc : X.calm = true) (hN : X.N.Nodup) (hy : X.N[i]? = some y) (hyl : X.env.scope.names.lookup y = some .local)
    (hsw : swapsWith (.DictComp kx vx (⟨tg, iter, ifs, 0⟩ :: gs) scope pos) (some (.Name y py)) spos.line X.env = pure true) (hi : PI X tg iter (tJg X.K (okK X.K fo))) (ok : BlkOk X.N X.env.scope scope own)
    (hturn : ∀ it D env, compTurn (.DictComp kx vx (⟨tg, iter, ifs, 0⟩ :: gs) scope pos) 0 it (.ref D) env = turnG tg iter ifs (em D env) (.compLoop (.DictComp kx vx (⟨tg, iter, ifs, 0⟩ :: gs) scope pos) 0 it (.ref D) env) it env)
    (hg : ∀ (s : Shared) (H : Hp) (C : Addr) (cl : List (Str × Addr)) (fp : List Addr), PG (X.blk s H scope (compEnvC scope cl C X.env) fp) tg (tG X.K vt g)) (ht : ∀ (s : Shared) (H : Hp) (C : Addr) (cl : List (Str × Addr)) (fp : List Addr), PTs (X.blk s H scope (compEnvC scope cl C X.env) fp) ifs (tT X.K t))
    (he : ∀ (s : Shared) (H : Hp) (C : Addr) (cl : List (Str × Addr)) (fp : List Addr) (D : Addr), EmOk (X.blk s H scope (compEnvC scope cl C X.env) fp) (em D (compEnvC scope cl C X.env)) vs1 (tM X.K AcD k D)) (hv : ∀ i ∈ vs1, i ∈ own.map (·.2) := by decide) (hvt : ∀ i ∈ vt, i ∈ own.map (·.2) := by decide) (hs : ∀ x, foldedSetIterable iter X.env x = pure x := by intro _; rfl) :
    PS X (.Assign [.Name y py] (.DictComp kx vx (⟨tg, iter, ifs, 0⟩ :: gs) scope pos) spos) (tS X.K (sNewN i (cDcK fo (own.map (·.2)) g t k))) :=
  ds_newNA (ps_lockA (ps_setdcN hc hN hy hyl hsw hi ok hv hturn hg ht he hs)) (fun _ _ _ h => tLockE_mono (tLock_N h) fun _ _ _ h => tCN_of acD_ok (fun _ _ _ _ e => ⟨[], e, rfl, RVL.nil'⟩) hvt h)
end

/-! ### a new dict as a value, in a list -/
def eN (fc : EC) : E := fun ρ S => (fc ρ S).bind fun cs => match cs with
  | [.dic t ks vs] => if nrs vs then some (.dic t ks vs) else none
  | _ => none
theorem RVL.nrsA {K : PySem.W.Frag} {av av' : Addr → Prop} {μ μ' : List Addr} {H : Hp} (k : ∀ a, av' a → av a) {ds : List D} {xs : List V} (o : DL.nrs ds = true) (h : RVL K av μ H ds xs) : RVL K av' μ' H ds xs :=
  RVL.tr (fun a o e hn => ⟨e, fun m z => hn m (k a z)⟩) (fun n b e => by simp at e) _ _ (RVL.nr (μ' := []) ds xs o h)
section
variable {X : Cx} {e : Expr} {fc : EC} {pos p : Pos}
theorem d_N (h : PE X e (tN X.K fc)) : PE X e (tD X.K (eN fc)) := pe_imp h fun σ H Q ⟨Z, μ, ρ, S, R, d, e, q⟩ => by
  simp only [eN, Option.bind_eq_some_iff] at e
  obtain ⟨cs, e1, e2⟩ := e
  split at e2
  · rename_i t ks vs
    split at e2
    · rename_i o
      cases e2
      refine ⟨Z, μ, ρ, S, R, _, e1, fun a as H' hl nd na s1 r1 => ?_⟩
      have : as = [] := by simpa using hl
      subst this
      refine q _ H' s1 ?_
      have nv : ¬ avd Z μ a := R.wd.fresh (na a (by simp))
      have k : ∀ b, avd Z μ b → avd Z (μ ++ [a]) b := fun b z => z.elim .inl fun z => .inr (List.mem_append_left _ z)
      rcases r1 0 a _ rfl rfl with ⟨ht, kvs, hs, hk, hr⟩ | ⟨ht, kvs, hs, hk, hr⟩
      · exact rv_dic.mpr ⟨a, rfl, nv, .inl ⟨ht, kvs, hs, hk, RVL.nrsA k o hr⟩⟩
      · exact rv_dic.mpr ⟨a, rfl, nv, .inr ⟨ht, kvs, hs, hk, RVL.nrsA k o hr⟩⟩
    · cases e2
  · cases e2
def cLst1 (fc : EC) : EC := fun ρ S => (fc ρ S).bind fun cs => match cs with
  | [.dic t ks vs] => if nrs vs then some [.lst [.ref (S.length + 1)], .dic t ks vs] else none
  | _ => none
theorem d_lst1 (h : PE X e (tN X.K fc)) (hs : starEach [e] X.env = (false, eval e X.env) :: starEach [] X.env := by rfl) : PE X (.List [e] pos) (tN X.K (cLst1 fc)) := pe_imp (pe_lst (pa_cons h pa_nil hs)) fun σ H Q ⟨Z, μ, ρ, S, R, cs, e, q⟩ => by
  simp only [cLst1, Option.bind_eq_some_iff] at e
  obtain ⟨cs1, e1, e2⟩ := e
  split at e2
  case h_2 => cases e2
  rename_i t ks vs
  split at e2
  case isFalse => cases e2
  rename_i o
  cases e2
  refine ⟨Z, μ, ρ, S, R, _, e1, fun a as H' hl nd na s1 r1 => ?_⟩
  have : as = [] := by simpa using hl
  subst this
  have r0 := r1 0 a _ rfl rfl
  refine ⟨by show 1 ≤ sizeLine; decide, fun p np => ?_⟩
  have ne : a ≠ p := by
    rintro rfl
    rcases r0 with ⟨_, kvs, hs, _⟩ | ⟨_, kvs, hs, _⟩
    · rw [np] at hs; cases hs
    · rw [np] at hs; cases hs
  have nv : ¬ avd Z μ a := R.wd.fresh (na a (by simp))
  have np' : H p = none := s1.free np
  have sp : Same H' (upd H' p (.lst [.ref a])) := fun b o e => by rw [upd_ne (ne_of_none e np)]; exact e
  have hml : μ.length = S.length := R.wd.len.symm
  refine q p [a] _ rfl (by simpa using Ne.symm ne) (fun b hb => ?_) (s1.trans sp) fun i b c hb hc => ?_
  · rcases List.mem_cons.mp hb with rfl | hb
    · exact np'
    · exact na b hb
  · have hl : (μ ++ [p, a])[S.length + 1]? = some a := by rw [← hml, List.getElem?_append_right (by omega)]; simp
    match i, hb, hc with
    | 0, hb, hc =>
      simp only [List.getElem?_cons_zero, Option.some.injEq] at hb hc
      subst hb; subst hc
      exact ⟨_, upd_same, RVL.one (rv_ref.mpr ⟨a, rfl, hl⟩)⟩
    | 1, hb, hc =>
      simp only [List.getElem?_cons_succ, List.getElem?_cons_zero, Option.some.injEq] at hb hc
      subst hb; subst hc
      have kk : ∀ {ws : List V}, RVL X.K (avd Z (μ ++ [a])) (μ ++ [a]) H' vs ws → RVLz X.K Z (μ ++ [p, a]) (upd H' p (.lst [.ref a])) vs ws := fun {ws} r =>
        RVL.tr (fun b o e hn => ⟨sp b o e, fun m z => by
          rcases z with z | z
          · exact hn m (.inl z)
          · rcases List.mem_append.mp z with z | z
            · exact hn m (.inr (List.mem_append_left _ z))
            · rcases List.mem_cons.mp z with rfl | z
              · rw [np] at e; cases e
              · exact hn m (.inr (List.mem_append_right _ z))⟩) (fun n b e => by simp at e) _ _ (RVL.nr (μ' := []) vs ws o r)
      rcases r0 with ⟨ht, kvs, hs, hk, hr⟩ | ⟨ht, kvs, hs, hk, hr⟩
      · exact .inl ⟨ht, kvs, sp _ _ hs, hk, kk hr⟩
      · exact .inr ⟨ht, kvs, sp _ _ hs, hk, kk hr⟩
    | i + 2, hb, hc => simp at hb
/-! ### math.gcd -/
def cGcd (S : Sto) (ds : List D) : Option D := match ds with
  | [.int a, .int b] => some (.int ((Nat.gcd a.natAbs b.natAbs : Nat) : Int))
  | _ => none
theorem cd_gcd {K : PySem.W.Frag} : CallD K rGcd cGcd := by
  intro Z μ H S ds d vs Q W r e q
  unfold cGcd at e
  split at e
  · cases e
    obtain ⟨v, u, rfl, rx, ry⟩ := rvl2 r
    rw [rv_int.mp rx, rv_int.mp ry]
    exact ⟨_, _, rfl, q _ H (Same.refl H) (rv_int.mpr rfl)⟩
  · cases e
theorem d_callG {id : String} {x : Str} {es : List Expr} {r : List V → Hp → VK → Prop} {g : Sto → List D → Option D} {fs : EL} (hc : CallR X (.builtin id) r) (hd : CallD X.K r g) (hg : Gl X x) (hm : X.mg x = some (.builtin id)) (ha : PA X (e :: es) (tA X.K fs)) (hdb : (x == ("__debug__" : Str)) = false := by decide)
    (he : starEach (e :: es) X.env = (false, eval e X.env) :: starEach es X.env := by rfl) (hpl : (backTo pos (starEach es X.env)).any (·.1) = false := by rfl) : PE X (.Call (.Name x p) (e :: es) [] pos) (tD X.K (eCall g fs)) :=
  pe_imp (pe_callBfun hc hg hm ha hdb he hpl) fun _ _ _ h => tCB_of hd h
end
/-! ### // by anything, min -/
abbrev gDivW := gI (fun _ j => decide (0 < j) && Nat.blt j.natAbs.log2 9000) fun i j => i / j
theorem od_divW {K : PySem.W.Frag} : OpD K (rI CDivW fun i j => .int (i / j)) gDivW := od_I fun _ _ h => by
  rw [Bool.and_eq_true, decide_eq_true_eq] at h
  exact ⟨h.1, Nat.le_of_ble_eq_true h.2⟩
def cMin2 : Sto → List D → Option D := fun S ds => match ds with
  | [.int i, .int j] => some (.int (if j < i then j else i))
  | _ => none
theorem cd_min2 {K : PySem.W.Frag} : CallD K (fun xs H Q => ∃ i j, xs = [.int i, .int j] ∧ Q (.int (if j < i then j else i)) H) cMin2 := by
  intro Z μ H S ds d vs Q W r e q
  unfold cMin2 at e
  split at e
  · cases e
    obtain ⟨v, u, rfl, rx, ry⟩ := rvl2 r
    rw [rv_int.mp rx, rv_int.mp ry]
    exact ⟨_, _, rfl, q _ H (Same.refl H) (rv_int.mpr rfl)⟩
  · cases e
end DL

set_option maxHeartbeats 4000000
namespace DL
open PySem PySem.Spec L2

/-! ### plain: the mirrors' own steps -/
section
variable {ρ : Rho} {S : Sto}
@[simp] theorem x_eV (i : Nat) : eV i ρ S = (ρ[i]?).bind id := (rfl)
@[simp] theorem x_eC (d : D) : eC d ρ S = some d := (rfl)
@[simp] theorem x_e1 (g : Sto → D → Option D) (a : E) : e1 g a ρ S = (a ρ S).bind fun x => g S x := (rfl)
@[simp] theorem x_e2 (g : Sto → D → D → Option D) (a b : E) : e2 g a b ρ S = (a ρ S).bind fun x => (b ρ S).bind fun y => g S x y := (rfl)
@[simp] theorem x_f2 (g : Sto → D → D → Option (List D)) (a b : E) : f2 g a b ρ S = (a ρ S).bind fun x => (b ρ S).bind fun y => g S x y := (rfl)
def asB : D → Option Bool
  | .bl b => some b
  | _ => none
@[simp] theorem asB_bl (b : Bool) : asB (.bl b) = some b := (rfl)
@[simp] theorem x_eB (f : E) : eB f ρ S = (f ρ S).bind asB := (rfl)
def and2 (z : D) (k : Option D) : Option D := match z with
  | .bl true => k
  | .bl false => some (.bl false)
  | _ => none
theorem and2_bl (b : Bool) (k : Option D) : and2 (.bl b) k = if b then k else some (.bl false) := by cases b <;> rfl
@[simp] theorem and2_bb (b c : Bool) : and2 (.bl b) (some (.bl c)) = some (.bl (b && c)) := by cases b <;> rfl
@[simp] theorem and2_t (k : Option D) : and2 (.bl true) k = k := (rfl)
@[simp] theorem and2_f (k : Option D) : and2 (.bl false) k = some (.bl false) := (rfl)
def or2 (z : D) (k : Option D) : Option D := match z with
  | .bl true => some (.bl true)
  | .bl false => k
  | _ => none
theorem or2_bl (b : Bool) (k : Option D) : or2 (.bl b) k = if b then some (.bl true) else k := by cases b <;> rfl
@[simp] theorem or2_bb (b c : Bool) : or2 (.bl b) (some (.bl c)) = some (.bl (b || c)) := by cases b <;> rfl
@[simp] theorem or2_t (k : Option D) : or2 (.bl true) k = some (.bl true) := (rfl)
@[simp] theorem or2_f (k : Option D) : or2 (.bl false) k = k := (rfl)
@[simp] theorem x_e3c (g g' : Sto → D → D → Option D) (a b c : E) : e3c g g' a b c ρ S = (a ρ S).bind fun x => (b ρ S).bind fun y => (g S x y).bind fun z => and2 z ((c ρ S).bind fun w => g' S y w) := by
  unfold e3c and2
  rfl
@[simp] theorem x_eTru (f : E) : eTru f ρ S = (f ρ S).bind fun d => truD S d := (rfl)
def andB (c : Bool) (k : Option Bool) : Option Bool := if c then k else some false
def orB (c : Bool) (k : Option Bool) : Option Bool := if c then some true else k
@[simp] theorem andB_bb (b c : Bool) : andB b (some c) = some (b && c) := by cases b <;> rfl
@[simp] theorem andB_t (k : Option Bool) : andB true k = k := (rfl)
@[simp] theorem andB_f (k : Option Bool) : andB false k = some false := (rfl)
@[simp] theorem orB_bb (b c : Bool) : orB b (some c) = some (b || c) := by cases b <;> rfl
@[simp] theorem orB_t (k : Option Bool) : orB true k = some true := (rfl)
@[simp] theorem orB_f (k : Option Bool) : orB false k = k := (rfl)
@[simp] theorem x_bAnd (t u : EB) : bAnd t u ρ S = (t ρ S).bind fun c => andB c (u ρ S) := (rfl)
@[simp] theorem x_bOr (t u : EB) : bOr t u ρ S = (t ρ S).bind fun c => orB c (u ρ S) := (rfl)
@[simp] theorem x_bNot (t : EB) : bNot t ρ S = (t ρ S).map fun c => !c := (rfl)
@[simp] theorem x_eAnd (f g : E) : eAnd f g ρ S = (f ρ S).bind fun d => and2 d (g ρ S) := (rfl)
@[simp] theorem x_eOr (f g : E) : eOr f g ρ S = (f ρ S).bind fun d => or2 d (g ρ S) := (rfl)
@[simp] theorem x_eNot (f : E) : eNot f ρ S = (f ρ S).bind fun d => (asB d).map fun b => .bl (!b) := by
  unfold eNot asB
  congr 1
  funext d
  cases d <;> rfl
@[simp] theorem x_eIf (t : EB) (f g : E) : eIf t f g ρ S = (t ρ S).bind fun c => if c then f ρ S else g ρ S := (rfl)
@[simp] theorem x_fIf (t : EB) (f g : EL) : fIf t f g ρ S = (t ρ S).bind fun c => if c then f ρ S else g ρ S := (rfl)
@[simp] theorem x_aNil : aNil ρ S = some [] := (rfl)
@[simp] theorem x_aCons (f : E) (fs : EL) : aCons f fs ρ S = (f ρ S).bind fun d => (fs ρ S).map fun ds => d :: ds := (rfl)
def mkT (ds : List D) : Option D := if small ds.length then some (.tup ds) else none
def mkL (ds : List D) : Option (List D) := if small ds.length then some ds else none
@[simp] theorem x_eTup (fs : EL) : eTup fs ρ S = (fs ρ S).bind mkT := (rfl)
@[simp] theorem x_fLst (fs : EL) : fLst fs ρ S = (fs ρ S).bind mkL := (rfl)
theorem mkT_ok {ds : List D} (h : ds.length ≤ 1000000) : mkT ds = some (.tup ds) := if_pos (decide_eq_true h)
theorem mkL_ok {ds : List D} (h : ds.length ≤ 1000000) : mkL ds = some ds := if_pos (decide_eq_true h)
@[simp] theorem mkT_0 : mkT [] = some (.tup []) := (rfl)
@[simp] theorem mkT_1 (a : D) : mkT [a] = some (.tup [a]) := mkT_ok (by simp)
@[simp] theorem mkT_2 (a b : D) : mkT [a, b] = some (.tup [a, b]) := mkT_ok (by simp)
@[simp] theorem mkT_3 (a b c : D) : mkT [a, b, c] = some (.tup [a, b, c]) := mkT_ok (by simp)
@[simp] theorem mkT_4 (a b c d : D) : mkT [a, b, c, d] = some (.tup [a, b, c, d]) := mkT_ok (by simp)
@[simp] theorem mkL_0 : mkL [] = some [] := (rfl)
@[simp] theorem mkL_1 (a : D) : mkL [a] = some [a] := mkL_ok (by simp)
@[simp] theorem mkL_2 (a b : D) : mkL [a, b] = some [a, b] := mkL_ok (by simp)
@[simp] theorem mkL_3 (a b c : D) : mkL [a, b, c] = some [a, b, c] := mkL_ok (by simp)
@[simp] theorem x_eF (f : EL) : eF f ρ S = (f ρ S).map .lst := (rfl)
@[simp] theorem x_eCall (g : Sto → List D → Option D) (fs : EL) : eCall g fs ρ S = (fs ρ S).bind fun ds => g S ds := (rfl)
@[simp] theorem x_fCall (g : Sto → List D → Option (List D)) (fs : EL) : fCall g fs ρ S = (fs ρ S).bind fun ds => g S ds := (rfl)
def runA (S : Sto) (g : List D → Option D) (ds : List D) : Option D := if nrs ds then g ds else (fzs S ds).bind fun es => (g es).bind fun r => if imm r then some r else none
def runAF (S : Sto) (g : List D → Option (List D)) (ds : List D) : Option (List D) := if nrs ds then g ds else (fzs S ds).bind fun es => (g es).bind fun r => if imms r then some r else none
@[simp] theorem x_eFn (g : List D → Option D) (fs : EL) : eFn g fs ρ S = (fs ρ S).bind (runA S g) := (rfl)
@[simp] theorem x_fFn (g : List D → Option (List D)) (fs : EL) : fFn g fs ρ S = (fs ρ S).bind (runAF S g) := (rfl)
@[simp] theorem runA_nr {g : List D → Option D} {ds : List D} (h : nrs ds = true) : runA S g ds = g ds := if_pos h
@[simp] theorem runAF_nr {g : List D → Option (List D)} {ds : List D} (h : nrs ds = true) : runAF S g ds = g ds := if_pos h
@[simp] theorem x_oNone : oNone ρ S = some none := (rfl)
def asI : D → Option (Option Int)
  | .int i => some (some i)
  | _ => none
@[simp] theorem asI_int (i : Int) : asI (.int i) = some (some i) := (rfl)
@[simp] theorem x_oSome (f : E) : oSome f ρ S = (f ρ S).bind asI := (rfl)
def cut3 (S : Sto) (d : D) (l h : Option Int) : Option D := match d with
  | .tup ds => some (.tup (cutD ds l h))
  | d => (lstD S d).map fun ds => .lst (cutD ds l h)
@[simp] theorem cut3_tup (ds : List D) (l h : Option Int) : cut3 S (.tup ds) l h = some (.tup (cutD ds l h)) := (rfl)
@[simp] theorem cut3_lst (ds : List D) (l h : Option Int) : cut3 S (.lst ds) l h = some (.lst (cutD ds l h)) := (rfl)
@[simp] theorem x_eCutA (f : E) (lo hi : EO) : eCutA f lo hi ρ S = (f ρ S).bind fun d => (lo ρ S).bind fun l => (hi ρ S).bind fun h => cut3 S d l h := (rfl)
@[simp] theorem x_fCut (f : E) (lo hi : EO) : fCut f lo hi ρ S = (f ρ S).bind fun d => (lo ρ S).bind fun l => (hi ρ S).bind fun h => (lstD S d).map fun ds => cutD ds l h := (rfl)
@[simp] theorem x_iSeqD (f : E) : iSeqD f ρ S = (f ρ S).bind seqV := (rfl)
@[simp] theorem x_jSeqD (f : E) : jSeqD f ρ S = (f ρ S).bind (seqD S) := (rfl)
@[simp] theorem x_iRng (g : List D → Option (List D)) (fs : EL) : iRng g fs ρ S = (fs ρ S).bind g := (rfl)
def enum1 : List D → Option (List D)
  | [x] => (seqV x).map enumD
  | _ => none
@[simp] theorem enum1_one (x : D) : enum1 [x] = (seqV x).map enumD := (rfl)
@[simp] theorem x_iEnumD (fs : EL) : iEnumD fs ρ S = (fs ρ S).bind enum1 := (rfl)
def zip1 : List D → Option (List D)
  | [x, y] => if isTup x == isTup y then (seqV x).bind fun a => (seqV y).map fun b => zipD a b else none
  | _ => none
@[simp] theorem zip1_tt (x y : List D) : zip1 [.tup x, .tup y] = some (zipD x y) := (rfl)
@[simp] theorem zip1_ll (x y : List D) : zip1 [.lst x, .lst y] = some (zipD x y) := (rfl)
@[simp] theorem x_iZipD (fs : EL) : iZipD fs ρ S = (fs ρ S).bind zip1 := (rfl)
@[simp] theorem x_fComp (f : EL) (vs : List Nat) (g : G) (t : EB) (e : E) : fComp f vs g t e ρ S = (f ρ S).bind fun ds => (compL g t e (wipeR ρ vs) S ds).bind mkL := (rfl)
@[simp] theorem x_bYes : bYes ρ S = some true := (rfl)
@[simp] theorem x_wipe0 : wipeR ρ [] = ρ := (rfl)
@[simp] theorem x_wipe1 (v : Nat) (vs : List Nat) : wipeR ρ (v :: vs) = (wipeR ρ vs).set v none := (rfl)
@[simp] theorem x_gN (i : Nat) (d : D) : gN i d ρ = some (ρ.set i (some d)) := (rfl)
@[simp] theorem x_gT (n : Nat) (gs : Gs) (ds : List D) : gT n gs (.tup ds) ρ = if ds.length = n then gs ds ρ else none := (rfl)
@[simp] theorem x_gNil : gNil [] ρ = some ρ := (rfl)
@[simp] theorem x_gCons (g : G) (gs : Gs) (d : D) (ds : List D) : gCons g gs (d :: ds) ρ = (g d ρ).bind fun ρ' => gs ds ρ' := (rfl)
-- statements
@[simp] theorem x_sSkip : sSkip ρ S = some (.nx, ρ, S) := (rfl)
@[simp] theorem x_sBrk : sBrk ρ S = some (.bk, ρ, S) := (rfl)
@[simp] theorem x_sCnt : sCnt ρ S = some (.ct, ρ, S) := (rfl)
@[simp] theorem x_sNever : sNever ρ S = none := (rfl)
def nxt (g : T) (r : Fl × Rho × Sto) : Option (Fl × Rho × Sto) := match r with
  | (.nx, ρ', S') => g ρ' S'
  | r => some r
@[simp] theorem nxt_nx (g : T) : nxt g (.nx, ρ, S) = g ρ S := (rfl)
@[simp] theorem nxt_bk (g : T) : nxt g (.bk, ρ, S) = some (.bk, ρ, S) := (rfl)
@[simp] theorem nxt_ct (g : T) : nxt g (.ct, ρ, S) = some (.ct, ρ, S) := (rfl)
@[simp] theorem nxt_rt (g : T) (d : D) : nxt g (.rt d, ρ, S) = some (.rt d, ρ, S) := (rfl)
@[simp] theorem nxt_rf (g : T) (d : List D) : nxt g (.rf d, ρ, S) = some (.rf d, ρ, S) := (rfl)
@[simp] theorem x_sSeq (f g : T) : sSeq f g ρ S = (f ρ S).bind (nxt g) := (rfl)
@[simp] theorem x_sSet (i : Nat) (f : E) : sSet i f ρ S = (f ρ S).map fun d => (.nx, ρ.set i (some d), S) := (rfl)
@[simp] theorem x_sNew (i : Nat) (f : EL) : sNew i f ρ S = (f ρ S).map fun ds => (.nx, ρ.set i (some (.ref S.length)), S ++ [.lst ds]) := (rfl)
@[simp] theorem x_sDrop (f : E) : sDrop f ρ S = (f ρ S).map fun _ => (.nx, ρ, S) := (rfl)
@[simp] theorem x_sRet (f : E) : sRet f ρ S = (f ρ S).map fun d => (.rt d, ρ, S) := (rfl)
@[simp] theorem x_sRetF (f : EL) : sRetF f ρ S = (f ρ S).map fun d => (.rf d, ρ, S) := (rfl)
@[simp] theorem x_sIf (t : EB) (f g : T) : sIf t f g ρ S = (t ρ S).bind fun b => if b then f ρ S else g ρ S := (rfl)
@[simp] theorem x_sFor (f : EL) (g : G) (body : T) : sFor f g body ρ S = (f ρ S).bind fun ds => loopL g body ds ρ S := (rfl)
@[simp] theorem x_sAsg (f : E) (g : G) : sAsg f g ρ S = (f ρ S).bind fun d => (g d ρ).map fun ρ' => (.nx, ρ', S) := (rfl)
def par2 (i j : Nat) (ρ : Rho) (S : Sto) : List D → Option (Fl × Rho × Sto)
  | [d, e] => some (.nx, (ρ.set i (some d)).set j (some e), S)
  | _ => none
@[simp] theorem par2_2 (i j : Nat) (d e : D) : par2 i j ρ S [d, e] = some (.nx, (ρ.set i (some d)).set j (some e), S) := (rfl)
@[simp] theorem x_sPar (i j : Nat) (fs : EL) : sPar i j fs ρ S = (fs ρ S).bind (par2 i j ρ S) := by
  unfold sPar par2
  rfl
def aug2 (o : Option (Option D)) (d : D) : Option D := match o, d with
  | some (some (.int a)), .int b => some (.int (a + b))
  | _, _ => none
@[simp] theorem aug2_int (a b : Int) : aug2 (some (some (.int a))) (.int b) = some (.int (a + b)) := (rfl)
@[simp] theorem x_sAugI (i : Nat) (f : E) : sAugI i f ρ S = (f ρ S).bind fun d => (aug2 ρ[i]? d).map fun c => (.nx, ρ.set i (some c), S) := by
  unfold sAugI
  congr 1
  funext d
  generalize ρ[i]? = o
  cases o with
  | none => rfl
  | some o =>
    cases o with
    | none => rfl
    | some e => cases e <;> cases d <;> rfl
@[simp] theorem x_sApp (fo f : E) : sApp fo f ρ S = (fo ρ S).bind fun o => (f ρ S).bind fun d => (cellD S o).bind fun c => if small c.2.length then some (.nx, ρ, S.set c.1 (.lst (c.2 ++ [d]))) else none := (rfl)
@[simp] theorem x_sExt (fo f : E) : sExt fo f ρ S = (fo ρ S).bind fun o => (f ρ S).bind fun d => (lstD S d).bind fun es => (cellD S o).bind fun c => if small (c.2.length + es.length) then some (.nx, ρ, S.set c.1 (.lst (c.2 ++ es))) else none := (rfl)
end
end DL

set_option maxHeartbeats 4000000
namespace DL
open PySem PySem.Spec L2

/-! ### plain: operators at data -/
section
variable {ρ : Rho} {S : Sto}
@[simp] theorem small_eq (n : Nat) : small n = decide (n ≤ 1000000) := (rfl)
@[simp] theorem y_addI (i j : Int) : gAddA S (.int i) (.int j) = some (.int (i + j)) := (rfl)
theorem y_addT {a b : List D} (h : a.length + b.length ≤ 1000000) : gAddA S (.tup a) (.tup b) = some (.tup (a ++ b)) := if_pos (decide_eq_true h)
theorem y_addL {a b : List D} (h : a.length + b.length ≤ 1000000) : gAddA S (.lst a) (.lst b) = some (.lst (a ++ b)) := by
  simp [gAddA, gCatF, lstD, h]
@[simp] theorem y_sub (i j : Int) : gSub S (.int i) (.int j) = some (.int (i - j)) := (rfl)
theorem y_mul {i j : Int} (h : cMul i j = true) : gMulA S (.int i) (.int j) = some (.int (i * j)) := if_pos h
@[simp] theorem y_mulG (i j : Int) : gMulA S (.int i) (.int j) = if cMul i j then some (.int (i * j)) else none := (rfl)
@[simp] theorem cMul_r {i j : Int} (h : j.natAbs < 18446744073709551616) : cMul i j = true := by
  unfold cMul
  rw [Bool.or_eq_true]
  exact .inr (Nat.ble_eq_true_of_le h)
@[simp] theorem cMul_l {i j : Int} (h : i.natAbs < 18446744073709551616) : cMul i j = true := by
  unfold cMul
  rw [Bool.or_eq_true]
  exact .inl (Nat.ble_eq_true_of_le h)
@[simp] theorem y_mod (i j : Int) : gI (fun _ j => decide (0 < j)) (fun i j => i % j) S (.int i) (.int j) = if 0 < j then some (.int (i % j)) else none := by
  simp [gI]
@[simp] theorem y_div (i j : Int) : gI (fun _ j => decide (0 < j) && decide (j < 1073741824)) (fun i j => i / j) S (.int i) (.int j) = if 0 < j ∧ j < 1073741824 then some (.int (i / j)) else none := by
  simp [gI]
@[simp] theorem y_cmp (p : Int → Int → Bool) (i j : Int) : gCmp p S (.int i) (.int j) = some (.bl (p i j)) := (rfl)
@[simp] theorem y_neg (i : Int) : gNeg S (.int i) = some (.int (-i)) := (rfl)
theorem fo_ok {d : D} (h : okD 60 d = true) : fo S d = some d := if_pos h
theorem y_eq {x y : D} (h1 : okD 60 x = true) (h2 : okD 60 y = true) : gEq S x y = some (.bl (eqD x y)) := by
  simp [gEq, fo_ok h1, fo_ok h2]
theorem y_ne {x y : D} (h1 : okD 60 x = true) (h2 : okD 60 y = true) : gNe S x y = some (.bl (!eqD x y)) := by
  simp [gNe, fo_ok h1, fo_ok h2]
@[simp] theorem ok_int (n : Nat) (i : Int) : okD n (.int i) = true := by cases n <;> rfl
@[simp] theorem ok_bl (n : Nat) (i : Bool) : okD n (.bl i) = true := by cases n <;> rfl
@[simp] theorem ok_non (n : Nat) : okD n .non = true := by cases n <;> rfl
@[simp] theorem ok_tup (n : Nat) (ds : List D) : okD (n + 1) (.tup ds) = okDs n ds := (rfl)
@[simp] theorem ok_lst (n : Nat) (ds : List D) : okD (n + 1) (.lst ds) = okDs n ds := (rfl)
@[simp] theorem oks_nil (n : Nat) : okDs n [] = true := by cases n <;> rfl
@[simp] theorem oks_cons (n : Nat) (d : D) (ds : List D) : okDs n (d :: ds) = (okD n d && okDs n ds) := by cases n <;> rfl
@[simp] theorem oks_app (n : Nat) (a b : List D) : okDs n (a ++ b) = (okDs n a && okDs n b) := by
  induction a with
  | nil => simp
  | cons x a ih => simp [ih, Bool.and_assoc]
theorem oks_all {n : Nat} {ds : List D} : okDs n ds = true ↔ ∀ d ∈ ds, okD n d = true := by
  induction ds with
  | nil => simp
  | cons x a ih => simp [ih]
@[simp] theorem y_eqI (i j : Int) : gEq S (.int i) (.int j) = some (.bl (decide (i = j))) := by
  rw [y_eq (by simp) (by simp)]
  simp only [eqD]
  congr 2
@[simp] theorem y_neI (i j : Int) : gNe S (.int i) (.int j) = some (.bl (!decide (i = j))) := by
  rw [y_ne (by simp) (by simp)]
  simp only [eqD]
  congr 2
@[simp] theorem y_eqB (i j : Bool) : gEq S (.bl i) (.bl j) = some (.bl (i == j)) := by
  rw [y_eq (by simp) (by simp)]
  rfl
@[simp] theorem y_isN (neg : Bool) : gIsN neg S .non .non = some (.bl (!neg)) := (rfl)
@[simp] theorem y_isN_int (neg : Bool) (i : Int) : gIsN neg S (.int i) .non = some (.bl neg) := (rfl)
@[simp] theorem y_isN_bl (neg : Bool) (i : Bool) : gIsN neg S (.bl i) .non = some (.bl neg) := (rfl)
@[simp] theorem y_isN_tup (neg : Bool) (i : List D) : gIsN neg S (.tup i) .non = some (.bl neg) := (rfl)
@[simp] theorem y_isN_lst (neg : Bool) (i : List D) : gIsN neg S (.lst i) .non = some (.bl neg) := (rfl)
@[simp] theorem y_isN_str (neg : Bool) (i : Str) : gIsN neg S (.str i) .non = some (.bl neg) := (rfl)
@[simp] theorem y_isB (neg : Bool) (a b : Bool) : gIsB neg S (.bl a) (.bl b) = some (.bl (if a == b then !neg else neg)) := (rfl)
-- sequences
@[simp] theorem q_tup (ds : List D) : seqD S (.tup ds) = some ds := (rfl)
@[simp] theorem q_lst (ds : List D) : seqD S (.lst ds) = some ds := (rfl)
@[simp] theorem q_scr (ds : List Int) : seqD S (.scr ds) = some (ds.map .int) := (rfl)
theorem q_ref {n : Nat} {ds : List D} (h : S[n]? = some (.lst ds)) : seqD S (.ref n) = some ds := by simp only [seqD, h]
@[simp] theorem qv_tup (ds : List D) : seqV (.tup ds) = some ds := (rfl)
@[simp] theorem qv_lst (ds : List D) : seqV (.lst ds) = some ds := (rfl)
@[simp] theorem ql_lst (ds : List D) : lstD S (.lst ds) = some ds := (rfl)
theorem ql_ref {n : Nat} {ds : List D} (h : S[n]? = some (.lst ds)) : lstD S (.ref n) = some ds := by simp only [lstD, h]
theorem qc_ref {n : Nat} {ds : List D} (h : S[n]? = some (.lst ds)) : cellD S (.ref n) = some (n, ds) := by simp only [cellD, h]
@[simp] theorem q_ref0 (ds : List D) (T : Sto) : seqD (.lst ds :: T) (.ref 0) = some ds := (rfl)
@[simp] theorem ql_ref0 (ds : List D) (T : Sto) : lstD (.lst ds :: T) (.ref 0) = some ds := (rfl)
@[simp] theorem qc_ref0 (ds : List D) (T : Sto) : cellD (.lst ds :: T) (.ref 0) = some (0, ds) := (rfl)
@[simp] theorem q_ref1 (c : Cell) (ds : List D) (T : Sto) : seqD (c :: .lst ds :: T) (.ref 1) = some ds := (rfl)
@[simp] theorem ql_ref1 (c : Cell) (ds : List D) (T : Sto) : lstD (c :: .lst ds :: T) (.ref 1) = some ds := (rfl)
@[simp] theorem qc_ref1 (c : Cell) (ds : List D) (T : Sto) : cellD (c :: .lst ds :: T) (.ref 1) = some (1, ds) := (rfl)
@[simp] theorem q_ref2 (c c2 : Cell) (ds : List D) (T : Sto) : seqD (c :: c2 :: .lst ds :: T) (.ref 2) = some ds := (rfl)
@[simp] theorem ql_ref2 (c c2 : Cell) (ds : List D) (T : Sto) : lstD (c :: c2 :: .lst ds :: T) (.ref 2) = some ds := (rfl)
@[simp] theorem qc_ref2 (c c2 : Cell) (ds : List D) (T : Sto) : cellD (c :: c2 :: .lst ds :: T) (.ref 2) = some (2, ds) := (rfl)
-- truth
@[simp] theorem t_non : truD S .non = some false := (rfl)
@[simp] theorem t_bl (b : Bool) : truD S (.bl b) = some b := (rfl)
@[simp] theorem t_int (i : Int) : truD S (.int i) = some (i != 0) := (rfl)
@[simp] theorem t_tup (ds : List D) : truD S (.tup ds) = some (!ds.isEmpty) := (rfl)
@[simp] theorem t_lst (ds : List D) : truD S (.lst ds) = some (!ds.isEmpty) := (rfl)
theorem t_ref {n : Nat} {ds : List D} (h : S[n]? = some (.lst ds)) : truD S (.ref n) = some (!ds.isEmpty) := by simp [truD, seqD, h]
-- places
@[simp] theorem y_ix (x : D) (i : Int) : gIx S x (.int i) = (seqD S x).bind fun ds => atI ds i := (rfl)
theorem atI_nat {α : Type} (ds : List α) (k : Nat) : atI ds (k : Int) = ds[k]? := by
  unfold atI ixN
  rw [if_pos (by omega)]
  by_cases h : k < ds.length
  · rw [if_pos (by omega)]
    simp
  · rw [if_neg (by omega)]
    simp [List.getElem?_eq_none (by omega : ds.length ≤ k)]
@[simp] theorem atI_0 {α : Type} (a : α) (l : List α) : atI (a :: l) 0 = some a := atI_nat (a :: l) 0
@[simp] theorem atI_1 {α : Type} (a b : α) (l : List α) : atI (a :: b :: l) 1 = some b := atI_nat (a :: b :: l) 1
@[simp] theorem atI_2 {α : Type} (a b c : α) (l : List α) : atI (a :: b :: c :: l) 2 = some c := atI_nat (a :: b :: c :: l) 2
@[simp] theorem atI_3 {α : Type} (a b c d : α) (l : List α) : atI (a :: b :: c :: d :: l) 3 = some d := atI_nat (a :: b :: c :: d :: l) 3
@[simp] theorem atI_4 {α : Type} (a b c d e : α) (l : List α) : atI (a :: b :: c :: d :: e :: l) 4 = some e := atI_nat (a :: b :: c :: d :: e :: l) 4
theorem atI_neg1 {α : Type} (ds : List α) : atI ds (-1) = ds.getLast? := by
  unfold atI ixN
  rw [if_neg (by decide)]
  cases ds with
  | nil => rfl
  | cons a l =>
    rw [if_pos (by simp; omega)]
    rw [List.getLast?_eq_getElem?]
    have e : (-1 + (((a :: l).length : Nat) : Int)).toNat = (a :: l).length - 1 := by simp only [List.length_cons]; omega
    rw [e]
    rfl
-- built in
@[simp] theorem k_len (x : D) : cLen S [x] = (seqD S x).map fun xs => .int xs.length := (rfl)
@[simp] theorem k_int (i : Int) : cInt S [.int i] = some (.int i) := (rfl)
@[simp] theorem k_intB (i : Bool) : cInt S [.bl i] = some (.int (if i then 1 else 0)) := (rfl)
@[simp] theorem k_abs (i : Int) : cAbs S [.int i] = some (.int (if i < 0 then -i else i)) := (rfl)
@[simp] theorem k_max2 (i j : Int) : cMax2 S [.int i, .int j] = some (.int (if j > i then j else i)) := (rfl)
@[simp] theorem k_tuple (x : D) : cTuple S [x] = (seqD S x).map .tup := (rfl)
@[simp] theorem k_list (x : D) : cList S [x] = seqD S x := (rfl)
theorem k_any {x : D} {bs : List Bool} (h : lstD S x = some (bs.map .bl)) : cAny S [x] = some (.bl (bs.any id)) := by
  simp [cAny, h, boolsD_map]
theorem k_all {x : D} {bs : List Bool} (h : lstD S x = some (bs.map .bl)) : cAll S [x] = some (.bl (bs.all id)) := by
  simp [cAll, h, boolsD_map]
@[simp] theorem k_anyM {α : Type} (f : α → Bool) (l : List α) : cAny S [.lst (l.map fun a => .bl (f a))] = some (.bl (l.any f)) := by
  have e : (l.map fun a => D.bl (f a)) = (l.map f).map .bl := by simp
  rw [e, k_any (bs := l.map f) rfl]
  simp [List.any_map]
@[simp] theorem k_allM {α : Type} (f : α → Bool) (l : List α) : cAll S [.lst (l.map fun a => .bl (f a))] = some (.bl (l.all f)) := by
  have e : (l.map fun a => D.bl (f a)) = (l.map f).map .bl := by simp
  rw [e, k_all (bs := l.map f) rfl]
  simp [List.all_map]
-- what a def is run with
def fin1 (r : Fl × Rho × Sto) : Option D := match r with
  | (.rt d, _, S) => fz S d
  | (.rf es, _, S) => (fzs S es).map .lst
  | (.nx, _, _) => some .non
  | _ => none
@[simp] theorem fin1_nx : fin1 (.nx, ρ, S) = some .non := (rfl)
@[simp] theorem fin1_rt (d : D) : fin1 (.rt d, ρ, S) = fz S d := (rfl)
theorem run_eq (b : T) (n : Nat) (ds : List D) : runD b n ds = (b (startR n ds) []).bind fin1 := by
  unfold runD
  rfl
@[simp] theorem fz_int (i : Int) : fz S (.int i) = some (.int i) := (rfl)
@[simp] theorem fz_bl (i : Bool) : fz S (.bl i) = some (.bl i) := (rfl)
@[simp] theorem fz_non : fz S .non = some .non := (rfl)
@[simp] theorem fz_str (i : Str) : fz S (.str i) = some (.str i) := (rfl)
@[simp] theorem fz_nr {d : D} (h : nr d = true) : fz S d = some d := if_pos h
@[simp] theorem nr_int (i : Int) : nr (.int i) = true := (rfl)
@[simp] theorem nr_bl (i : Bool) : nr (.bl i) = true := (rfl)
@[simp] theorem nr_non : nr .non = true := (rfl)
@[simp] theorem nr_str (i : Str) : nr (.str i) = true := (rfl)
@[simp] theorem nr_ty (i : String) : nr (.ty i) = true := (rfl)
@[simp] theorem nr_scr (i : List Int) : nr (.scr i) = true := (rfl)
@[simp] theorem nr_ref (i : Nat) : nr (.ref i) = false := (rfl)
@[simp] theorem nr_tup (ds : List D) : nr (.tup ds) = nrs ds := (rfl)
@[simp] theorem nr_lst (ds : List D) : nr (.lst ds) = nrs ds := (rfl)
@[simp] theorem nrs_nil : nrs [] = true := (rfl)
@[simp] theorem nrs_cons (d : D) (ds : List D) : nrs (d :: ds) = (nr d && nrs ds) := (rfl)
@[simp] theorem nrs_app (a b : List D) : nrs (a ++ b) = (nrs a && nrs b) := by
  induction a with
  | nil => simp
  | cons x a ih => simp [ih, Bool.and_assoc]
theorem nrs_all {ds : List D} : nrs ds = true ↔ ∀ d ∈ ds, nr d = true := by
  induction ds with
  | nil => simp
  | cons x a ih => simp [ih]
end

/-! ### rows of whole numbers -/
def nD (k : Nat) : D := .int (k : Int)
@[simp] theorem nD_eq (k : Nat) : nD k = .int (k : Int) := (rfl)
@[simp] theorem map_nD (l : List Nat) : (l.map fun x : Nat => D.int (x : Int)) = l.map nD := (rfl)
@[simp] theorem nrs_nD (l : List Nat) : nrs (l.map nD) = true := nrs_all.mpr (by simp)
@[simp] theorem oks_nD (n : Nat) (l : List Nat) : okDs n (l.map nD) = true := oks_all.mpr (by simp)
theorem inD_nD (k : Nat) (l : List Nat) : inD (.int k) (l.map nD) = decide (k ∈ l) := by
  induction l with
  | nil => rfl
  | cons x l ih =>
    unfold inD at ih ⊢
    simp only [List.map_cons, List.any_cons, ih, nD, eqD, List.mem_cons]
    by_cases h : k = x
    · subst h; simp
    · have h' : ¬ ((x : Int) = (k : Int)) := by omega
      simp [h, h']
@[simp] theorem y_inT (neg : Bool) (S : Sto) (k : Nat) (l : List Nat) : gInS neg S (.int k) (.tup (l.map nD)) = some (.bl (if neg then !decide (k ∈ l) else decide (k ∈ l))) := by
  unfold gInS
  rw [fo_ok (by simp), fo_ok (by rw [ok_tup]; simp)]
  simp only [Option.bind_some, inD_nD]
@[simp] theorem y_inL (neg : Bool) (S : Sto) (k : Nat) (l : List Nat) : gInS neg S (.int k) (.lst (l.map nD)) = some (.bl (if neg then !decide (k ∈ l) else decide (k ∈ l))) := by
  unfold gInS
  rw [fo_ok (by simp), fo_ok (by rw [ok_lst]; simp)]
  simp only [Option.bind_some, inD_nD]
theorem eqDs_nD : ∀ (a b : List Nat), eqDs (a.map nD) (b.map nD) = decide (a = b)
  | [], [] => rfl
  | [], _ :: _ => by simp [eqDs]
  | _ :: _, [] => by simp [eqDs]
  | x :: a, y :: b => by
    simp only [List.map_cons, eqDs, eqDs_nD a b, nD, eqD, List.cons.injEq]
    by_cases h : x = y
    · subst h; simp
    · have h' : ¬ ((x : Int) = (y : Int)) := by omega
      simp [h, h']
theorem rngD0 (n : Nat) : rngD 0 1 n = (List.range n).map nD := by
  unfold rngD
  refine List.map_congr_left fun k _ => ?_
  simp
theorem lim62_nat {n : Nat} (h : n ≤ 1000000) : lim62 (n : Int) = true := by
  unfold lim62
  refine Nat.ble_eq_true_of_le ?_
  rw [Int.natAbs_natCast]
  omega
theorem rng1_nat {n : Nat} (h : n ≤ 1000000) : rng1 [.int (n : Int)] = some ((List.range n).map nD) := by
  simp [rng1, lim62_nat h, rngD0]

/-! ### comprehensions, loops -/
theorem compL_map {α : Type} {g : G} {t : EB} {e : E} {ρ : Rho} {S : Sto} (emb : α → D) (p : α → Bool) (f : α → D) : ∀ (xs : List α), (∀ x ∈ xs, ∃ ρ1, g (emb x) ρ = some ρ1 ∧ t ρ1 S = some (p x) ∧ (p x = true → e ρ1 S = some (f x))) →
    compL g t e ρ S (xs.map emb) = some ((xs.filter p).map f)
  | [], _ => rfl
  | x :: xs, h => by
    obtain ⟨ρ1, h1, h2, h3⟩ := h x List.mem_cons_self
    have ih := compL_map emb p f xs fun y m => h y (List.mem_cons_of_mem _ m)
    simp only [List.map_cons, compL, h1, h2, Option.bind_some, ih]
    cases hp : p x with
    | true =>
      rw [if_pos rfl, h3 hp]
      simp [List.filter_cons, hp]
    | false => simp [List.filter_cons, hp]
theorem compL_all {α : Type} {g : G} {e : E} {ρ : Rho} {S : Sto} (emb : α → D) (f : α → D) (xs : List α) (h : ∀ x ∈ xs, ∃ ρ1, g (emb x) ρ = some ρ1 ∧ e ρ1 S = some (f x)) :
    compL g bYes e ρ S (xs.map emb) = some (xs.map f) := by
  have := compL_map (g := g) (t := bYes) (e := e) (ρ := ρ) (S := S) emb (fun _ => true) f xs fun x m => by
    obtain ⟨ρ1, h1, h2⟩ := h x m
    exact ⟨ρ1, h1, rfl, fun _ => h2⟩
  rw [this, List.filter_eq_self.mpr fun _ _ => rfl]
/-- a loop that goes to its end -/
theorem loop_inv {g : G} {body : T} {ds : List D} {ρ : Rho} {S : Sto} (P : Nat → Rho → Sto → Prop) (h0 : P 0 ρ S)
    (step : ∀ i d ρ S, ds[i]? = some d → P i ρ S → ∃ ρ1 ρ2 S2 fl, g d ρ = some ρ1 ∧ body ρ1 S = some (fl, ρ2, S2) ∧ (fl = .nx ∨ fl = .ct) ∧ P (i + 1) ρ2 S2) :
    ∃ ρ' S', loopL g body ds ρ S = some (.nx, ρ', S') ∧ P ds.length ρ' S' := by
  induction ds generalizing ρ S P with
  | nil => exact ⟨ρ, S, rfl, h0⟩
  | cons d ds ih =>
    obtain ⟨ρ1, ρ2, S2, fl, h1, h2, h3, h4⟩ := step 0 d ρ S rfl h0
    obtain ⟨ρ', S', h5, h6⟩ := ih (fun i => P (i + 1)) h4 fun i d ρ S e p => step (i + 1) d ρ S (by simpa using e) p
    refine ⟨ρ', S', ?_, h6⟩
    simp only [loopL, h1, h2, Option.bind_some]
    rcases h3 with rfl | rfl
    · exact h5
    · exact h5
/-- a loop that may return -/
theorem loop_ret {g : G} {body : T} {ds : List D} {ρ : Rho} {S : Sto} (P : Nat → Rho → Sto → Prop) (Q : Nat → Fl → Rho → Sto → Prop) (h0 : P 0 ρ S)
    (step : ∀ i d ρ S, ds[i]? = some d → P i ρ S → ∃ ρ1 ρ2 S2 fl, g d ρ = some ρ1 ∧ body ρ1 S = some (fl, ρ2, S2) ∧ (((fl = .nx ∨ fl = .ct) ∧ P (i + 1) ρ2 S2) ∨ ((∃ r, fl = .rt r) ∧ Q i fl ρ2 S2) ∨ (fl = .bk ∧ Q i .nx ρ2 S2))) :
    (∃ ρ' S', loopL g body ds ρ S = some (.nx, ρ', S') ∧ P ds.length ρ' S') ∨ ∃ i fl ρ' S', i < ds.length ∧ loopL g body ds ρ S = some (fl, ρ', S') ∧ Q i fl ρ' S' := by
  induction ds generalizing ρ S P Q with
  | nil => exact .inl ⟨ρ, S, rfl, h0⟩
  | cons d ds ih =>
    obtain ⟨ρ1, ρ2, S2, fl, h1, h2, h3⟩ := step 0 d ρ S rfl h0
    rcases h3 with ⟨h3, h4⟩ | ⟨⟨r, rfl⟩, h4⟩ | ⟨rfl, h4⟩
    · rcases ih (fun i => P (i + 1)) (fun i => Q (i + 1)) h4 (fun i d ρ S e p => step (i + 1) d ρ S (by simpa using e) p) with ⟨ρ', S', h5, h6⟩ | ⟨i, fl', ρ', S', hi, h5, h6⟩
      · refine .inl ⟨ρ', S', ?_, h6⟩
        simp only [loopL, h1, h2, Option.bind_some]
        rcases h3 with rfl | rfl
        · exact h5
        · exact h5
      · refine .inr ⟨i + 1, fl', ρ', S', by simpa using hi, ?_, h6⟩
        simp only [loopL, h1, h2, Option.bind_some]
        rcases h3 with rfl | rfl
        · exact h5
        · exact h5
    · refine .inr ⟨0, .rt r, ρ2, S2, by simp, ?_, h4⟩
      simp only [loopL, h1, h2, Option.bind_some]
    · refine .inr ⟨0, .nx, ρ2, S2, by simp, ?_, h4⟩
      simp only [loopL, h1, h2, Option.bind_some]

/-! comprehensions over what is embedded -/
def cmpM {α : Type} (F : α → Option D) : List α → Option (List D)
  | [] => some []
  | x :: xs => (F x).bind fun y => (cmpM F xs).map fun ys => y :: ys
def cmpF {α : Type} (F : α → Option (Option D)) : List α → Option (List D)
  | [] => some []
  | x :: xs => (F x).bind fun y => (cmpF F xs).map fun ys => match y with
    | some y => y :: ys
    | none => ys
theorem cmpM_congr {α : Type} {xs ys : List α} {F F' : α → Option D} (h : xs = ys) (h2 : ∀ x, x ∈ ys → F x = F' x) : cmpM F xs = cmpM F' ys := by
  subst h
  induction xs with
  | nil => rfl
  | cons x xs ih => simp only [cmpM, h2 x List.mem_cons_self, ih fun y m => h2 y (List.mem_cons_of_mem _ m)]
theorem cmpF_congr {α : Type} {xs ys : List α} {F F' : α → Option (Option D)} (h : xs = ys) (h2 : ∀ x, x ∈ ys → F x = F' x) : cmpF F xs = cmpF F' ys := by
  subst h
  induction xs with
  | nil => rfl
  | cons x xs ih => simp only [cmpF, h2 x List.mem_cons_self, ih fun y m => h2 y (List.mem_cons_of_mem _ m)]
@[simp] theorem cmpM_some {α : Type} (f : α → D) (xs : List α) : cmpM (fun x => some (f x)) xs = some (xs.map f) := by
  induction xs with
  | nil => rfl
  | cons x xs ih => simp [cmpM, ih]
@[simp] theorem cmpF_some {α : Type} (f : α → D) (xs : List α) : cmpF (fun x => some (some (f x))) xs = some (xs.map f) := by
  induction xs with
  | nil => rfl
  | cons x xs ih => simp [cmpF, ih]
@[simp] theorem cmpF_ite {α : Type} (p : α → Prop) [DecidablePred p] (f : α → D) (xs : List α) : cmpF (fun x => if p x then some (some (f x)) else some none) xs = some ((xs.filter fun x => decide (p x)).map f) := by
  induction xs with
  | nil => rfl
  | cons x xs ih =>
    by_cases h : p x
    · simp [cmpF, ih, h]
    · simp [cmpF, ih, h]
@[simp] theorem cmpF_ite' {α : Type} (p : α → Prop) [DecidablePred p] (f : α → D) (xs : List α) : cmpF (fun x => if p x then some none else some (some (f x))) xs = some ((xs.filter fun x => !decide (p x)).map f) := by
  induction xs with
  | nil => rfl
  | cons x xs ih =>
    by_cases h : p x
    · simp [cmpF, ih, h]
    · simp [cmpF, ih, h]
theorem compL_gen {α : Type} (g : G) (t : EB) (e : E) (ρ : Rho) (S : Sto) (emb : α → D) (xs : List α) : compL g t e ρ S (xs.map emb) = cmpF (fun x => (g (emb x) ρ).bind fun ρ1 => (t ρ1 S).bind fun b => if b then (e ρ1 S).map some else some none) xs := by
  induction xs with
  | nil => rfl
  | cons x xs ih =>
    simp only [List.map_cons, compL, cmpF, ih]
    cases g (emb x) ρ with
    | none => rfl
    | some ρ1 =>
      simp only [Option.bind_some]
      cases t ρ1 S with
      | none => rfl
      | some b =>
        simp only [Option.bind_some]
        cases b with
        | true =>
          rw [if_pos rfl, if_pos rfl]
          cases e ρ1 S with
          | none => rfl
          | some y =>
            simp only [Option.bind_some, Option.map_some]
        | false =>
          rw [if_neg (by decide), if_neg (by decide)]
          simp only [Option.bind_some]
          cases cmpF (fun x => (g (emb x) ρ).bind fun ρ1 => (t ρ1 S).bind fun b => if b = true then (e ρ1 S).map some else some none) xs <;> rfl
@[simp] theorem compL_yes {α : Type} (g : G) (e : E) (ρ : Rho) (S : Sto) (emb : α → D) (xs : List α) : compL g bYes e ρ S (xs.map emb) = cmpM (fun x => (g (emb x) ρ).bind fun ρ1 => e ρ1 S) xs := by
  induction xs with
  | nil => rfl
  | cons x xs ih =>
    simp only [List.map_cons, compL, cmpM, ih]
    cases g (emb x) ρ with
    | none => rfl
    | some ρ1 => simp [bYes]
@[simp] theorem mkL_map {α : Type} {f : α → D} {xs : List α} (h : xs.length ≤ 1000000) : mkL (xs.map f) = some (xs.map f) := mkL_ok (by simpa using h)
@[simp] theorem mkL_flt {α : Type} {f : α → D} {p : α → Bool} {xs : List α} (h : xs.length ≤ 1000000) : mkL ((xs.filter p).map f) = some ((xs.filter p).map f) :=
  mkL_ok (by rw [List.length_map]; exact Nat.le_trans (List.length_filter_le _ _) h)
theorem enumD_map {α : Type} (emb : α → D) (xs : List α) : enumD (xs.map emb) = xs.zipIdx.map fun p => .tup [nD p.2, emb p.1] := by
  unfold enumD
  rw [List.mapIdx_eq_zipIdx_map, List.zipIdx_map, List.map_map]
  rfl

@[simp] theorem all_tt {α : Type} (xs : List α) : (xs.all fun _ => true) = true := by simp
@[simp] theorem nrs_map {α : Type} (f : α → D) (xs : List α) : nrs (xs.map f) = xs.all fun x => nr (f x) := by
  induction xs with
  | nil => rfl
  | cons x xs ih => simp [ih]
@[simp] theorem oks_map {α : Type} (n : Nat) (f : α → D) (xs : List α) : okDs n (xs.map f) = xs.all fun x => okD n (f x) := by
  induction xs with
  | nil => simp
  | cons x xs ih => simp [ih]
@[simp] theorem y_inLm {α : Type} (neg : Bool) (S : Sto) (k : Nat) (f : α → Nat) (l : List α) : gInS neg S (.int k) (.lst (l.map fun x => .int (f x : Nat))) = some (.bl (if neg then !decide (k ∈ l.map f) else decide (k ∈ l.map f))) := by
  have e : (l.map fun x => D.int (f x : Nat)) = (l.map f).map nD := by simp
  rw [e, y_inL]
@[simp] theorem y_inTm {α : Type} (neg : Bool) (S : Sto) (k : Nat) (f : α → Nat) (l : List α) : gInS neg S (.int k) (.tup (l.map fun x => .int (f x : Nat))) = some (.bl (if neg then !decide (k ∈ l.map f) else decide (k ∈ l.map f))) := by
  have e : (l.map fun x => D.int (f x : Nat)) = (l.map f).map nD := by simp
  rw [e, y_inT]
end DL

set_option maxHeartbeats 4000000
namespace DL
open PySem PySem.Spec L2

/-! ### plain: cells read as values -/
mutual
theorem frzS_nr (φ : Nat → Option D) : ∀ d : D, nr d = true → frzS φ d = some d
  | .non, _ => rfl
  | .bl _, _ => rfl
  | .int _, _ => rfl
  | .str _, _ => rfl
  | .ty _, _ => rfl
  | .scr _, _ => rfl
  | .ref _, h => by simp at h
  | .tup ds, h => by
    rw [nr_tup] at h
    simp [frzS, frzSs_nr φ ds h]
  | .lst ds, h => by
    rw [nr_lst] at h
    simp [frzS, frzSs_nr φ ds h]
  | .dic t ks vs, h => by
    have h' : nrs vs = true := h
    simp [frzS, frzSs_nr φ vs h']
  | .ins c fs vs, h => by
    have h' : nrs vs = true := h
    simp [frzS, frzSs_nr φ vs h']
theorem frzSs_nr (φ : Nat → Option D) : ∀ ds : List D, nrs ds = true → frzSs φ ds = some ds
  | [], _ => rfl
  | d :: ds, h => by
    rw [nrs_cons, Bool.and_eq_true] at h
    simp [frzSs, frzS_nr φ d h.1, frzSs_nr φ ds h.2]
end
theorem frz_nr (k : Nat) (S : Sto) {d : D} (h : nr d = true) : frz k S d = some d := by
  cases k <;> exact frzS_nr _ d h
theorem mapM_id {g : D → Option D} : ∀ {ds : List D}, (∀ d ∈ ds, g d = some d) → ds.mapM g = some ds
  | [], _ => rfl
  | d :: ds, h => by
    rw [List.mapM_cons, h d List.mem_cons_self, mapM_id fun x m => h x (List.mem_cons_of_mem _ m)]
    rfl
theorem fz_ref {S : Sto} {n : Nat} {ds : List D} (h : S[n]? = some (.lst ds)) (hn : nrs ds = true) : fz S (.ref n) = some (.lst ds) := by
  have e : fz S (.ref n) = frz 6 S (.ref n) := if_neg (by simp)
  rw [e]
  show frzS _ (.ref n) = _
  simp only [frzS, h, Option.bind_some]
  rw [mapM_id fun d m => frz_nr 5 S (nrs_all.mp hn d m)]
  rfl
theorem fo_ref {S : Sto} {n : Nat} {ds : List D} (h : S[n]? = some (.lst ds)) (hn : nrs ds = true) (ho : okDs 59 ds = true) : fo S (.ref n) = some (.lst ds) := by
  have e : fo S (.ref n) = (fz S (.ref n)).bind fun d' => if okD 60 d' then some d' else none := if_neg (by simp [okD])
  rw [e, fz_ref h hn]
  simp [ho]
@[simp] theorem fz_ref0 (l : List Nat) (T : Sto) : fz (.lst (l.map nD) :: T) (.ref 0) = some (.lst (l.map nD)) := fz_ref rfl (by simp)
theorem y_inR {S : Sto} {n : Nat} {l : List Nat} (h : S[n]? = some (.lst (l.map nD))) (neg : Bool) (k : Nat) : gInS neg S (.int k) (.ref n) = some (.bl (if neg then !decide (k ∈ l) else decide (k ∈ l))) := by
  unfold gInS
  rw [fo_ok (by simp), fo_ref h (by simp) (by simp)]
  simp only [Option.bind_some, inD_nD]
@[simp] theorem y_inR0 (l : List Nat) (T : Sto) (neg : Bool) (k : Nat) : gInS neg (.lst (l.map nD) :: T) (.int k) (.ref 0) = some (.bl (if neg then !decide (k ∈ l) else decide (k ∈ l))) := y_inR rfl neg k
@[simp] theorem y_inR1 (c : Cell) (l : List Nat) (T : Sto) (neg : Bool) (k : Nat) : gInS neg (c :: .lst (l.map nD) :: T) (.int k) (.ref 1) = some (.bl (if neg then !decide (k ∈ l) else decide (k ∈ l))) := y_inR rfl neg k
theorem map_nD_app (l : List Nat) (k : Nat) : l.map nD ++ [.int (k : Int)] = (l ++ [k]).map nD := by simp
/-! ### places of rows of numbers -/
theorem atI_map {α : Type} (f : α → D) (l : List α) (k : Nat) : atI (l.map f) (k : Int) = (l[k]?).map f := by
  rw [atI_nat, List.getElem?_map]
theorem atI_nD {l : List Nat} {k : Nat} (h : k < l.length) : atI (l.map nD) (k : Int) = some (.int (l[k] : Nat)) := by
  rw [atI_map, List.getElem?_eq_getElem h]
  rfl
theorem rngD1 (n : Nat) : rngD 1 1 n = (List.range n).map fun k => .int ((k + 1 : Nat) : Int) := by
  unfold rngD
  refine List.map_congr_left fun k _ => ?_
  congr 1
  omega
theorem rng2_1 {n : Nat} (h : n ≤ 1000000) : rng2 [.int 1, .int (n : Int)] = some ((List.range (n - 1)).map fun k => .int ((k + 1 : Nat) : Int)) := by
  have e : ((n : Int) - 1).toNat = n - 1 := by omega
  have e1 : lim62 1 = true := by decide
  simp only [rng2, lim62_nat h, e1, e, rngD1]
  rfl
/-! ### lots -/
def lotD (l : List Nat) : D := .tup (l.map nD)
@[simp] theorem nr_lotD (l : List Nat) : nr (lotD l) = true := by simp [lotD]
@[simp] theorem q_lotD (S : Sto) (l : List Nat) : seqD S (lotD l) = some (l.map nD) := (rfl)
@[simp] theorem qv_lotD (l : List Nat) : seqV (lotD l) = some (l.map nD) := (rfl)
@[simp] theorem ok_lotD (n : Nat) (l : List Nat) : okD (n + 1) (lotD l) = true := by simp [lotD]
@[simp] theorem y_inLot (neg : Bool) (S : Sto) (k : Nat) (l : List Nat) : gInS neg S (.int k) (lotD l) = some (.bl (if neg then !decide (k ∈ l) else decide (k ∈ l))) := y_inT neg S k l
@[simp] theorem nrs_lots {ls : List (List Nat)} : nrs (ls.map lotD) = true := by simp
theorem eqD_lot (a b : List Nat) : eqD (lotD a) (lotD b) = decide (a = b) := by
  show eqDs _ _ = _
  exact eqDs_nD a b
theorem y_eqLot (S : Sto) (a b : List Nat) : gEq S (lotD a) (lotD b) = some (.bl (decide (a = b))) := by
  rw [y_eq (by simp) (by simp), eqD_lot]
theorem inD_lots (k : List Nat) (ls : List (List Nat)) : inD (lotD k) (ls.map lotD) = decide (k ∈ ls) := by
  induction ls with
  | nil => rfl
  | cons x l ih =>
    unfold inD at ih ⊢
    simp only [List.map_cons, List.any_cons, ih, eqD_lot, List.mem_cons]
    by_cases h : k = x
    · subst h; simp
    · have h' : ¬ (x = k) := fun e => h e.symm
      simp [h, h']
@[simp] theorem y_inLots (neg : Bool) (S : Sto) (k : List Nat) (ls : List (List Nat)) : gInS neg S (lotD k) (.tup (ls.map lotD)) = some (.bl (if neg then !decide (k ∈ ls) else decide (k ∈ ls))) := by
  unfold gInS
  rw [fo_ok (by simp), fo_ok (by rw [ok_tup]; simp)]
  simp only [Option.bind_some, inD_lots]
@[simp] theorem y_inLotsL (neg : Bool) (S : Sto) (k : List Nat) (ls : List (List Nat)) : gInS neg S (lotD k) (.lst (ls.map lotD)) = some (.bl (if neg then !decide (k ∈ ls) else decide (k ∈ ls))) := by
  unfold gInS
  rw [fo_ok (by simp), fo_ok (by rw [ok_lst]; simp)]
  simp only [Option.bind_some, inD_lots]
def LotOk (m : Nat) (l : List Nat) : Prop := l.Pairwise (· < ·) ∧ ∀ x ∈ l, x < m
theorem LotOk.len {m : Nat} {l : List Nat} (h : LotOk m l) : l.length ≤ m := by
  have nd : l.Nodup := h.1.imp fun {a b} z => Nat.ne_of_lt z
  have := List.Nodup.length_le_of_subset (l₂ := List.range m) nd fun x hx => List.mem_range.mpr (h.2 x hx)
  simpa using this
theorem LotOk.nil (m : Nat) : LotOk m [] := ⟨List.Pairwise.nil, fun _ h => by simp at h⟩
theorem LotOk.mono {m k : Nat} {l : List Nat} (h : LotOk m l) (hk : m ≤ k) : LotOk k l := ⟨h.1, fun x hx => Nat.lt_of_lt_of_le (h.2 x hx) hk⟩
theorem pw_le_ext {l k : List Nat} (h1 : l.Pairwise (· < ·)) (h2 : k.Pairwise (· < ·)) (h : ∀ x, x ∈ l ↔ x ∈ k) : l = k := by
  have nd1 : l.Nodup := h1.imp fun {a b} z => Nat.ne_of_lt z
  have nd2 : k.Nodup := h2.imp fun {a b} z => Nat.ne_of_lt z
  refine List.Perm.eq_of_pairwise (le := fun a b => a < b) (fun a b _ _ x y => absurd x (by omega)) h1 h2 ?_
  exact (List.perm_ext_iff_of_nodup nd1 nd2).mpr h
def ins2 (ρ : Rho) (S : Sto) (c : Nat × List D) (d : D) : D → Option (Fl × Rho × Sto)
  | .int i => if small c.2.length && decide (0 ≤ i) && decide (i < 2 ^ 62) then some (.nx, ρ, S.set c.1 (.lst (c.2.take i.toNat ++ [d] ++ c.2.drop i.toNat))) else none
  | _ => none
@[simp] theorem x_sIns (fo f g : E) (ρ : Rho) (S : Sto) : sIns fo f g ρ S = (fo ρ S).bind fun o => (f ρ S).bind fun i => (g ρ S).bind fun d => (cellD S o).bind fun c => ins2 ρ S c d i := by
  unfold sIns ins2
  rfl
theorem ins2_nat (ρ : Rho) (S : Sto) (n : Nat) (ds : List D) (d : D) {k : Nat} (h : ds.length ≤ 1000000) (hk : k ≤ 1000000) : ins2 ρ S (n, ds) d (.int (k : Int)) = some (.nx, ρ, S.set n (.lst (ds.take k ++ [d] ++ ds.drop k))) := by
  have h2 : ((k : Nat) : Int) < 4611686018427387904 := by omega
  simp [ins2, h, h2]
theorem perm_sorted {α : Type} (emb : α → D) (l : List α) : ∃ m : List α, m.Perm l ∧ sortD (l.map emb) = m.map emb :=
  perm_map_inv emb (sortD_perm (l.map emb)) l rfl
theorem k_sorted {S : Sto} {x : D} {xs : List D} (h : seqD S x = some xs) (g : gdS xs = true) : cSorted S [x] = some (sortD xs) := by
  simp [cSorted, h, g]
def pairD (p : Nat × Nat) : D := .tup [nD p.1, nD p.2]
@[simp] theorem q_pairD (S : Sto) (p : Nat × Nat) : seqD S (pairD p) = some [.int p.1, .int p.2] := (rfl)
@[simp] theorem nr_pairD (p : Nat × Nat) : nr (pairD p) = true := (rfl)
theorem gdS_map {α : Type} (emb : α → D) (l : List α) (h1 : ∀ a, okD 60 (emb a) = true) (h2 : ∀ a, isNon (emb a) = false) (h3 : ∀ a b, alkD (emb a) (emb b) = true) : gdS (l.map emb) = true := by
  simp [gdS, h1, h2, h3]
theorem gdS_pairs (l : List (Nat × Nat)) : gdS (l.map pairD) = true :=
  gdS_map _ _ (fun a => by simp [pairD]) (fun a => rfl) (fun a b => by simp [alkD, pairD, toP, toPs, PySem.W.alike, PySem.W.alikeAll])
theorem gdS_nats (l : List Nat) : gdS (l.map nD) = true :=
  gdS_map _ _ (fun a => by simp) (fun a => rfl) (fun a b => by simp [alkD, toP, PySem.W.alike])
theorem alkAll_nats : ∀ a b : List Nat, PySem.W.alikeAll (toPs (a.map nD)) (toPs (b.map nD)) = true
  | [], _ => by simp [toPs, PySem.W.alikeAll]
  | _ :: _, [] => by simp [toPs, PySem.W.alikeAll]
  | x :: a, y :: b => by
    have ih := alkAll_nats a b
    simp only [List.map_cons, toPs, PySem.W.alikeAll, ih, Bool.and_true]
    simp [toP, PySem.W.alike]
theorem gdS_lots (l : List (List Nat)) : gdS (l.map lotD) = true :=
  gdS_map _ _ (fun a => by simp) (fun a => rfl) (fun a b => by
    show PySem.W.alike (.tuple (toPs (a.map nD))) (.tuple (toPs (b.map nD))) = true
    simp only [PySem.W.alike]
    exact alkAll_nats a b)
theorem map_idx {α : Type} (l : List α) (f : Nat → D) (g : α → Nat → D) (h : ∀ k (hk : k < l.length), f k = g l[k] k) : (List.range l.length).map f = l.zipIdx.map fun p => g p.1 p.2 := by
  apply List.ext_getElem
  · simp
  · intro k h1 h2
    simp at h1
    simp [h k h1]
theorem cut_take (ds : List D) (k : Nat) : cutD ds none (some (k : Int)) = ds.take k := by
  unfold cutD
  rw [HT.sIx_none, HT.sIx_nat, List.drop_zero, Nat.sub_zero]
  exact (List.take_eq_take_min ..).symm
theorem cut_drop (ds : List D) (k : Nat) : cutD ds (some (k : Int)) none = ds.drop k := by
  unfold cutD
  rw [HT.sIx_none, HT.sIx_nat]
  by_cases h : k ≤ ds.length
  · rw [Nat.min_eq_left h, List.take_of_length_le (by simp)]
  · rw [Nat.min_eq_right (by omega), List.drop_length, List.drop_eq_nil_of_le (by omega)]
    simp
theorem ltD_int (a b : Int) : ltD (.int a) (.int b) = decide (a < b) := by
  unfold ltD toP
  exact PySem.W.dataLt_int ..
theorem sort_nats {F : List Nat} (nd : F.Nodup) : ∃ G : List Nat, sortD (F.map nD) = G.map nD ∧ G.Perm F ∧ G.Pairwise (· < ·) := by
  obtain ⟨G, p, e⟩ := perm_sorted nD F
  refine ⟨G, e, p, ?_⟩
  have pw := sortD_pw (F.map nD)
  rw [e, List.pairwise_map] at pw
  have nd' : G.Nodup := p.nodup_iff.mpr nd
  refine (pw.and nd').imp fun {a b} h => ?_
  have h1 : ltD (.int (b : Int)) (.int (a : Int)) = false := h.1
  rw [ltD_int] at h1
  have h2 := of_decide_eq_false h1
  have h3 := h.2
  omega
/-- while -/
theorem while_inv {t : EB} {body : T} (P : Nat → Rho → Sto → Prop) (Q : Rho → Sto → Prop)
    (step : ∀ n ρ S, P n ρ S → (t ρ S = some false ∧ Q ρ S) ∨ (t ρ S = some true ∧ ∃ fl ρ' S' n', body ρ S = some (fl, ρ', S') ∧ (fl = .nx ∨ fl = .ct) ∧ n' < n ∧ P n' ρ' S')) :
    ∀ {n : Nat} {ρ : Rho} {S : Sto}, P n ρ S → ∃ ρ' S', sWhile t body ρ S = some (.nx, ρ', S') ∧ Q ρ' S' := by
  have main : ∀ (n : Nat) (ρ : Rho) (S : Sto), P n ρ S → ∃ k ρ' S', whileN t body k ρ S = some (.nx, ρ', S') ∧ Q ρ' S' := by
    intro n
    induction n using Nat.strongRecOn with
    | ind n ih =>
      intro ρ S h
      rcases step n ρ S h with ⟨h1, h2⟩ | ⟨h1, fl, ρ1, S1, n1, h2, h3, h4, h5⟩
      · exact ⟨1, ρ, S, by simp [whileN, h1], h2⟩
      · obtain ⟨k, ρ', S', h6, h7⟩ := ih n1 h4 ρ1 S1 h5
        refine ⟨k + 1, ρ', S', ?_, h7⟩
        simp only [whileN, h1, Option.bind_some, if_true, h2]
        rcases h3 with rfl | rfl
        · exact h6
        · exact h6
  intro n ρ S h
  obtain ⟨k, ρ', S', h1, h2⟩ := main n ρ S h
  exact ⟨ρ', S', sWhile_of h1, h2⟩
def rgA : D → Option (List D)
  | .int n => if lim62 n && small n.toNat then some (rngD 0 1 n.toNat) else none
  | _ => none
@[simp] theorem x_rg1 (f : E) (ρ : Rho) (S : Sto) : rg1 f ρ S = (f ρ S).bind rgA := (rfl)
@[simp] theorem x_eTupL (f : EL) (ρ : Rho) (S : Sto) : eTupL f ρ S = (f ρ S).map .tup := (rfl)
theorem rgA_nat {n : Nat} (h : n ≤ 1000000) : rgA (.int (n : Int)) = some ((List.range n).map nD) := by
  have e : ((n : Int)).toNat = n := by omega
  simp only [rgA, lim62_nat h, e, rngD0, small_eq, h, decide_true, Bool.and_self, if_true]
@[simp] theorem y_rep1 (S : Sto) (ds : List D) : gMulA S (.tup ds) (.int 1) = some (.tup ds) := (rfl)
theorem y_rep0 (S : Sto) (d : D) (ds : List D) : gMulA S (.tup (d :: ds)) (.int 0) = some (.tup []) := (rfl)
theorem y_neP (S : Sto) (a b c d : List Nat) : gNe S (.tup [lotD a, lotD b]) (.tup [lotD c, lotD d]) = some (.bl (!(decide (a = c) && decide (b = d)))) := by
  rw [y_ne (by simp) (by simp)]
  simp [eqD, eqDs, eqD_lot]
/-! ### a body step by step -/
def Ret (b : T) (ρ : Rho) (S : Sto) (d : D) : Prop := (b ρ S).bind fin1 = some d
section
variable {f : E} {fl : EL} {g a b : T} {t : EB} {ρ : Rho} {S : Sto} {d x : D} {i : Nat}
theorem ret_set (h : f ρ S = some x) (k : Ret g (ρ.set i (some x)) S d) : Ret (sSeq (sSet i f) g) ρ S d := by
  unfold Ret at k ⊢
  rw [x_sSeq, x_sSet, h]
  exact k
theorem ret_drop (h : f ρ S = some x) (k : Ret g ρ S d) : Ret (sSeq (sDrop f) g) ρ S d := by
  unfold Ret at k ⊢
  rw [x_sSeq, x_sDrop, h]
  exact k
theorem ret_if0 (h : t ρ S = some false) (k : Ret g ρ S d) : Ret (sSeq (sIf t a sSkip) g) ρ S d := by
  unfold Ret at k ⊢
  rw [x_sSeq, x_sIf, h]
  exact k
theorem ret_ret (h : f ρ S = some x) (k : fz S x = some d) : Ret (sRet f) ρ S d := by
  unfold Ret
  rw [x_sRet, h]
  exact k
theorem ret_run {n : Nat} {ds : List D} (k : Ret b (startR n ds) [] d) : runD b n ds = some d := by
  rw [run_eq]
  exact k
end
end DL

set_option maxHeartbeats 4000000
namespace DL
open PySem PySem.Spec L2
/-! ### plain: dicts with keys that are whole numbers -/
def dkD (kv : List (Nat × D)) : List D := kv.map fun p => .int (p.1 : Int)
def dvD (kv : List (Nat × D)) : List D := kv.map (·.2)
theorem eqD_nat (a b : Nat) : eqD (.int (a : Int)) (.int (b : Int)) = decide (a = b) := by
  have := keyD_inj (a := .inl (a : Int)) (b := .inl (b : Int))
  have e : eqD (.int (a : Int)) (.int (b : Int)) = decide ((Sum.inl (a : Int) : Key) = Sum.inl (b : Int)) := this
  rw [e]
  by_cases h : a = b
  · simp [h]
  · have : ¬ ((a : Int) = (b : Int)) := by omega
    simp [h, this]
theorem lookD_nat (k : Nat) : ∀ kv : List (Nat × D), lookD (dkD kv) (dvD kv) (.int k) = kv.lookup k
  | [] => rfl
  | p :: kv => by
    have ih := lookD_nat k kv
    have st : lookD (dkD (p :: kv)) (dvD (p :: kv)) (.int (k : Int)) = if eqD (.int (p.1 : Int)) (.int (k : Int)) then some p.2 else lookD (dkD kv) (dvD kv) (.int (k : Int)) := rfl
    rw [st, ih, eqD_nat]
    obtain ⟨a, b⟩ := p
    by_cases h : a = k
    · subst h; simp [List.lookup_cons]
    · have h2 : (k == a) = false := by simp; omega
      rw [decide_eq_false h, if_neg (by decide), List.lookup_cons, h2]
theorem hasD_nat (k : Nat) (kv : List (Nat × D)) : hasD (dkD kv) (.int k) = decide (k ∈ kv.map (·.1)) := by
  induction kv with
  | nil => rfl
  | cons p kv ih =>
    unfold hasD dkD at ih ⊢
    simp only [List.map_cons, List.any_cons, ih, eqD_nat, List.mem_cons]
    by_cases h : k = p.1
    · subst h; simp
    · have h' : ¬ (p.1 = k) := fun e => h e.symm
      simp [h, h']
@[simp] theorem keyT_nat (k : Int) : keyT false (.int k) = true := (rfl)
def natDic (kv : List (Nat × D)) : Cell := .dic false (dkD kv) (dvD kv)
def natDicD (kv : List (Nat × D)) : D := .dic false (dkD kv) (dvD kv)
theorem z_get {S : Sto} {d : D} {kv : List (Nat × D)} (h : dicD S d = some (false, dkD kv, dvD kv)) (k : Nat) : gDGet S d (.int k) = kv.lookup k := by
  simp only [gDGet, h, Option.bind_some, keyT_nat, if_true]
  exact lookD_nat k kv
theorem z_in {S : Sto} {d : D} {kv : List (Nat × D)} (h : dicD S d = some (false, dkD kv, dvD kv)) (neg : Bool) (k : Nat) : gDIn neg S (.int k) d = some (.bl (if neg then !decide (k ∈ kv.map (·.1)) else decide (k ∈ kv.map (·.1)))) := by
  simp only [gDIn, h, Option.bind_some, keyT_nat, if_true]
  rw [hasD_nat]
@[simp] theorem dic_ref0 (kv : List (Nat × D)) (T : Sto) : dicD (natDic kv :: T) (.ref 0) = some (false, dkD kv, dvD kv) := (rfl)
@[simp] theorem dic_val (S : Sto) (kv : List (Nat × D)) : dicD S (natDicD kv) = some (false, dkD kv, dvD kv) := (rfl)
@[simp] theorem z_get0 (kv : List (Nat × D)) (T : Sto) (k : Nat) : gDGet (natDic kv :: T) (.ref 0) (.int k) = kv.lookup k := z_get rfl k
@[simp] theorem z_getV (S : Sto) (kv : List (Nat × D)) (k : Nat) : gDGet S (natDicD kv) (.int k) = kv.lookup k := z_get rfl k
@[simp] theorem z_in0 (neg : Bool) (kv : List (Nat × D)) (T : Sto) (k : Nat) : gDIn neg (natDic kv :: T) (.int k) (.ref 0) = some (.bl (if neg then !decide (k ∈ kv.map (·.1)) else decide (k ∈ kv.map (·.1)))) := z_in rfl neg k
@[simp] theorem z_inV (neg : Bool) (S : Sto) (kv : List (Nat × D)) (k : Nat) : gDIn neg S (.int k) (natDicD kv) = some (.bl (if neg then !decide (k ∈ kv.map (·.1)) else decide (k ∈ kv.map (·.1)))) := z_in rfl neg k
@[simp] theorem z_lenV (S : Sto) (kv : List (Nat × D)) : cLenK S [natDicD kv] = some (.int (kv.length : Nat)) := by
  simp [cLenK, dkD]
theorem x_sNewD1 (i : Nat) (fk fv : E) (ρ : Rho) (S : Sto) : sNewD1 i fk fv ρ S = (fk ρ S).bind fun k => (fv ρ S).bind fun v => if keyT false k then some (.nx, ρ.set i (some (.ref S.length)), S ++ [.dic false [k] [v]]) else none := (rfl)
/-- d[k] = v, k new -/
theorem z_put {f fo fi : E} {ρ : Rho} {S : Sto} {n : Nat} {kv : List (Nat × D)} {k : Nat} {v : D} (h1 : f ρ S = some v) (h2 : fo ρ S = some (.ref n)) (h3 : fi ρ S = some (.int (k : Nat))) (h4 : S[n]? = some (natDic kv)) (h5 : k ∉ kv.map (·.1)) (h6 : kv.length ≤ 1000000) :
    sDPutD f fo fi ρ S = some (.nx, ρ, S.set n (natDic (kv ++ [(k, v)]))) := by
  have hd : dcell S (.ref n) = some (n, false, dkD kv, dvD kv) := by
    simp only [dcell, h4]
    rfl
  have hl : (dkD kv).length = kv.length := by simp [dkD]
  have hh : hasD (dkD kv) (.int (k : Nat)) = false := by rw [hasD_nat]; exact decide_eq_false h5
  unfold sDPutD
  simp only [h1, h2, h3, hd, Option.bind_some, keyT_nat, hl, small_eq, decide_eq_true h6, Bool.and_self, if_true, hh]
  simp [natDic, dkD, dvD]
end DL

set_option maxHeartbeats 4000000
namespace DL
open PySem PySem.Spec L2
/-! ### plain: objects, defs that change things, places of lists -/
section
variable {ρ : Rho} {S : Sto}
theorem ixN_nat {n k : Nat} (h : k < n) : ixN n (k : Int) = some k := by
  unfold ixN
  rw [if_pos (by omega), if_pos (by omega)]
  simp
def putN (ρ : Rho) (S : Sto) (d : D) (c : Nat × List D) : D → Option (Fl × Rho × Sto)
  | .int k => (ixN c.2.length k).map fun j => (.nx, ρ, S.set c.1 (.lst (c.2.set j d)))
  | _ => none
@[simp] theorem x_sPut (f fo fi : E) : sPut f fo fi ρ S = (f ρ S).bind fun d => (fo ρ S).bind fun o => (fi ρ S).bind fun i => (cellD S o).bind fun c => putN ρ S d c i := by
  unfold sPut putN
  rfl
theorem whileN_step {t : EB} {body : T} {k : Nat} {ρ ρ1 : Rho} {S S1 : Sto} {r : Option (Fl × Rho × Sto)} (h1 : t ρ S = some true) (h2 : body ρ S = some (.nx, ρ1, S1)) (h3 : whileN t body k ρ1 S1 = r) : whileN t body (k + 1) ρ S = r := by
  simp only [whileN, h1, h2, Option.bind_some, if_true]
  exact h3
theorem ret_seq {f g : T} {ρ ρ1 : Rho} {S S1 : Sto} {d : D} (h : f ρ S = some (.nx, ρ1, S1)) (k : Ret g ρ1 S1 d) : Ret (sSeq f g) ρ S d := by
  unfold Ret at k ⊢
  rw [x_sSeq, h]
  exact k
theorem seq_nx {f g : T} {ρ ρ1 : Rho} {S S1 : Sto} {r : Option (Fl × Rho × Sto)} (h : f ρ S = some (.nx, ρ1, S1)) (k : g ρ1 S1 = r) : sSeq f g ρ S = r := by
  rw [x_sSeq, h]
  exact k
theorem seq_rt {f g : T} {ρ ρ1 : Rho} {S S1 : Sto} {d : D} (h : f ρ S = some (.rt d, ρ1, S1)) : sSeq f g ρ S = some (.rt d, ρ1, S1) := by
  rw [x_sSeq, h]
  rfl
theorem if_t {t : EB} {f g : T} {ρ : Rho} {S : Sto} {r : Option (Fl × Rho × Sto)} (h : t ρ S = some true) (k : f ρ S = r) : sIf t f g ρ S = r := by
  rw [x_sIf, h]
  exact k
theorem if_f {t : EB} {f g : T} {ρ : Rho} {S : Sto} {r : Option (Fl × Rho × Sto)} (h : t ρ S = some false) (k : g ρ S = r) : sIf t f g ρ S = r := by
  rw [x_sIf, h]
  exact k
theorem ret_rt {f g : T} {ρ ρ1 : Rho} {S S1 : Sto} {d x : D} (h : f ρ S = some (.rt x, ρ1, S1)) (k : fz S1 x = some d) : Ret (sSeq f g) ρ S d := by
  unfold Ret
  rw [x_sSeq, h]
  exact k
theorem ret_ifT {t : EB} {a g : T} {d : D} (h : t ρ S = some true) (k : Ret a ρ S d) (hr : ∀ ρ1 S1, a ρ S ≠ some (.nx, ρ1, S1)) : Ret (sSeq (sIf t a sSkip) g) ρ S d := by
  unfold Ret at k ⊢
  rw [x_sSeq, x_sIf, h]
  simp only [Option.bind_some, if_true]
  cases e : a ρ S with
  | none => rw [e] at k; cases k
  | some r =>
    obtain ⟨fl, ρ1, S1⟩ := r
    rw [e] at k
    cases fl with
    | nx => exact absurd e (hr ρ1 S1)
    | bk => simpa using k
    | ct => simpa using k
    | rt d => simpa using k
    | rf d => simpa using k
@[simp] theorem x_sSetS (i : Nat) (f : ES) : sSetS i f ρ S = (f ρ S).map fun r => (.nx, ρ.set i (some r.1), r.2) := (rfl)
@[simp] theorem x_sDropS (f : ES) : sDropS f ρ S = (f ρ S).map fun r => (.nx, ρ, r.2) := (rfl)
@[simp] theorem x_sRetS (f : ES) : sRetS f ρ S = (f ρ S).map fun r => (.rt r.1, ρ, r.2) := (rfl)
@[simp] theorem x_esE (f : E) : esE f ρ S = (f ρ S).map fun d => (d, S) := (rfl)
@[simp] theorem x_e2S (g : Sto → D → D → Option D) (a b : ES) : e2S g a b ρ S = (a ρ S).bind fun x => (b ρ x.2).bind fun y => (g y.2 x.1 y.1).map fun d => (d, y.2) := (rfl)
@[simp] theorem x_sAttr (c f : Str) (fv fo : E) : sAttr c f fv fo ρ S = (fv ρ S).bind fun d => (fo ρ S).bind fun o => (ocell S o).bind fun p => (putO c f d p).map fun w => (.nx, ρ, S.set p.1 w) := (rfl)
@[simp] theorem x_sAttrS (c f : Str) (fv : ES) (fo : E) : sAttrS c f fv fo ρ S = (fv ρ S).bind fun d => (fo ρ d.2).bind fun o => (ocell d.2 o).bind fun p => (putO c f d.1 p).map fun w => (.nx, ρ, d.2.set p.1 w) := (rfl)
@[simp] theorem x_sAttrN (c f : Str) (fc : EC) (fo : E) : sAttrN c f fc fo ρ S = (fc ρ S).bind fun cs => (fo ρ (S ++ cs)).bind fun o => (ocell (S ++ cs) o).bind fun p => (putO c f (.ref S.length) p).map fun w => (.nx, ρ, (S ++ cs).set p.1 w) := (rfl)
@[simp] theorem x_sNewN (i : Nat) (fc : EC) : sNewN i fc ρ S = (fc ρ S).map fun cs => (.nx, ρ.set i (some (.ref S.length)), S ++ cs) := (rfl)
@[simp] theorem x_cL (fl : EL) : cL fl ρ S = (fl ρ S).map fun ds => [.lst ds] := (rfl)
@[simp] theorem x_cD (t : Bool) : cD t ρ S = some [.dic t [] []] := (rfl)
@[simp] theorem x_rE (f : E) : rE f ρ S = (f ρ S).map .inl := (rfl)
@[simp] theorem x_rF (f : EL) : rF f ρ S = (f ρ S).map .inr := (rfl)
@[simp] theorem x_rIf (t : EB) (a b : ER) : rIf t a b ρ S = (t ρ S).bind fun k => if k then a ρ S else b ρ S := (rfl)
@[simp] theorem x_fRev (f : E) : fRev f ρ S = (f ρ S).bind fun d => (lstD S d).map List.reverse := (rfl)
@[simp] theorem y_revT (ds : List D) : gRevT S (.tup ds) = some (.tup ds.reverse) := (rfl)
theorem cLL_eq {f : EL} {c0 : Cell} {ds : List D} (h : f ρ S = some ds) (hl : ds.length ≤ 1000000) : cLL f c0 ρ S = some (.lst ((List.range ds.length).map fun k => .ref (S.length + 1 + k)) :: List.replicate ds.length c0) := by
  unfold cLL
  rw [h]
  exact if_pos (decide_eq_true hl)
/-! calls -/
theorem mP_nr {c m : Str} {g : List D → Option D} {fo : E} {fs : EL} {o : D} {fs0 : List Str} {vs ds : List D} (h1 : fo ρ S = some o) (h2 : objD S o = some (c, fs0, vs)) (h3 : noF fs0 m = true) (h4 : fs ρ S = some ds) (h5 : nrs (o :: ds) = true) :
    mP c m g fo fs ρ S = g (o :: ds) := by
  unfold mP
  simp only [h1, h2, Option.bind_some, true_and, if_pos h3, h4, if_pos h5]
theorem mP_fz {c m : Str} {g : List D → Option D} {fo : E} {fs : EL} {o r : D} {fs0 : List Str} {vs ds es : List D} (h1 : fo ρ S = some o) (h2 : objD S o = some (c, fs0, vs)) (h3 : noF fs0 m = true) (h4 : fs ρ S = some ds) (h5 : nrs (o :: ds) = false) (h6 : fzs S (o :: ds) = some es)
    (h7 : g es = some r) (h8 : imm r = true) : mP c m g fo fs ρ S = some r := by
  unfold mP
  simp only [h1, h2, Option.bind_some, true_and, if_pos h3, h4]
  rw [if_neg (by rw [h5]; decide), h6]
  simp only [Option.bind_some, h7, if_pos h8]
theorem mF_nr {c m : Str} {g : List D → Option (List D)} {fo : E} {fs : EL} {o : D} {fs0 : List Str} {vs ds : List D} (h1 : fo ρ S = some o) (h2 : objD S o = some (c, fs0, vs)) (h3 : noF fs0 m = true) (h4 : fs ρ S = some ds) (h5 : nrs (o :: ds) = true) :
    mF c m g fo fs ρ S = g (o :: ds) := by
  unfold mF
  simp only [h1, h2, Option.bind_some, true_and, if_pos h3, h4, if_pos h5]
theorem mF_fz {c m : Str} {g : List D → Option (List D)} {fo : E} {fs : EL} {o : D} {r : List D} {fs0 : List Str} {vs ds es : List D} (h1 : fo ρ S = some o) (h2 : objD S o = some (c, fs0, vs)) (h3 : noF fs0 m = true) (h4 : fs ρ S = some ds) (h5 : nrs (o :: ds) = false) (h6 : fzs S (o :: ds) = some es)
    (h7 : g es = some r) (h8 : imms r = true) : mF c m g fo fs ρ S = some r := by
  unfold mF
  simp only [h1, h2, Option.bind_some, true_and, if_pos h3, h4]
  rw [if_neg (by rw [h5]; decide), h6]
  simp only [Option.bind_some, h7, if_pos h8]
theorem mS_eq {c m : Str} {g : SF} {fo : E} {fs : EL} {o : D} {fs0 : List Str} {vs ds : List D} (h1 : fo ρ S = some o) (h2 : objD S o = some (c, fs0, vs)) (h3 : noF fs0 m = true) (h4 : fs ρ S = some ds) : mS c m g fo fs ρ S = g (o :: ds) S := by
  unfold mS
  simp only [h1, h2, Option.bind_some, true_and, if_pos h3, h4]
theorem mk_eq {c : Str} {g : SF} {fs : EL} {ds : List D} {S' : Sto} (h1 : fs ρ S = some ds) (h2 : g (.ref S.length :: ds) (S ++ [.ins c [] []]) = some (.non, S')) : mk c g fs ρ S = some (.ref S.length, S') := by
  unfold mk
  simp only [h1, h2, Option.bind_some]
theorem mkV_eq {c : Str} {g : SF} {fs : EL} {ds : List D} {S' : Sto} {d : D} (h1 : fs ρ S = some ds) (h2 : nrs ds = true) (h3 : g (.ref 0 :: ds) [.ins c [] []] = some (.non, S')) (h4 : fz S' (.ref 0) = some d) : mkV c g fs ρ S = some d := by
  unfold mkV
  simp only [h1, h2, h3, h4, Option.bind_some, if_true]
/-- a def that changes things, that leaves as many cells as there were -/
theorem runS_nx {b : T} {n : Nat} {ds : List D} {S1 : Sto} {ρ1 : Rho} (h : b (startR n ds) S = some (.nx, ρ1, S1)) (hl : S1.length ≤ S.length) : runS b n ds S = some (.non, S1) := by
  unfold runS
  simp only [h, Option.bind_some, finS, if_pos hl]
theorem runS_rt {b : T} {n : Nat} {ds : List D} {S1 : Sto} {ρ1 : Rho} {d : D} (h : b (startR n ds) S = some (.rt d, ρ1, S1)) (hl : S1.length ≤ S.length) : runS b n ds S = some (d, S1) := by
  unfold runS
  simp only [h, Option.bind_some, finS, if_pos hl]
theorem runS_cut {b : T} {n : Nat} {ds : List D} {S1 : Sto} {ρ1 : Rho} {d : D} (h : b (startR n ds) S = some (.rt d, ρ1, S1)) (hl : S.length < S1.length) (hr : nr d = true) (hc : (S1.take S.length).all (rbC S.length) = true) : runS b n ds S = some (d, S1.take S.length) := by
  unfold runS
  have : ¬ S1.length ≤ S.length := by omega
  simp only [h, Option.bind_some, finS, if_neg this, finK, if_pos hc, if_pos hr]
theorem runF_rf {b : T} {n : Nat} {ds es : List D} {S1 : Sto} {ρ1 : Rho} (h : b (startR n ds) [] = some (.rf es, ρ1, S1)) (hn : nrs es = true) : runF b n ds = some es := by
  unfold runF
  simp only [h, Option.bind_some, if_pos hn]
theorem runF_rt {b : T} {n m : Nat} {ds es : List D} {S1 : Sto} {ρ1 : Rho} (h : b (startR n ds) [] = some (.rt (.ref m), ρ1, S1)) (hm : S1[m]? = some (.lst es)) (hn : nrs es = true) : runF b n ds = some es := by
  unfold runF
  simp only [h, Option.bind_some, hm, if_pos hn]
theorem fz_ins {S : Sto} {n : Nat} {c : Str} {fs : List Str} {vs es : List D} (h : S[n]? = some (.ins c fs vs)) (h2 : vs.mapM (frz 5 S) = some es) : fz S (.ref n) = some (.ins c fs es) := by
  have e : fz S (.ref n) = frz 6 S (.ref n) := if_neg (by simp)
  rw [e]
  show frzS _ (.ref n) = _
  simp only [frzS, h, Option.bind_some, h2, Option.map_some]
theorem frz_lst {S : Sto} {n k : Nat} {ds es : List D} (h : S[n]? = some (.lst ds)) (h2 : ds.mapM (frz k S) = some es) : frz (k + 1) S (.ref n) = some (.lst es) := by
  show frzS _ (.ref n) = _
  simp only [frzS, h, Option.bind_some, h2, Option.map_some]
theorem frz_dic {S : Sto} {n k : Nat} {t : Bool} {ks vs es : List D} (h : S[n]? = some (.dic t ks vs)) (h2 : vs.mapM (frz k S) = some es) : frz (k + 1) S (.ref n) = some (.dic t ks es) := by
  show frzS _ (.ref n) = _
  simp only [frzS, h, Option.bind_some, h2, Option.map_some]
theorem frz_ins {S : Sto} {n k : Nat} {c : Str} {fs : List Str} {vs es : List D} (h : S[n]? = some (.ins c fs vs)) (h2 : vs.mapM (frz k S) = some es) : frz (k + 1) S (.ref n) = some (.ins c fs es) := by
  show frzS _ (.ref n) = _
  simp only [frzS, h, Option.bind_some, h2, Option.map_some]
theorem frz_lst0 {S : Sto} {n k : Nat} {ds : List D} (h : S[n]? = some (.lst ds)) (h2 : nrs ds = true) : frz (k + 1) S (.ref n) = some (.lst ds) :=
  frz_lst h (mapM_id fun d m => frz_nr k S (nrs_all.mp h2 d m))
theorem frz_dic0 {S : Sto} {n k : Nat} {t : Bool} {ks vs : List D} (h : S[n]? = some (.dic t ks vs)) (h2 : nrs vs = true) : frz (k + 1) S (.ref n) = some (.dic t ks vs) :=
  frz_dic h (mapM_id fun d m => frz_nr k S (nrs_all.mp h2 d m))
theorem mapM_cons' {α β : Type} {g : α → Option β} {a : α} {l : List α} {b : β} {r : List β} (h1 : g a = some b) (h2 : l.mapM g = some r) : (a :: l).mapM g = some (b :: r) := by
  rw [List.mapM_cons, h1, h2]
  rfl
theorem mapM_map {α β γ : Type} {g : β → Option γ} {f : α → β} {h : α → γ} : ∀ {l : List α}, (∀ a ∈ l, g (f a) = some (h a)) → (l.map f).mapM g = some (l.map h)
  | [], _ => rfl
  | a :: l, H => mapM_cons' (H a List.mem_cons_self) (mapM_map fun x m => H x (List.mem_cons_of_mem _ m))
end
end DL

set_option maxHeartbeats 4000000
namespace DL
open PySem PySem.Spec L2
mutual
theorem eqD_self : ∀ (n : Nat) (d : D), okD n d = true → eqD d d = true
  | _, .non, _ => rfl
  | _, .bl b, _ => by simp [eqD]
  | _, .int i, _ => by simp [eqD]
  | _, .str s, _ => by simp [eqD]
  | 0, .tup ds, h => by simp [okD] at h
  | n + 1, .tup ds, h => by
    rw [ok_tup] at h
    simp [eqD, eqDs_self n ds h]
  | 0, .lst ds, h => by simp [okD] at h
  | n + 1, .lst ds, h => by
    rw [ok_lst] at h
    simp [eqD, eqDs_self n ds h]
  | n, .ty _, h => by cases n <;> simp [okD] at h
  | n, .dic _ _ _, h => by cases n <;> simp [okD] at h
  | n, .scr _, h => by cases n <;> simp [okD] at h
  | n, .ref _, h => by cases n <;> simp [okD] at h
theorem eqDs_self : ∀ (n : Nat) (ds : List D), okDs n ds = true → eqDs ds ds = true
  | _, [], _ => rfl
  | n, d :: ds, h => by
    rw [oks_cons, Bool.and_eq_true] at h
    simp [eqDs, eqD_self n d h.1, eqDs_self n ds h.2]
end
theorem y_neSelf {S : Sto} {d : D} (h : okD 60 d = true) : gNe S d d = some (.bl false) := by
  rw [y_ne h h, eqD_self 60 d h]; rfl
theorem y_eqSelf {S : Sto} {d : D} (h : okD 60 d = true) : gEq S d d = some (.bl true) := by
  rw [y_eq h h, eqD_self 60 d h]
/-! ### dicts whose keys are lots -/
def kKeys (K : List (List Nat)) : List D := K.map lotD
def kVals (K : List (List Nat)) : List D := K.map fun _ => D.bl true
theorem keysOf_nats : ∀ l : List Nat, keysOf (l.map nD) = some (l.map fun k : Nat => (.inl (k : Int) : Key))
  | [] => rfl
  | a :: l => by
    show ((keyOf (nD a)).bind fun k => (keysOf (l.map nD)).map fun ks => k :: ks) = _
    rw [keysOf_nats l]
    rfl
theorem keyT_lot (l : List Nat) : keyT true (lotD l) = true := by
  show (keysOf (l.map nD)).isSome = true
  rw [keysOf_nats]; rfl
theorem hasD_lots (K : List (List Nat)) (l : List Nat) : hasD (kKeys K) (lotD l) = decide (l ∈ K) := by
  induction K with
  | nil => rfl
  | cons x K ih =>
    unfold hasD kKeys at ih ⊢
    simp only [List.map_cons, List.any_cons, ih, eqD_lot, List.mem_cons]
    by_cases h : l = x
    · subst h; simp
    · have h' : ¬ (x = l) := fun e => h e.symm
      simp [h, h']
theorem putV_lots : ∀ (K : List (List Nat)) (l : List Nat), putV (kKeys K) (kVals K) (lotD l) (.bl true) = kVals K
  | [], l => rfl
  | x :: K, l => by
    have st : putV (kKeys (x :: K)) (kVals (x :: K)) (lotD l) (.bl true) = (if eqD (lotD x) (lotD l) then .bl true else .bl true) :: putV (kKeys K) (kVals K) (lotD l) (.bl true) := rfl
    rw [st, putV_lots K l]
    simp [kVals]
/-- d[lot] = True -/
theorem put_lot {f fo fi : E} {ρ : Rho} {S : Sto} {n : Nat} {K : List (List Nat)} {l : List Nat} (h1 : f ρ S = some (.bl true)) (h2 : fo ρ S = some (.ref n)) (h3 : fi ρ S = some (lotD l)) (h4 : S[n]? = some (.dic true (kKeys K) (kVals K))) (h6 : K.length ≤ 1000000) :
    sDPutD f fo fi ρ S = some (.nx, ρ, S.set n (if l ∈ K then .dic true (kKeys K) (kVals K) else .dic true (kKeys (K ++ [l])) (kVals (K ++ [l])))) := by
  have hd : dcell S (.ref n) = some (n, true, kKeys K, kVals K) := by
    simp only [dcell, h4]
  have hl : (kKeys K).length = K.length := by simp [kKeys]
  unfold sDPutD
  simp only [h1, h2, h3, hd, Option.bind_some, keyT_lot, hl, small_eq, decide_eq_true h6, Bool.and_self, if_true, hasD_lots, putV_lots]
  by_cases h : l ∈ K
  · simp [h]
  · simp [h, kKeys, kVals]
theorem k_sortedK {S : Sto} {x : D} {t : Bool} {ks vs : List D} (h : dicD S x = some (t, ks, vs)) (g : gdS ks = true) : cSortedK S [x] = some (sortD ks) := by
  simp [cSortedK, h, g]
theorem sort_lots_eq {J K : List (List Nat)} (p : J.Perm K) : sortD (J.map lotD) = sortD (K.map lotD) :=
  sortD_uniq (gdS_lots K) ((sortD_perm _).trans (p.map lotD)) (sortD_pw _)
/-! ### comprehensions, one by one -/
theorem fcomp_of {f : EL} {vs : List Nat} {g : G} {t : EB} {e : E} {ρ : Rho} {S : Sto} {α : Type} (emb : α → D) (xs : List α) (p : α → Bool) (h : α → D) (h1 : f ρ S = some (xs.map emb)) (hl : xs.length ≤ 1000000)
    (h2 : ∀ x ∈ xs, ∃ ρ1, g (emb x) (wipeR ρ vs) = some ρ1 ∧ t ρ1 S = some (p x) ∧ (p x = true → e ρ1 S = some (h x))) : fComp f vs g t e ρ S = some ((xs.filter p).map h) := by
  rw [x_fComp, h1, Option.bind_some, compL_map emb p h xs h2, Option.bind_some]
  exact mkL_flt hl
theorem fcomp_all {f : EL} {vs : List Nat} {g : G} {e : E} {ρ : Rho} {S : Sto} {α : Type} (emb : α → D) (xs : List α) (h : α → D) (h1 : f ρ S = some (xs.map emb)) (hl : xs.length ≤ 1000000)
    (h2 : ∀ x ∈ xs, ∃ ρ1, g (emb x) (wipeR ρ vs) = some ρ1 ∧ e ρ1 S = some (h x)) : fComp f vs g bYes e ρ S = some (xs.map h) := by
  rw [x_fComp, h1, Option.bind_some, compL_all emb h xs h2, Option.bind_some]
  exact mkL_map hl
end DL

set_option maxHeartbeats 4000000
namespace DL
open PySem PySem.Spec L2
/-! ### plain: comprehensions of several clauses, dicts with whole numbers as keys -/
section
variable {ρ : Rho} {S : Sto}
@[simp] theorem k_gcd (a b : Int) : cGcd S [.int a, .int b] = some (.int ((Nat.gcd a.natAbs b.natAbs : Nat) : Int)) := (rfl)
@[simp] theorem k_min2 (i j : Int) : cMin2 S [.int i, .int j] = some (.int (if j < i then j else i)) := (rfl)
@[simp] theorem y_divW (i j : Int) : gI (fun _ j => decide (0 < j) && Nat.blt j.natAbs.log2 9000) (fun i j => i / j) S (.int i) (.int j) = if 0 < j ∧ Nat.blt j.natAbs.log2 9000 = true then some (.int (i / j)) else none := by
  simp [gI]
theorem x_eN (fc : EC) : eN fc ρ S = (fc ρ S).bind fun cs => match cs with
  | [.dic t ks vs] => if nrs vs then some (.dic t ks vs) else none
  | _ => none := (rfl)
theorem lst1_dic {fc : EC} {t : Bool} {ks vs : List D} (h : fc ρ S = some [.dic t ks vs]) (hn : nrs vs = true) : cLst1 fc ρ S = some [.lst [.ref (S.length + 1)], .dic t ks vs] := by
  unfold cLst1
  rw [h, Option.bind_some]
  exact if_pos hn
theorem eN_dic {fc : EC} {t : Bool} {ks vs : List D} (h : fc ρ S = some [.dic t ks vs]) (hn : nrs vs = true) : eN fc ρ S = some (.dic t ks vs) := by
  unfold eN
  rw [h, Option.bind_some]
  exact if_pos hn
end
theorem kForL_inv {β : Type} {g : G} {t : EB} {k : Rho → Sto → β → Option β} {ρ : Rho} {S : Sto} : ∀ {ds : List D} {a0 : β} (P : Nat → β → Prop), P 0 a0 →
    (∀ i d a, ds[i]? = some d → P i a → ∃ ρ1 b, g d ρ = some ρ1 ∧ t ρ1 S = some b ∧ ∃ a', (if b then k ρ1 S a else some a) = some a' ∧ P (i + 1) a') →
    ∃ a', kForL g t k ρ S ds a0 = some a' ∧ P ds.length a'
  | [], a0, P, h0, _ => ⟨a0, rfl, h0⟩
  | d :: ds, a0, P, h0, step => by
    obtain ⟨ρ1, b, h1, h2, a', h3, h4⟩ := step 0 d a0 rfl h0
    obtain ⟨r, h5, h6⟩ := kForL_inv (ds := ds) (fun i => P (i + 1)) h4 fun i d a e p => step (i + 1) d a (by simpa using e) p
    refine ⟨r, ?_, h6⟩
    simp only [kForL, h1, h2, Option.bind_some]
    cases b with
    | false =>
      simp only [Bool.false_eq_true, if_false, Option.some.injEq] at h3 ⊢
      subst h3
      exact h5
    | true =>
      simp only [if_true] at h3 ⊢
      rw [h3, Option.bind_some]
      exact h5
/-- every item is taken by a step that never fails -/
theorem kForL_fold {α β : Type} {g : G} {k : Rho → Sto → β → Option β} {ρ : Rho} {S : Sto} (emb : α → D) (f : α → β → β) (P : β → Prop) : ∀ (xs : List α) (a0 : β), P a0 →
    (∀ x ∈ xs, ∀ a, P a → P (f x a) ∧ ∃ ρ1, g (emb x) ρ = some ρ1 ∧ k ρ1 S a = some (f x a)) → kForL g bYes k ρ S (xs.map emb) a0 = some (xs.foldl (fun a x => f x a) a0)
  | [], _, _, _ => rfl
  | x :: xs, a0, h0, h => by
    obtain ⟨p, ρ1, h1, h2⟩ := h x List.mem_cons_self a0 h0
    have ih := kForL_fold emb f P xs (f x a0) p fun y m => h y (List.mem_cons_of_mem _ m)
    simp only [List.map_cons, kForL, h1, x_bYes, Option.bind_some, if_true, h2, List.foldl_cons]
    exact ih
theorem eqD_int (a b : Int) : eqD (.int a) (.int b) = decide (a = b) := by
  have := keyD_inj (a := .inl a) (b := .inl b)
  have e : eqD (.int a) (.int b) = decide ((Sum.inl a : Key) = Sum.inl b) := this
  rw [e]
  by_cases h : a = b
  · simp [h]
  · simp [h]
theorem hasD_int (q : Int) (L : List Int) : hasD (L.map .int) (.int q) = decide (q ∈ L) := by
  induction L with
  | nil => rfl
  | cons p L ih =>
    unfold hasD at ih ⊢
    simp only [List.map_cons, List.any_cons, ih, eqD_int, List.mem_cons]
    by_cases h : q = p
    · subst h; simp
    · have h' : ¬ (p = q) := fun e => h e.symm
      simp [h, h']
theorem lookD_int (f : Int → D) {q : Int} : ∀ {L : List Int}, q ∈ L → lookD (L.map .int) (L.map f) (.int q) = some (f q)
  | p :: L, h => by
    simp only [List.map_cons, lookD, eqD_int]
    by_cases e : p = q
    · subst e; simp
    · rw [if_neg (by simpa using e)]
      exact lookD_int f ((List.mem_cons.mp h).resolve_left fun z => e z.symm)
theorem dk1_int (L : List Int) (q : Int) : dk1 (L.map .int) (.int q) = (if q ∈ L then L else L ++ [q]).map .int := by
  unfold dk1
  rw [hasD_int]
  by_cases h : q ∈ L <;> simp [h]
theorem dv1_int {L : List Int} {q : Int} (h : q ∉ L) (vs : List D) (v : D) : dv1 (L.map .int) vs (.int q) v = vs ++ [v] := by
  unfold dv1
  rw [hasD_int]
  simp [h]
theorem gdS_ints (l : List Int) : gdS (l.map D.int) = true :=
  gdS_map _ _ (fun a => by simp) (fun a => rfl) (fun a b => by simp [alkD, toP, PySem.W.alike])
@[simp] theorem keyT_int (k : Int) : keyT false (.int k) = true := (rfl)
/-- {q: f q for q in L}, L without repetitions -/
theorem dict_of {g : G} {ek ev : E} {ρ : Rho} {S : Sto} (f : Int → D) (L : List Int) (nd : L.Nodup) (hl : L.length ≤ 1000000) (h : ∀ q ∈ L, ∃ ρ1, g (.int q) ρ = some ρ1 ∧ ek ρ1 S = some (.int q) ∧ ev ρ1 S = some (f q)) :
    kForL g bYes (kD ek ev) ρ S (L.map .int) ([], []) = some (L.map .int, L.map f) := by
  have main := kForL_inv (g := g) (t := bYes) (k := kD ek ev) (ρ := ρ) (S := S) (ds := L.map .int) (a0 := ([], [])) (fun i a => i ≤ L.length ∧ a = ((L.take i).map .int, (L.take i).map f)) ⟨Nat.zero_le _, by simp⟩ (by
    rintro i d a hi ⟨hil, rfl⟩
    rw [List.getElem?_map, Option.map_eq_some_iff] at hi
    obtain ⟨q, hq, rfl⟩ := hi
    have hlt : i < L.length := (List.getElem?_eq_some_iff.mp hq).1
    have hqe : L[i] = q := (List.getElem?_eq_some_iff.mp hq).2
    obtain ⟨ρ1, h1, h2, h3⟩ := h q (List.mem_of_getElem? hq)
    have nq : q ∉ L.take i := fun m => by
      rw [List.mem_take_iff_getElem] at m
      obtain ⟨j, hj, e⟩ := m
      exact List.pairwise_iff_getElem.mp nd j i (by omega) hlt (by omega) (e.trans hqe.symm)
    refine ⟨ρ1, true, h1, rfl, _, ?_, by omega, rfl⟩
    simp only [if_true, kD, h2, h3, Option.bind_some, keyT_int, small_eq, List.length_map, List.length_take, Bool.true_and]
    rw [if_pos (by simp; omega), dk1_int, if_neg nq, dv1_int nq]
    have e : L.take (i + 1) = L.take i ++ [q] := by rw [List.take_add_one, hq]; rfl
    rw [e]
    simp)
  obtain ⟨a', e, _, rfl⟩ := main
  rw [e]
  simp
theorem k_sumI (S : Sto) (l : List Int) : cSum S [.lst (l.map .int)] = some (.int l.sum) := by
  have e : ∀ l : List Int, intsD (l.map .int) = some l := by
    intro l
    induction l with
    | nil => rfl
    | cons x l ih => simp [intsD, ih]
  simp [cSum, e]
theorem sortK_ref {S : Sto} {n : Nat} {ks vs : List D} (h : S[n]? = some (.dic false ks vs)) (g : gdS ks = true) : cSortedK S [.ref n] = some (sortD ks) := by
  simp [cSortedK, dicD, h, g]
end DL

set_option maxHeartbeats 4000000
namespace DL
open PySem PySem.Spec L2
noncomputable section
def b_law_mixed : T := sSeq (sSet 2 (e2 gAddA (e2 gAddA (e2 gMulA (eCall cInt (aCons (eV 0) (aNil))) (eC (.int 48271))) (e2 gMulA (eV 1) (eC (.int 69621)))) (eC (.int 11)))) (sRet (e2 gMod (eCall cInt (aCons (e2 gAddA (e2 gMulA (eV 2) (eC (.int 16807))) (e2 gDiv (eV 2) (eC (.int 8191)))) (aNil))) (eC (.int 2147483647))))
def f_law_mixed : List D → Option D := runD b_law_mixed 3
def l1_law_row : T := sIf (eTru (eV 5)) (sSeq (sApp (eV 3) (e2 gMod (eCall cInt (aCons (eV 4) (aNil))) (eV 2))) (sSet 4 (e2 gDiv (eV 4) (eV 2)))) (sApp (eV 3) (e2 gMod (e2 gDiv (eFn f_law_mixed (aCons (eV 0) (aCons (eV 6) (aNil)))) (eC (.int 7))) (eV 2)))
def b_law_row : T := sSeq (sNew 3 (fLst (aNil))) (sSeq (sSet 4 (eCall cInt (aCons (eV 0) (aNil)))) (sSeq (sSet 5 (e2 gGe (eV 4) (eC (.int 1000000000000000000)))) (sSeq (sFor (iRng rng1 (aCons (eV 1) (aNil))) (gN 6) l1_law_row) (sRet (eV 3)))))
def f_law_row : List D → Option D := runD b_law_row 7
def l1_law_walk : T := sApp (eV 3) (eTup (aCons (e2 gSub (e2 gMod (e2 gIx (eV 2) (e2 gAddA (eC (.int 1)) (eV 4))) (eC (.int 15))) (eC (.int 7))) (aCons (e2 gAddA (eC (.int 1)) (e2 gMod (e2 gIx (eV 2) (e2 gAddA (eC (.int 5)) (eV 4))) (eC (.int 5)))) (aNil))))
def l2_law_walk : T := sIf (bOr (bNot (eTru (eV 5))) (eB (e2 gLt (e2 gIx (e2 gIx (eV 5) (e1 gNeg (eC (.int 1)))) (eC (.int 0))) (e2 gIx (eV 6) (eC (.int 0)))))) (sApp (eV 5) (eV 6)) (sSkip)
def b_law_walk : T := sSeq (sSet 2 (eFn f_law_row (aCons (eV 0) (aCons (eC (.int 12)) (aCons (eC (.int 200)) (aNil)))))) (sSeq (sNew 3 (fLst (aNil))) (sSeq (sFor (iRng rng1 (aCons (e2 gAddA (eC (.int 1)) (e2 gMod (e2 gIx (eV 2) (eC (.int 0))) (eC (.int 3)))) (aNil))) (gN 4) l1_law_walk) (sSeq (sNew 5 (fLst (aNil))) (sSeq (sFor (iSeqD (eF (fCall cSorted (aCons (eV 3) (aNil))))) (gN 6) l2_law_walk) (sRet (eTup (aCons (e2 gSub (e2 gIx (eFn f_law_row (aCons (eV 1) (aCons (eC (.int 1)) (aCons (eC (.int 41)) (aNil))))) (eC (.int 0))) (eC (.int 20))) (aCons (eCall cTuple (aCons (eV 5) (aNil))) (aCons (e2 gMod (e2 gIx (eV 2) (eC (.int 9))) (eC (.int 6))) (aNil))))))))))
def f_law_walk : List D → Option D := runD b_law_walk 7
def b_is_tuple_of : T := sRet (eAnd (eCall cIsi (aCons (eV 0) (aCons (eC (.ty "tuple")) (aNil)))) (e2 gEq (eCall cLen (aCons (eV 0) (aNil))) (eV 1)))
def f_is_tuple_of : List D → Option D := runD b_is_tuple_of 2
def b_is_integer : T := sRet (eAnd (eCall cIsi (aCons (eV 0) (aCons (eC (.ty "int")) (aNil)))) (eNot (eCall cIsi (aCons (eV 0) (aCons (eC (.ty "bool")) (aNil))))))
def f_is_integer : List D → Option D := runD b_is_integer 1
def b_is_between : T := sRet (eAnd (eFn f_is_integer (aCons (eV 0) (aNil))) (e3c gLe gLe (eV 1) (eV 0) (eV 2)))
def f_is_between : List D → Option D := runD b_is_between 3
def l1_is_walk : T := sIf (bOr (bNot (eTru (eFn f_is_between (aCons (eV 1) (aCons (e1 gNeg (eC (.int 100))) (aCons (eC (.int 100)) (aNil))))))) (bNot (eTru (eFn f_is_between (aCons (eV 2) (aCons (eC (.int 1)) (aCons (eC (.int 100)) (aNil)))))))) (sRet (eC (.bl false))) (sSkip)
def b_is_walk : T := sSeq (sIf (bOr (bNot (eTru (eFn f_is_tuple_of (aCons (eV 0) (aCons (eC (.int 3)) (aNil)))))) (bNot (eTru (eFn f_is_between (aCons (e2 gIx (eV 0) (eC (.int 0))) (aCons (e1 gNeg (eC (.int 1000000))) (aCons (eC (.int 1000000)) (aNil)))))))) (sRet (eC (.bl false))) (sSkip)) (sSeq (sIf (bOr (bNot (eTru (eCall cIsi (aCons (e2 gIx (eV 0) (eC (.int 1))) (aCons (eC (.ty "tuple")) (aNil)))))) (bOr (bNot (eB (e3c gLe gLe (eC (.int 1)) (eCall cLen (aCons (e2 gIx (eV 0) (eC (.int 1))) (aNil))) (eC (.int 4))))) (bNot (eTru (eFn f_is_between (aCons (e2 gIx (eV 0) (eC (.int 2))) (aCons (eC (.int 0)) (aCons (eC (.int 12)) (aNil))))))))) (sRet (eC (.bl false))) (sSkip)) (sSeq (sIf (bNot (eTru (eCall cAll (aCons (eF (fComp (jSeqD (e2 gIx (eV 0) (eC (.int 1)))) [4] (gN 4) (bYes) (eFn f_is_tuple_of (aCons (eV 4) (aCons (eC (.int 2)) (aNil)))))) (aNil))))) (sRet (eC (.bl false))) (sSkip)) (sSeq (sFor (iSeqD (e2 gIx (eV 0) (eC (.int 1)))) (gT 2 (gCons (gN 1) (gCons (gN 2) (gNil)))) l1_is_walk) (sRet (eCall cAll (aCons (eF (fComp (iRng rng2 (aCons (eC (.int 1)) (aCons (eCall cLen (aCons (e2 gIx (eV 0) (eC (.int 1))) (aNil))) (aNil)))) [3] (gN 3) (bYes) (e2 gLt (e2 gIx (e2 gIx (e2 gIx (eV 0) (eC (.int 1))) (e2 gSub (eV 3) (eC (.int 1)))) (eC (.int 0))) (e2 gIx (e2 gIx (e2 gIx (eV 0) (eC (.int 1))) (eV 3)) (eC (.int 0)))))) (aNil)))))))
def f_is_walk : List D → Option D := runD b_is_walk 5
def b_need_walk : T := sIf (bNot (eTru (eFn f_is_walk (aCons (eV 0) (aNil))))) (sNever) (sSkip)
def f_need_walk : List D → Option D := runD b_need_walk 1
def b_fraction : T := sSeq (sSet 2 (eCall cGcd (aCons (eV 0) (aCons (eV 1) (aNil))))) (sRet (eTup (aCons (e2 gDivW (eV 0) (eV 2)) (aCons (e2 gDivW (eV 1) (eV 2)) (aNil)))))
def f_fraction : List D → Option D := runD b_fraction 3
def b_shares_of : T := sRet (eCall cSum (aCons (eF (fComp (jSeqD (e2 gIx (eV 0) (eC (.int 1)))) [1, 2] (gT 2 (gCons (gN 1) (gCons (gN 2) (gNil)))) (bYes) (eV 2))) (aNil)))
def f_shares_of : List D → Option D := runD b_shares_of 3
def l1_raised_to : T := sSet 2 (e2 gMulA (eV 2) (eV 0))
def b_raised_to : T := sSeq (sSet 2 (eC (.int 1))) (sSeq (sFor (iRng rng1 (aCons (eV 1) (aNil))) (gN 3) l1_raised_to) (sRet (eV 2)))
def f_raised_to : List D → Option D := runD b_raised_to 4
def l1_prices_at : T := sNewN 2 (cDcK (eV 2) [4, 5, 3] (gN 4) (bYes) (kFor (jSeqD (e2 gIx (eV 0) (eC (.int 1)))) [5, 3] (gT 2 (gCons (gN 5) (gCons (gN 3) (gNil)))) (bYes) (kD (e2 gAddA (eV 4) (eV 5)) (eC (.bl true)))))
def b_prices_at : T := sSeq (sNewD1 2 (e2 gIx (eV 0) (eC (.int 0))) (eC (.bl true))) (sSeq (sFor (iRng rng1 (aCons (eV 1) (aNil))) (gN 3) l1_prices_at) (sRet (eF (fCall cSortedK (aCons (eV 2) (aNil))))))
def f_prices_at : List D → Option D := runD b_prices_at 6
def b_mean_ahead : T := sRet (eCall cSum (aCons (eF (fComp (jSeqD (e2 gIx (eV 0) (eC (.int 1)))) [3, 4] (gT 2 (gCons (gN 3) (gCons (gN 4) (gNil)))) (bYes) (e2 gMulA (eV 4) (e2 gDGet (eV 1) (e2 gAddA (eV 2) (eV 3)))))) (aNil)))
def f_mean_ahead : List D → Option D := runD b_mean_ahead 5
def l2_tables_of : T := sSeq (sSet 8 (eFn f_mean_ahead (aCons (eV 0) (aCons (e2 gIx (eV 3) (eC (.int 0))) (aCons (eV 7) (aNil)))))) (sDPutD (eIf (eTru (eV 1)) (eCall cMax2 (aCons (eV 8) (aCons (e2 gMulA (eV 7) (eV 5)) (aNil)))) (eV 8)) (eV 6) (eV 7))
def l1_tables_of : T := sSeq (sSet 5 (eFn f_raised_to (aCons (eV 2) (aCons (e2 gSub (e2 gIx (eV 0) (eC (.int 2))) (eV 4)) (aNil))))) (sSeq (sNewD false 6) (sSeq (sFor (iSeqD (eFn f_prices_at (aCons (eV 0) (aCons (eV 4) (aNil))))) (gN 7) l2_tables_of) (sIns (eV 3) (eC (.int 0)) (eV 6))))
def b_tables_of : T := sSeq (sSet 2 (eFn f_shares_of (aCons (eV 0) (aNil)))) (sSeq (sNewN 3 (cLst1 (cDcN (jSeqD (eFn f_prices_at (aCons (eV 0) (aCons (e2 gIx (eV 0) (eC (.int 2))) (aNil))))) [7] (gN 7) (bYes) (kD (eV 7) (eCall cMax2 (aCons (eV 7) (aCons (eC (.int 0)) (aNil)))))))) (sSeq (sFor (iRng rng3 (aCons (e2 gSub (e2 gIx (eV 0) (eC (.int 2))) (eC (.int 1))) (aCons (e1 gNeg (eC (.int 1))) (aCons (e1 gNeg (eC (.int 1))) (aNil))))) (gN 4) l1_tables_of) (sRet (eV 3))))
def f_tables_of : List D → Option D := runD b_tables_of 9
def b_option_worth : T := sSeq (sDrop (eFn f_need_walk (aCons (eV 0) (aNil)))) (sSeq (sSet 1 (e2 gIx (eFn f_tables_of (aCons (eV 0) (aCons (eC (.bl true)) (aNil)))) (eC (.int 0)))) (sRet (eFn f_fraction (aCons (e2 gDGet (eV 1) (e2 gIx (eV 0) (eC (.int 0)))) (aCons (eFn f_raised_to (aCons (eFn f_shares_of (aCons (eV 0) (aNil))) (aCons (e2 gIx (eV 0) (eC (.int 2))) (aNil)))) (aNil))))))
def f_option_worth : List D → Option D := runD b_option_worth 2
def b_option_held : T := sSeq (sDrop (eFn f_need_walk (aCons (eV 0) (aNil)))) (sSeq (sSet 1 (e2 gIx (eFn f_tables_of (aCons (eV 0) (aCons (eC (.bl false)) (aNil)))) (eC (.int 0)))) (sRet (eFn f_fraction (aCons (e2 gDGet (eV 1) (e2 gIx (eV 0) (eC (.int 0)))) (aCons (eFn f_raised_to (aCons (eFn f_shares_of (aCons (eV 0) (aNil))) (aCons (e2 gIx (eV 0) (eC (.int 2))) (aNil)))) (aNil))))))
def f_option_held : List D → Option D := runD b_option_held 2
def b_option_extra : T := sSeq (sDrop (eFn f_need_walk (aCons (eV 0) (aNil)))) (sSeq (sAsg (eFn f_option_worth (aCons (eV 0) (aNil))) (gT 2 (gCons (gN 1) (gCons (gN 2) (gNil))))) (sRet (eFn f_fraction (aCons (e2 gSub (eV 1) (e2 gMulA (eCall cMax2 (aCons (eC (.int 0)) (aCons (e2 gIx (eV 0) (eC (.int 0))) (aNil)))) (eV 2))) (aCons (eV 2) (aNil))))))
def f_option_extra : List D → Option D := runD b_option_extra 3
def b_law_at : T := sSeq (sIf (eB (e2 gLt (eV 1) (eCall cLen (aCons (eV 0) (aNil))))) (sRet (eCall cInt (aCons (e2 gIx (eV 0) (eV 1)) (aNil)))) (sSkip)) (sRet (e2 gAddA (eC (.int 5)) (e2 gMulA (eC (.int 3)) (eV 1))))
def f_law_at : List D → Option D := runD b_law_at 2
def l1_law_gcd : T := sSeq (sSet 4 (e2 gMod (eCall cInt (aCons (eV 2) (aNil))) (eV 3))) (sSeq (sSet 2 (eV 3)) (sSet 3 (eV 4)))
def l1_law_gcd_t : EB := eB (e2 gGt (eV 3) (eC (.int 0)))
def b_law_gcd : T := sSeq (sSet 2 (eCall cAbs (aCons (eV 0) (aNil)))) (sSeq (sSet 3 (eCall cAbs (aCons (eV 1) (aNil)))) (sSeq (sWhile l1_law_gcd_t l1_law_gcd) (sRet (eV 2))))
def f_law_gcd : List D → Option D := runD b_law_gcd 5
def b_law_frac : T := sSeq (sSet 2 (eFn f_law_gcd (aCons (eV 0) (aCons (eV 1) (aNil))))) (sRet (eTup (aCons (e2 gDivW (eV 0) (eV 2)) (aCons (e2 gDivW (eV 1) (eV 2)) (aNil)))))
def f_law_frac : List D → Option D := runD b_law_frac 3
def b_law : T := sSeq (sSet 1 (eFn f_law_walk (aCons (eFn f_law_at (aCons (eV 0) (aCons (eC (.int 0)) (aNil)))) (aCons (eFn f_law_at (aCons (eV 0) (aCons (eC (.int 1)) (aNil)))) (aNil))))) (sSeq (sSet 2 (e2 gAddA (eC (.int 2)) (e2 gIx (eFn f_law_row (aCons (eFn f_law_at (aCons (eV 0) (aCons (eC (.int 2)) (aNil)))) (aCons (eC (.int 1)) (aCons (eC (.int 4)) (aNil))))) (eC (.int 0))))) (sSeq (sSet 3 (eFn f_option_worth (aCons (eV 1) (aNil)))) (sSeq (sSet 4 (eFn f_option_held (aCons (eV 1) (aNil)))) (sSeq (sSet 5 (eTup (aCons (e2 gIx (eV 1) (eC (.int 0))) (aCons (eCall cTuple (aCons (eF (fComp (jSeqD (e2 gIx (eV 1) (eC (.int 1)))) [10] (gN 10) (bYes) (eTup (aCons (e2 gIx (eV 10) (eC (.int 0))) (aCons (e2 gMulA (eV 2) (e2 gIx (eV 10) (eC (.int 1)))) (aNil)))))) (aNil))) (aCons (e2 gIx (eV 1) (eC (.int 2))) (aNil)))))) (sSeq (sIf (bOr (eB (e2 gNe (eFn f_option_worth (aCons (eV 5) (aNil))) (eV 3))) (eB (e2 gNe (eFn f_option_held (aCons (eV 5) (aNil))) (eV 4)))) (sRet (eC (.bl false))) (sSkip)) (sSeq (sSet 6 (eTup (aCons (e2 gMulA (eV 2) (e2 gIx (eV 1) (eC (.int 0)))) (aCons (eCall cTuple (aCons (eF (fComp (jSeqD (e2 gIx (eV 1) (eC (.int 1)))) [10] (gN 10) (bYes) (eTup (aCons (e2 gMulA (eV 2) (e2 gIx (eV 10) (eC (.int 0)))) (aCons (e2 gIx (eV 10) (eC (.int 1))) (aNil)))))) (aNil))) (aCons (e2 gIx (eV 1) (eC (.int 2))) (aNil)))))) (sSeq (sIf (eB (e2 gNe (eFn f_option_worth (aCons (eV 6) (aNil))) (eFn f_law_frac (aCons (e2 gMulA (eV 2) (e2 gIx (eV 3) (eC (.int 0)))) (aCons (e2 gIx (eV 3) (eC (.int 1))) (aNil)))))) (sRet (eC (.bl false))) (sSkip)) (sSeq (sIf (eB (e2 gNe (eFn f_option_held (aCons (eV 6) (aNil))) (eFn f_law_frac (aCons (e2 gMulA (eV 2) (e2 gIx (eV 4) (eC (.int 0)))) (aCons (e2 gIx (eV 4) (eC (.int 1))) (aNil)))))) (sRet (eC (.bl false))) (sSkip)) (sSeq (sSet 7 (eFn f_option_worth (aCons (eTup (aCons (e2 gIx (eV 1) (eC (.int 0))) (aCons (e2 gIx (eV 1) (eC (.int 1))) (aCons (e2 gAddA (e2 gIx (eV 1) (eC (.int 2))) (eC (.int 1))) (aNil))))) (aNil)))) (sSeq (sIf (eB (e2 gLt (e2 gMulA (e2 gIx (eV 7) (eC (.int 0))) (e2 gIx (eV 3) (eC (.int 1)))) (e2 gMulA (e2 gIx (eV 3) (eC (.int 0))) (e2 gIx (eV 7) (eC (.int 1)))))) (sRet (eC (.bl false))) (sSkip)) (sSeq (sIf (bOr (eB (e2 gLt (e2 gMulA (e2 gIx (eV 3) (eC (.int 0))) (e2 gIx (eV 4) (eC (.int 1)))) (e2 gMulA (e2 gIx (eV 4) (eC (.int 0))) (e2 gIx (eV 3) (eC (.int 1)))))) (eB (e2 gLt (e2 gIx (eV 3) (eC (.int 0))) (e2 gMulA (eCall cMax2 (aCons (eC (.int 0)) (aCons (e2 gIx (eV 1) (eC (.int 0))) (aNil)))) (e2 gIx (eV 3) (eC (.int 1))))))) (sRet (eC (.bl false))) (sSkip)) (sSeq (sSet 8 (eF (fComp (jSeqD (e2 gIx (eV 1) (eC (.int 1)))) [10] (gN 10) (bYes) (e2 gIx (eV 10) (eC (.int 0)))))) (sSeq (sIf (bAnd (eB (e2 gLe (eCall cMax (aCons (eV 8) (aNil))) (eC (.int 0)))) (eB (e2 gNe (eV 3) (eTup (aCons (eCall cMax2 (aCons (eC (.int 0)) (aCons (e2 gIx (eV 1) (eC (.int 0))) (aNil)))) (aCons (eC (.int 1)) (aNil))))))) (sRet (eC (.bl false))) (sSkip)) (sSeq (sIf (bAnd (eB (e2 gGe (eCall cMin (aCons (eV 8) (aNil))) (eC (.int 0)))) (eB (e2 gNe (eV 3) (eV 4)))) (sRet (eC (.bl false))) (sSkip)) (sSeq (sSet 9 (eFn f_option_extra (aCons (eV 1) (aNil)))) (sRet (eAnd (e2 gGe (e2 gIx (eV 9) (eC (.int 0))) (eC (.int 0))) (e2 gEq (eV 9) (eFn f_law_frac (aCons (e2 gSub (e2 gIx (eV 3) (eC (.int 0))) (e2 gMulA (eCall cMax2 (aCons (eC (.int 0)) (aCons (e2 gIx (eV 1) (eC (.int 0))) (aNil)))) (e2 gIx (eV 3) (eC (.int 1))))) (aCons (e2 gIx (eV 3) (eC (.int 1))) (aNil))))))))))))))))))))))
def f_law : List D → Option D := runD b_law 11
end
end DL

set_option maxHeartbeats 4000000
namespace DL
open PySem PySem.Spec L2
def top (i : Nat) : Stmt := PySem.Challenge.pw_chesthours_k91_choices_to_scale.main.body.getD i (.Pass ⟨0, 0, 0, 0⟩)
abbrev s_law_mixed : Stmt := top 29
abbrev N_law_mixed : List Str := ["cell", "k", "first"]
theorem c_law_mixed : FnScope N_law_mixed ["cell", "k"] (defScope s_law_mixed) := ⟨rfl, rfl, rfl, by decide +kernel, rfl, by decide +kernel, by decide +kernel⟩
abbrev s_law_row : Stmt := top 30
abbrev N_law_row : List Str := ["cell", "many", "top", "found", "left", "great", "k"]
theorem c_law_row : FnScope N_law_row ["cell", "many", "top"] (defScope s_law_row) := ⟨rfl, rfl, rfl, by decide +kernel, rfl, by decide +kernel, by decide +kernel⟩
abbrev s_law_walk : Stmt := top 27
abbrev N_law_walk : List Str := ["cell", "more", "digits", "steps", "k", "told", "pair"]
theorem c_law_walk : FnScope N_law_walk ["cell", "more"] (defScope s_law_walk) := ⟨rfl, rfl, rfl, by decide +kernel, rfl, by decide +kernel, by decide +kernel⟩
abbrev s_is_tuple_of : Stmt := top 7
abbrev N_is_tuple_of : List Str := ["thing", "many"]
theorem c_is_tuple_of : FnScope N_is_tuple_of ["thing", "many"] (defScope s_is_tuple_of) := ⟨rfl, rfl, rfl, by decide +kernel, rfl, by decide +kernel, by decide +kernel⟩
abbrev s_is_integer : Stmt := top 5
abbrev N_is_integer : List Str := ["thing"]
theorem c_is_integer : FnScope N_is_integer ["thing"] (defScope s_is_integer) := ⟨rfl, rfl, rfl, by decide +kernel, rfl, by decide +kernel, by decide +kernel⟩
abbrev s_is_between : Stmt := top 6
abbrev N_is_between : List Str := ["thing", "least", "most"]
theorem c_is_between : FnScope N_is_between ["thing", "least", "most"] (defScope s_is_between) := ⟨rfl, rfl, rfl, by decide +kernel, rfl, by decide +kernel, by decide +kernel⟩
abbrev s_is_walk : Stmt := top 14
abbrev N_is_walk : List Str := ["thing", "step", "share", "at", "pair"]
theorem c_is_walk : FnScope N_is_walk ["thing"] (defScope s_is_walk) := ⟨rfl, rfl, rfl, by decide +kernel, rfl, by decide +kernel, by decide +kernel⟩
abbrev s_need_walk : Stmt := top 15
abbrev N_need_walk : List Str := ["thing"]
theorem c_need_walk : FnScope N_need_walk ["thing"] (defScope s_need_walk) := ⟨rfl, rfl, rfl, by decide +kernel, rfl, by decide +kernel, by decide +kernel⟩
abbrev s_fraction : Stmt := top 13
abbrev N_fraction : List Str := ["top", "bottom", "part"]
theorem c_fraction : FnScope N_fraction ["top", "bottom"] (defScope s_fraction) := ⟨rfl, rfl, rfl, by decide +kernel, rfl, by decide +kernel, by decide +kernel⟩
abbrev s_shares_of : Stmt := top 17
abbrev N_shares_of : List Str := ["walk", "_", "share"]
theorem c_shares_of : FnScope N_shares_of ["walk"] (defScope s_shares_of) := ⟨rfl, rfl, rfl, by decide +kernel, rfl, by decide +kernel, by decide +kernel⟩
abbrev s_raised_to : Stmt := top 18
abbrev N_raised_to : List Str := ["base", "times", "found", "_"]
theorem c_raised_to : FnScope N_raised_to ["base", "times"] (defScope s_raised_to) := ⟨rfl, rfl, rfl, by decide +kernel, rfl, by decide +kernel, by decide +kernel⟩
abbrev s_prices_at : Stmt := top 16
abbrev N_prices_at : List Str := ["walk", "tick", "found", "_", "price", "step"]
theorem c_prices_at : FnScope N_prices_at ["walk", "tick"] (defScope s_prices_at) := ⟨rfl, rfl, rfl, by decide +kernel, rfl, by decide +kernel, by decide +kernel⟩
abbrev s_mean_ahead : Stmt := top 19
abbrev N_mean_ahead : List Str := ["walk", "worth", "price", "step", "share"]
theorem c_mean_ahead : FnScope N_mean_ahead ["walk", "worth", "price"] (defScope s_mean_ahead) := ⟨rfl, rfl, rfl, by decide +kernel, rfl, by decide +kernel, by decide +kernel⟩
abbrev s_tables_of : Stmt := top 20
abbrev N_tables_of : List Str := ["walk", "can_stop", "whole", "tables", "tick", "scale", "here", "price", "later"]
theorem c_tables_of : FnScope N_tables_of ["walk", "can_stop"] (defScope s_tables_of) := ⟨rfl, rfl, rfl, by decide +kernel, rfl, by decide +kernel, by decide +kernel⟩
abbrev s_option_worth : Stmt := top 21
abbrev N_option_worth : List Str := ["walk", "table"]
theorem c_option_worth : FnScope N_option_worth ["walk"] (defScope s_option_worth) := ⟨rfl, rfl, rfl, by decide +kernel, rfl, by decide +kernel, by decide +kernel⟩
abbrev s_option_held : Stmt := top 22
abbrev N_option_held : List Str := ["walk", "table"]
theorem c_option_held : FnScope N_option_held ["walk"] (defScope s_option_held) := ⟨rfl, rfl, rfl, by decide +kernel, rfl, by decide +kernel, by decide +kernel⟩
abbrev s_option_extra : Stmt := top 23
abbrev N_option_extra : List Str := ["walk", "top", "bottom"]
theorem c_option_extra : FnScope N_option_extra ["walk"] (defScope s_option_extra) := ⟨rfl, rfl, rfl, by decide +kernel, rfl, by decide +kernel, by decide +kernel⟩
abbrev s_law_at : Stmt := top 28
abbrev N_law_at : List Str := ["script", "k"]
theorem c_law_at : FnScope N_law_at ["script", "k"] (defScope s_law_at) := ⟨rfl, rfl, rfl, by decide +kernel, rfl, by decide +kernel, by decide +kernel⟩
abbrev s_law_gcd : Stmt := top 25
abbrev N_law_gcd : List Str := ["one", "other", "first", "second", "rest"]
theorem c_law_gcd : FnScope N_law_gcd ["one", "other"] (defScope s_law_gcd) := ⟨rfl, rfl, rfl, by decide +kernel, rfl, by decide +kernel, by decide +kernel⟩
abbrev s_law_frac : Stmt := top 26
abbrev N_law_frac : List Str := ["top", "bottom", "part"]
theorem c_law_frac : FnScope N_law_frac ["top", "bottom"] (defScope s_law_frac) := ⟨rfl, rfl, rfl, by decide +kernel, rfl, by decide +kernel, by decide +kernel⟩
abbrev s_law : Stmt := top 31
abbrev N_law : List Str := ["script", "walk", "times", "worth", "held", "shares", "prices", "longer", "steps", "extra", "pair"]
theorem c_law : FnScope N_law ["script"] (defScope s_law) := ⟨rfl, rfl, rfl, by decide +kernel, rfl, by decide +kernel, by decide +kernel⟩
theorem bd_law_mixed : ∀ (kV doc pm : Value) (an : Option Addr) (cdv ct : Value) (us : List Value), us.length = (["cell", "k"] : List Str).length → bindArgs (PySem.W.fnOf "_law_mixed" "_law_mixed" (defArgs s_law_mixed) (defBody s_law_mixed) (defScope s_law_mixed) .none kV doc pm an cdv ct) ⟨us, []⟩ = pure ((["cell", "k"] : List Str).zip us) := fun _ _ _ _ _ _ us hl => match us, hl with | [_, _], _ => rfl
theorem bd_law_row : ∀ (kV doc pm : Value) (an : Option Addr) (cdv ct : Value) (us : List Value), us.length = (["cell", "many", "top"] : List Str).length → bindArgs (PySem.W.fnOf "_law_row" "_law_row" (defArgs s_law_row) (defBody s_law_row) (defScope s_law_row) .none kV doc pm an cdv ct) ⟨us, []⟩ = pure ((["cell", "many", "top"] : List Str).zip us) := fun _ _ _ _ _ _ us hl => match us, hl with | [_, _, _], _ => rfl
theorem bd_law_walk : ∀ (kV doc pm : Value) (an : Option Addr) (cdv ct : Value) (us : List Value), us.length = (["cell", "more"] : List Str).length → bindArgs (PySem.W.fnOf "_law_walk" "_law_walk" (defArgs s_law_walk) (defBody s_law_walk) (defScope s_law_walk) .none kV doc pm an cdv ct) ⟨us, []⟩ = pure ((["cell", "more"] : List Str).zip us) := fun _ _ _ _ _ _ us hl => match us, hl with | [_, _], _ => rfl
theorem bd_is_tuple_of : ∀ (kV doc pm : Value) (an : Option Addr) (cdv ct : Value) (us : List Value), us.length = (["thing", "many"] : List Str).length → bindArgs (PySem.W.fnOf "is_tuple_of" "is_tuple_of" (defArgs s_is_tuple_of) (defBody s_is_tuple_of) (defScope s_is_tuple_of) .none kV doc pm an cdv ct) ⟨us, []⟩ = pure ((["thing", "many"] : List Str).zip us) := fun _ _ _ _ _ _ us hl => match us, hl with | [_, _], _ => rfl
theorem bd_is_integer : ∀ (kV doc pm : Value) (an : Option Addr) (cdv ct : Value) (us : List Value), us.length = (["thing"] : List Str).length → bindArgs (PySem.W.fnOf "is_integer" "is_integer" (defArgs s_is_integer) (defBody s_is_integer) (defScope s_is_integer) .none kV doc pm an cdv ct) ⟨us, []⟩ = pure ((["thing"] : List Str).zip us) := fun _ _ _ _ _ _ us hl => match us, hl with | [_], _ => rfl
theorem bd_is_between : ∀ (kV doc pm : Value) (an : Option Addr) (cdv ct : Value) (us : List Value), us.length = (["thing", "least", "most"] : List Str).length → bindArgs (PySem.W.fnOf "is_between" "is_between" (defArgs s_is_between) (defBody s_is_between) (defScope s_is_between) .none kV doc pm an cdv ct) ⟨us, []⟩ = pure ((["thing", "least", "most"] : List Str).zip us) := fun _ _ _ _ _ _ us hl => match us, hl with | [_, _, _], _ => rfl
theorem bd_is_walk : ∀ (kV doc pm : Value) (an : Option Addr) (cdv ct : Value) (us : List Value), us.length = (["thing"] : List Str).length → bindArgs (PySem.W.fnOf "is_walk" "is_walk" (defArgs s_is_walk) (defBody s_is_walk) (defScope s_is_walk) .none kV doc pm an cdv ct) ⟨us, []⟩ = pure ((["thing"] : List Str).zip us) := fun _ _ _ _ _ _ us hl => match us, hl with | [_], _ => rfl
theorem bd_need_walk : ∀ (kV doc pm : Value) (an : Option Addr) (cdv ct : Value) (us : List Value), us.length = (["thing"] : List Str).length → bindArgs (PySem.W.fnOf "need_walk" "need_walk" (defArgs s_need_walk) (defBody s_need_walk) (defScope s_need_walk) .none kV doc pm an cdv ct) ⟨us, []⟩ = pure ((["thing"] : List Str).zip us) := fun _ _ _ _ _ _ us hl => match us, hl with | [_], _ => rfl
theorem bd_fraction : ∀ (kV doc pm : Value) (an : Option Addr) (cdv ct : Value) (us : List Value), us.length = (["top", "bottom"] : List Str).length → bindArgs (PySem.W.fnOf "fraction" "fraction" (defArgs s_fraction) (defBody s_fraction) (defScope s_fraction) .none kV doc pm an cdv ct) ⟨us, []⟩ = pure ((["top", "bottom"] : List Str).zip us) := fun _ _ _ _ _ _ us hl => match us, hl with | [_, _], _ => rfl
theorem bd_shares_of : ∀ (kV doc pm : Value) (an : Option Addr) (cdv ct : Value) (us : List Value), us.length = (["walk"] : List Str).length → bindArgs (PySem.W.fnOf "shares_of" "shares_of" (defArgs s_shares_of) (defBody s_shares_of) (defScope s_shares_of) .none kV doc pm an cdv ct) ⟨us, []⟩ = pure ((["walk"] : List Str).zip us) := fun _ _ _ _ _ _ us hl => match us, hl with | [_], _ => rfl
theorem bd_raised_to : ∀ (kV doc pm : Value) (an : Option Addr) (cdv ct : Value) (us : List Value), us.length = (["base", "times"] : List Str).length → bindArgs (PySem.W.fnOf "raised_to" "raised_to" (defArgs s_raised_to) (defBody s_raised_to) (defScope s_raised_to) .none kV doc pm an cdv ct) ⟨us, []⟩ = pure ((["base", "times"] : List Str).zip us) := fun _ _ _ _ _ _ us hl => match us, hl with | [_, _], _ => rfl
theorem bd_prices_at : ∀ (kV doc pm : Value) (an : Option Addr) (cdv ct : Value) (us : List Value), us.length = (["walk", "tick"] : List Str).length → bindArgs (PySem.W.fnOf "prices_at" "prices_at" (defArgs s_prices_at) (defBody s_prices_at) (defScope s_prices_at) .none kV doc pm an cdv ct) ⟨us, []⟩ = pure ((["walk", "tick"] : List Str).zip us) := fun _ _ _ _ _ _ us hl => match us, hl with | [_, _], _ => rfl
theorem bd_mean_ahead : ∀ (kV doc pm : Value) (an : Option Addr) (cdv ct : Value) (us : List Value), us.length = (["walk", "worth", "price"] : List Str).length → bindArgs (PySem.W.fnOf "mean_ahead" "mean_ahead" (defArgs s_mean_ahead) (defBody s_mean_ahead) (defScope s_mean_ahead) .none kV doc pm an cdv ct) ⟨us, []⟩ = pure ((["walk", "worth", "price"] : List Str).zip us) := fun _ _ _ _ _ _ us hl => match us, hl with | [_, _, _], _ => rfl
theorem bd_tables_of : ∀ (kV doc pm : Value) (an : Option Addr) (cdv ct : Value) (us : List Value), us.length = (["walk", "can_stop"] : List Str).length → bindArgs (PySem.W.fnOf "tables_of" "tables_of" (defArgs s_tables_of) (defBody s_tables_of) (defScope s_tables_of) .none kV doc pm an cdv ct) ⟨us, []⟩ = pure ((["walk", "can_stop"] : List Str).zip us) := fun _ _ _ _ _ _ us hl => match us, hl with | [_, _], _ => rfl
theorem bd_option_worth : ∀ (kV doc pm : Value) (an : Option Addr) (cdv ct : Value) (us : List Value), us.length = (["walk"] : List Str).length → bindArgs (PySem.W.fnOf "option_worth" "option_worth" (defArgs s_option_worth) (defBody s_option_worth) (defScope s_option_worth) .none kV doc pm an cdv ct) ⟨us, []⟩ = pure ((["walk"] : List Str).zip us) := fun _ _ _ _ _ _ us hl => match us, hl with | [_], _ => rfl
theorem bd_option_held : ∀ (kV doc pm : Value) (an : Option Addr) (cdv ct : Value) (us : List Value), us.length = (["walk"] : List Str).length → bindArgs (PySem.W.fnOf "option_held" "option_held" (defArgs s_option_held) (defBody s_option_held) (defScope s_option_held) .none kV doc pm an cdv ct) ⟨us, []⟩ = pure ((["walk"] : List Str).zip us) := fun _ _ _ _ _ _ us hl => match us, hl with | [_], _ => rfl
theorem bd_option_extra : ∀ (kV doc pm : Value) (an : Option Addr) (cdv ct : Value) (us : List Value), us.length = (["walk"] : List Str).length → bindArgs (PySem.W.fnOf "option_extra" "option_extra" (defArgs s_option_extra) (defBody s_option_extra) (defScope s_option_extra) .none kV doc pm an cdv ct) ⟨us, []⟩ = pure ((["walk"] : List Str).zip us) := fun _ _ _ _ _ _ us hl => match us, hl with | [_], _ => rfl
theorem bd_law_at : ∀ (kV doc pm : Value) (an : Option Addr) (cdv ct : Value) (us : List Value), us.length = (["script", "k"] : List Str).length → bindArgs (PySem.W.fnOf "_law_at" "_law_at" (defArgs s_law_at) (defBody s_law_at) (defScope s_law_at) .none kV doc pm an cdv ct) ⟨us, []⟩ = pure ((["script", "k"] : List Str).zip us) := fun _ _ _ _ _ _ us hl => match us, hl with | [_, _], _ => rfl
theorem bd_law_gcd : ∀ (kV doc pm : Value) (an : Option Addr) (cdv ct : Value) (us : List Value), us.length = (["one", "other"] : List Str).length → bindArgs (PySem.W.fnOf "_law_gcd" "_law_gcd" (defArgs s_law_gcd) (defBody s_law_gcd) (defScope s_law_gcd) .none kV doc pm an cdv ct) ⟨us, []⟩ = pure ((["one", "other"] : List Str).zip us) := fun _ _ _ _ _ _ us hl => match us, hl with | [_, _], _ => rfl
theorem bd_law_frac : ∀ (kV doc pm : Value) (an : Option Addr) (cdv ct : Value) (us : List Value), us.length = (["top", "bottom"] : List Str).length → bindArgs (PySem.W.fnOf "_law_frac" "_law_frac" (defArgs s_law_frac) (defBody s_law_frac) (defScope s_law_frac) .none kV doc pm an cdv ct) ⟨us, []⟩ = pure ((["top", "bottom"] : List Str).zip us) := fun _ _ _ _ _ _ us hl => match us, hl with | [_, _], _ => rfl
theorem bd_law : ∀ (kV doc pm : Value) (an : Option Addr) (cdv ct : Value) (us : List Value), us.length = (["script"] : List Str).length → bindArgs (PySem.W.fnOf "law" "law" (defArgs s_law) (defBody s_law) (defScope s_law) .none kV doc pm an cdv ct) ⟨us, []⟩ = pure ((["script"] : List Str).zip us) := fun _ _ _ _ _ _ us hl => match us, hl with | [_], _ => rfl
structure Fx (K : PySem.W.Frag) (mg : Str → Option Value) : Prop where
  t_law_mixed : Tx K mg "_law_mixed" s_law_mixed ["cell", "k"]
  t_law_row : Tx K mg "_law_row" s_law_row ["cell", "many", "top"]
  t_law_walk : Tx K mg "_law_walk" s_law_walk ["cell", "more"]
  t_is_tuple_of : Tx K mg "is_tuple_of" s_is_tuple_of ["thing", "many"]
  t_is_integer : Tx K mg "is_integer" s_is_integer ["thing"]
  t_is_between : Tx K mg "is_between" s_is_between ["thing", "least", "most"]
  t_is_walk : Tx K mg "is_walk" s_is_walk ["thing"]
  t_need_walk : Tx K mg "need_walk" s_need_walk ["thing"]
  t_fraction : Tx K mg "fraction" s_fraction ["top", "bottom"]
  t_shares_of : Tx K mg "shares_of" s_shares_of ["walk"]
  t_raised_to : Tx K mg "raised_to" s_raised_to ["base", "times"]
  t_prices_at : Tx K mg "prices_at" s_prices_at ["walk", "tick"]
  t_mean_ahead : Tx K mg "mean_ahead" s_mean_ahead ["walk", "worth", "price"]
  t_tables_of : Tx K mg "tables_of" s_tables_of ["walk", "can_stop"]
  t_option_worth : Tx K mg "option_worth" s_option_worth ["walk"]
  t_option_held : Tx K mg "option_held" s_option_held ["walk"]
  t_option_extra : Tx K mg "option_extra" s_option_extra ["walk"]
  t_law_at : Tx K mg "_law_at" s_law_at ["script", "k"]
  t_law_gcd : Tx K mg "_law_gcd" s_law_gcd ["one", "other"]
  t_law_frac : Tx K mg "_law_frac" s_law_frac ["top", "bottom"]
  b_abs : mg "abs" = none
  b_all : mg "all" = none
  b_bool : mg "bool" = none
  b_int : mg "int" = none
  b_isinstance : mg "isinstance" = none
  b_len : mg "len" = none
  b_max : mg "max" = none
  b_min : mg "min" = none
  b_range : mg "range" = none
  b_sorted : mg "sorted" = none
  b_sum : mg "sum" = none
  b_tuple : mg "tuple" = none
  b_gcd : mg "gcd" = some (.builtin "math.gcd")
  c_MOST_AMOUNT : ∃ t, mg "MOST_AMOUNT" = some (.int 1000000 t)
  c_MOST_SHARE : ∃ t, mg "MOST_SHARE" = some (.int 100 t)
  c_MOST_STEP : ∃ t, mg "MOST_STEP" = some (.int 100 t)
  c_MOST_TICKS : ∃ t, mg "MOST_TICKS" = some (.int 12 t)
section
variable {P : Program} {w : World} {K : PySem.W.Frag} {mg : Str → Option Value} {base : Heap}
theorem a_law_mixed (F : Fx K mg) : At P w K mg base "_law_mixed" 1 2 f_law_mixed := by
  have nd := (c_law_mixed).nd
  show At P w K mg base _ _ _ (runD b_law_mixed 3)
  refine fnDn (k := 0) F.t_law_mixed c_law_mixed rfl rfl rfl fun f cdv A outer s H E hr => ?_
  have h : PSs (cxOf CX0 P w K mg base N_law_mixed "_law_mixed" (defScope s_law_mixed) f cdv A outer s H E).nox (defBody s_law_mixed) (tS K _) :=
    dss_cons (ds_set (i := 2) nd rfl (Or.inl rfl) (d_op op_addA od_addA (d_op op_addA od_addA (d_op op_mulA od_mulA (d_callT call_int1 cd_int rfl F.b_int bt_int (da_cons (d_var (i := 0)) (da_nil))) (d_int)) (d_op op_mulA od_mulA (d_var (i := 1)) (d_int))) (d_int))) (dss_one (ds_ret (d_op op_mod od_mod (d_callT call_int1 cd_int rfl F.b_int bt_int (da_cons (d_op op_addA od_addA (d_op op_mulA od_mulA (d_var (i := 2)) (d_int)) (d_op op_fdiv od_div (d_var (i := 2)) (d_int))) (da_nil))) (d_int))))
  exact h
theorem a_law_row (F : Fx K mg) : At P w K mg base "_law_row" 2 3 f_law_row := by
  have nd := (c_law_row).nd
  show At P w K mg base _ _ _ (runD b_law_row 7)
  refine fnDn (k := 1) F.t_law_row c_law_row rfl rfl rfl fun f cdv A outer s H E hr => ?_
  have h : PSs (cxOf CX0 P w K mg base N_law_row "_law_row" (defScope s_law_row) f cdv A outer s H E).nox (defBody s_law_row) (tS K _) :=
    dss_cons (ds_new (i := 3) nd rfl (Or.inl rfl) (d_lst (da_nil))) (dss_cons (ds_set (i := 4) nd rfl (Or.inl rfl) (d_callT call_int1 cd_int rfl F.b_int bt_int (da_cons (d_var (i := 0)) (da_nil)))) (dss_cons (ds_set (i := 5) nd rfl (Or.inl rfl) (d_cmp op_ge od_cmp (d_var (i := 4)) (d_int) (nomark _))) (dss_cons (ds_for PassesOwn.never rfl (di_rng1 rfl F.b_range (da_cons (d_var (i := 1)) (da_nil))) (dg_name (i := 6) nd rfl (Or.inl rfl)) (dss_one (ds_if (dt_truth (d_var (i := 5))) (dss_cons (ds_append (d_var (i := 3)) (d_op op_mod od_mod (d_callT call_int1 cd_int rfl F.b_int bt_int (da_cons (d_var (i := 4)) (da_nil))) (d_var (i := 2)))) (dss_one (ds_set (i := 4) nd rfl (Or.inl rfl) (d_op op_fdiv od_div (d_var (i := 4)) (d_var (i := 2)))))) (dss_one (ds_append (d_var (i := 3)) (d_op op_mod od_mod (d_op op_fdiv od_div (d_call (a_law_mixed F) hr (by decide) rfl (da_cons (d_var (i := 0)) (da_cons (d_var (i := 6)) (da_nil))) (len_cons (len_cons (len_nil)))) (d_int)) (d_var (i := 2)))))))) (dss_one (ds_ret (d_var (i := 3)))))))
  exact h
theorem a_law_walk (F : Fx K mg) : At P w K mg base "_law_walk" 3 2 f_law_walk := by
  have nd := (c_law_walk).nd
  show At P w K mg base _ _ _ (runD b_law_walk 7)
  refine fnDn (k := 2) F.t_law_walk c_law_walk rfl rfl rfl fun f cdv A outer s H E hr => ?_
  have h : PSs (cxOf CX0 P w K mg base N_law_walk "_law_walk" (defScope s_law_walk) f cdv A outer s H E).nox (defBody s_law_walk) (tS K _) :=
    dss_cons (ds_set (i := 2) nd rfl (Or.inl rfl) (d_call (a_law_row F) hr (by decide) rfl (da_cons (d_var (i := 0)) (da_cons (d_int) (da_cons (d_int) (da_nil)))) (len_cons (len_cons (len_cons (len_nil)))))) (dss_cons (ds_new (i := 3) nd rfl (Or.inl rfl) (d_lst (da_nil))) (dss_cons (ds_for PassesOwn.never rfl (di_rng1 rfl F.b_range (da_cons (d_op op_addA od_addA (d_int) (d_op op_mod od_mod (d_ix (d_var (i := 2)) (d_int)) (d_int))) (da_nil))) (dg_name (i := 4) nd rfl (Or.inl rfl)) (dss_one (ds_append (d_var (i := 3)) (d_tup (da_cons (d_op op_sub od_sub (d_op op_mod od_mod (d_ix (d_var (i := 2)) (d_op op_addA od_addA (d_int) (d_var (i := 4)))) (d_int)) (d_int)) (da_cons (d_op op_addA od_addA (d_int) (d_op op_mod od_mod (d_ix (d_var (i := 2)) (d_op op_addA od_addA (d_int) (d_var (i := 4)))) (d_int))) (da_nil))))))) (dss_cons (ds_new (i := 5) nd rfl (Or.inl rfl) (d_lst (da_nil))) (dss_cons (ds_for PassesOwn.never rfl (di_seq (d_F (d_callBF (cr_sortD (hu64 hr)) cf_sorted rfl F.b_sorted bt_sorted (da_cons (d_var (i := 3)) (da_nil))))) (dg_name (i := 6) nd rfl (Or.inl rfl)) (dss_one (ds_if (dt_bool (dw_or (dt_not (dt_truth (d_var (i := 5)))) (dw_one (dt_cmp op_lt od_cmp (d_ix (d_ix (d_var (i := 5)) (d_un un_neg ud_neg (d_int))) (d_int)) (d_ix (d_var (i := 6)) (d_int)) (nomark _))))) (dss_one (ds_append (d_var (i := 5)) (d_var (i := 6)))) (dss_nil)))) (dss_one (ds_ret (d_tup (da_cons (d_op op_sub od_sub (d_ix (d_call (a_law_row F) hr (by decide) rfl (da_cons (d_var (i := 1)) (da_cons (d_int) (da_cons (d_int) (da_nil)))) (len_cons (len_cons (len_cons (len_nil))))) (d_int)) (d_int)) (da_cons (d_callT call_tuple_of cd_tuple rfl F.b_tuple bt_tuple (da_cons (d_var (i := 5)) (da_nil))) (da_cons (d_op op_mod od_mod (d_ix (d_var (i := 2)) (d_int)) (d_int)) (da_nil)))))))))))
  exact h
theorem a_is_tuple_of (F : Fx K mg) : At P w K mg base "is_tuple_of" 1 2 f_is_tuple_of := by
  have nd := (c_is_tuple_of).nd
  show At P w K mg base _ _ _ (runD b_is_tuple_of 2)
  refine fnDn (k := 0) F.t_is_tuple_of c_is_tuple_of rfl rfl rfl fun f cdv A outer s H E hr => ?_
  have h : PSs (cxOf CX0 P w K mg base N_is_tuple_of "is_tuple_of" (defScope s_is_tuple_of) f cdv A outer s H E).nox (defBody s_is_tuple_of) (tS K _) :=
    dss_one (ds_ret (d_and (d_callB call_isi cd_isi rfl F.b_isinstance bt_isinstance (da_cons (d_var (i := 0)) (da_cons (d_ty rfl F.b_tuple bt_tuple) (da_nil)))) (d_one (d_cmp (op_eqD (hu64 hr)) od_eq (d_callB call_len_seq cd_len rfl F.b_len bt_len (da_cons (d_var (i := 0)) (da_nil))) (d_var (i := 1)) (nomark _)))))
  exact h
theorem a_is_integer (F : Fx K mg) : At P w K mg base "is_integer" 1 1 f_is_integer := by
  have nd := (c_is_integer).nd
  show At P w K mg base _ _ _ (runD b_is_integer 1)
  refine fnDn (k := 0) F.t_is_integer c_is_integer rfl rfl rfl fun f cdv A outer s H E hr => ?_
  have h : PSs (cxOf CX0 P w K mg base N_is_integer "is_integer" (defScope s_is_integer) f cdv A outer s H E).nox (defBody s_is_integer) (tS K _) :=
    dss_one (ds_ret (d_and (d_callB call_isi cd_isi rfl F.b_isinstance bt_isinstance (da_cons (d_var (i := 0)) (da_cons (d_ty rfl F.b_int bt_int) (da_nil)))) (d_one (d_not (d_callB call_isi cd_isi rfl F.b_isinstance bt_isinstance (da_cons (d_var (i := 0)) (da_cons (d_ty rfl F.b_bool bt_bool) (da_nil))))))))
  exact h
theorem a_is_between (F : Fx K mg) : At P w K mg base "is_between" 2 3 f_is_between := by
  have nd := (c_is_between).nd
  show At P w K mg base _ _ _ (runD b_is_between 3)
  refine fnDn (k := 1) F.t_is_between c_is_between rfl rfl rfl fun f cdv A outer s H E hr => ?_
  have h : PSs (cxOf CX0 P w K mg base N_is_between "is_between" (defScope s_is_between) f cdv A outer s H E).nox (defBody s_is_between) (tS K _) :=
    dss_one (ds_ret (d_and (d_call (a_is_integer F) hr (by decide) rfl (da_cons (d_var (i := 0)) (da_nil)) (len_cons (len_nil))) (d_one (d_chain op_le op_le od_cmp od_cmp (d_var (i := 1)) (d_var (i := 0)) (d_var (i := 2))))))
  exact h
theorem a_is_walk (F : Fx K mg) : At P w K mg base "is_walk" 3 1 f_is_walk := by
  have nd := (c_is_walk).nd
  show At P w K mg base _ _ _ (runD b_is_walk 5)
  refine fnDn (k := 2) F.t_is_walk c_is_walk rfl rfl rfl fun f cdv A outer s H E hr => ?_
  have h : PSs (cxOf CX0 P w K mg base N_is_walk "is_walk" (defScope s_is_walk) f cdv A outer s H E).nox (defBody s_is_walk) (tS K _) :=
    dss_cons (ds_if (dt_bool (dw_or (dt_not (dt_truth (d_call (a_is_tuple_of F) hr (by decide) rfl (da_cons (d_var (i := 0)) (da_cons (d_int) (da_nil))) (len_cons (len_cons (len_nil)))))) (dw_one (dt_not (dt_truth (d_call (a_is_between F) hr (by decide) rfl (da_cons (d_ix (d_var (i := 0)) (d_int)) (da_cons (d_un un_neg ud_neg (d_globI rfl F.c_MOST_AMOUNT)) (da_cons (d_globI rfl F.c_MOST_AMOUNT) (da_nil)))) (len_cons (len_cons (len_cons (len_nil)))))))))) (dss_one (ds_ret (d_bl))) (dss_nil)) (dss_cons (ds_if (dt_bool (dw_or (dt_not (dt_truth (d_callB call_isi cd_isi rfl F.b_isinstance bt_isinstance (da_cons (d_ix (d_var (i := 0)) (d_int)) (da_cons (d_ty rfl F.b_tuple bt_tuple) (da_nil)))))) (dw_or (dt_not (dt_chain op_le op_le od_cmp od_cmp (d_int) (d_callB call_len_seq cd_len rfl F.b_len bt_len (da_cons (d_ix (d_var (i := 0)) (d_int)) (da_nil))) (d_int))) (dw_one (dt_not (dt_truth (d_call (a_is_between F) hr (by decide) rfl (da_cons (d_ix (d_var (i := 0)) (d_int)) (da_cons (d_int) (da_cons (d_globI rfl F.c_MOST_TICKS) (da_nil)))) (len_cons (len_cons (len_cons (len_nil))))))))))) (dss_one (ds_ret (d_bl))) (dss_nil)) (dss_cons (ds_if (dt_not (dt_truth (d_callB (cr_all rfl) cd_all rfl F.b_all bt_all (da_cons (d_F (d_comp (own := [("pair", 4)]) rfl nd (dj_seq (d_ix (d_var (i := 0)) (d_int))) (blkOk_by (by kernel_rfl)) (fun _ _ _ _ _ => dg_name (i := 4) nd rfl (Or.inl rfl)) (fun _ _ _ _ _ => dts_nil) (fun _ _ _ _ _ => d_call (a_is_tuple_of F) hr (by decide) rfl (da_cons (d_var (i := 4)) (da_cons (d_int) (da_nil))) (len_cons (len_cons (len_nil)))))) (da_nil))))) (dss_one (ds_ret (d_bl))) (dss_nil)) (dss_cons (ds_for PassesOwn.never rfl (di_seq (d_ix (d_var (i := 0)) (d_int))) (dg_tup (n := 2) rfl (dgs_cons (dg_name (i := 1) nd rfl (Or.inl rfl)) (dgs_cons (dg_name (i := 2) nd rfl (Or.inl rfl)) (dgs_nil)))) (dss_one (ds_if (dt_bool (dw_or (dt_not (dt_truth (d_call (a_is_between F) hr (by decide) rfl (da_cons (d_var (i := 1)) (da_cons (d_un un_neg ud_neg (d_globI rfl F.c_MOST_STEP)) (da_cons (d_globI rfl F.c_MOST_STEP) (da_nil)))) (len_cons (len_cons (len_cons (len_nil))))))) (dw_one (dt_not (dt_truth (d_call (a_is_between F) hr (by decide) rfl (da_cons (d_var (i := 2)) (da_cons (d_int) (da_cons (d_globI rfl F.c_MOST_SHARE) (da_nil)))) (len_cons (len_cons (len_cons (len_nil)))))))))) (dss_one (ds_ret (d_bl))) (dss_nil)))) (dss_one (ds_ret (d_callB (cr_all rfl) cd_all rfl F.b_all bt_all (da_cons (d_F (d_comp (own := [("at", 3)]) rfl nd (dj_of (di_rng2 rfl F.b_range (da_cons (d_int) (da_cons (d_callB call_len_seq cd_len rfl F.b_len bt_len (da_cons (d_ix (d_var (i := 0)) (d_int)) (da_nil))) (da_nil))))) (blkOk_by (by kernel_rfl)) (fun _ _ _ _ _ => dg_name (i := 3) nd rfl (Or.inl rfl)) (fun _ _ _ _ _ => dts_nil) (fun _ _ _ _ _ => d_cmp op_lt od_cmp (d_ix (d_ix (d_ix (d_var (i := 0)) (d_int)) (d_op op_sub od_sub (d_var (i := 3)) (d_int))) (d_int)) (d_ix (d_ix (d_ix (d_var (i := 0)) (d_int)) (d_var (i := 3))) (d_int)) (nomark _)))) (da_nil))))))))
  exact h
theorem a_need_walk (F : Fx K mg) : At P w K mg base "need_walk" 4 1 f_need_walk := by
  have nd := (c_need_walk).nd
  show At P w K mg base _ _ _ (runD b_need_walk 1)
  refine fnDn (k := 3) F.t_need_walk c_need_walk rfl rfl rfl fun f cdv A outer s H E hr => ?_
  have h : PSs (cxOf CX0 P w K mg base N_need_walk "need_walk" (defScope s_need_walk) f cdv A outer s H E).nox (defBody s_need_walk) (tS K _) :=
    dss_one (ds_if (dt_not (dt_truth (d_call (a_is_walk F) hr (by decide) rfl (da_cons (d_var (i := 0)) (da_nil)) (len_cons (len_nil))))) (dss_one (ds_never)) (dss_nil))
  exact h
theorem a_fraction (F : Fx K mg) : At P w K mg base "fraction" 1 2 f_fraction := by
  have nd := (c_fraction).nd
  show At P w K mg base _ _ _ (runD b_fraction 3)
  refine fnDn (k := 0) F.t_fraction c_fraction rfl rfl rfl fun f cdv A outer s H E hr => ?_
  have h : PSs (cxOf CX0 P w K mg base N_fraction "fraction" (defScope s_fraction) f cdv A outer s H E).nox (defBody s_fraction) (tS K _) :=
    dss_cons (ds_set (i := 2) nd rfl (Or.inl rfl) (d_callG cr_gcd cd_gcd rfl F.b_gcd (da_cons (d_var (i := 0)) (da_cons (d_var (i := 1)) (da_nil))))) (dss_one (ds_ret (d_tup (da_cons (d_op op_fdivW od_divW (d_var (i := 0)) (d_var (i := 2))) (da_cons (d_op op_fdivW od_divW (d_var (i := 1)) (d_var (i := 2))) (da_nil))))))
  exact h
theorem a_shares_of (F : Fx K mg) : At P w K mg base "shares_of" 1 1 f_shares_of := by
  have nd := (c_shares_of).nd
  show At P w K mg base _ _ _ (runD b_shares_of 3)
  refine fnDn (k := 0) F.t_shares_of c_shares_of rfl rfl rfl fun f cdv A outer s H E hr => ?_
  have h : PSs (cxOf CX0 P w K mg base N_shares_of "shares_of" (defScope s_shares_of) f cdv A outer s H E).nox (defBody s_shares_of) (tS K _) :=
    dss_one (ds_ret (d_callB (cr_sum rfl) cd_sum rfl F.b_sum bt_sum (da_cons (d_F (d_comp (own := [("_", 1), ("share", 2)]) rfl nd (dj_seq (d_ix (d_var (i := 0)) (d_int))) (blkOk_by (by kernel_rfl)) (fun _ _ _ _ _ => dg_tup (n := 2) rfl (dgs_cons (dg_name (i := 1) nd rfl (Or.inl rfl)) (dgs_cons (dg_name (i := 2) nd rfl (Or.inl rfl)) (dgs_nil)))) (fun _ _ _ _ _ => dts_nil) (fun _ _ _ _ _ => d_var (i := 2)))) (da_nil))))
  exact h
theorem a_raised_to (F : Fx K mg) : At P w K mg base "raised_to" 1 2 f_raised_to := by
  have nd := (c_raised_to).nd
  show At P w K mg base _ _ _ (runD b_raised_to 4)
  refine fnDn (k := 0) F.t_raised_to c_raised_to rfl rfl rfl fun f cdv A outer s H E hr => ?_
  have h : PSs (cxOf CX0 P w K mg base N_raised_to "raised_to" (defScope s_raised_to) f cdv A outer s H E).nox (defBody s_raised_to) (tS K _) :=
    dss_cons (ds_set (i := 2) nd rfl (Or.inl rfl) (d_int)) (dss_cons (ds_for PassesOwn.never rfl (di_rng1 rfl F.b_range (da_cons (d_var (i := 1)) (da_nil))) (dg_name (i := 3) nd rfl (Or.inl rfl)) (dss_one (ds_set (i := 2) nd rfl (Or.inl rfl) (d_op op_mulA od_mulA (d_var (i := 2)) (d_var (i := 0)))))) (dss_one (ds_ret (d_var (i := 2)))))
  exact h
theorem a_prices_at (F : Fx K mg) : At P w K mg base "prices_at" 1 2 f_prices_at := by
  have nd := (c_prices_at).nd
  show At P w K mg base _ _ _ (runD b_prices_at 6)
  refine fnDn (k := 0) F.t_prices_at c_prices_at rfl rfl rfl fun f cdv A outer s H E hr => ?_
  have h : PSs (cxOf CX0 P w K mg base N_prices_at "prices_at" (defScope s_prices_at) f cdv A outer s H E).nox (defBody s_prices_at) (tS K _) :=
    dss_cons (ds_newD1 (i := 2) nd rfl (Or.inl rfl) (d_ix (d_var (i := 0)) (d_int)) (d_bl)) (dss_cons (ds_for PassesOwn.never rfl (di_rng1 rfl F.b_range (da_cons (d_var (i := 1)) (da_nil))) (dg_name (i := 3) nd rfl (Or.inl rfl)) (dss_one (ds_newDcK (own := [("price", 4), ("step", 5), ("_", 3)]) (i := 2) rfl nd rfl rfl (sw_trueD rfl rfl rfl (by decide +kernel)) (dj_keys (d_var (i := 2))) (blkOk_by (by kernel_rfl)) (fun _ _ _ => turnD_next rfl rfl) (fun _ _ _ _ _ => dg_name (i := 4) nd rfl (Or.inl rfl)) (fun _ _ _ _ _ => dts_nil) (fun _ _ _ _ _ _ => em_nextD (vs := [5, 3]) acD_ok rfl rfl (fun _ => turnD_last rfl rfl) (fun _ => rfl) (fun _ => rfl) (fun _ => rfl) (fun _ => rfl) (fun _ => rfl) rfl (fun _ _ => rfl) (dk_seq (d_ix (d_var (i := 0)) (d_int))) (dg_tup (n := 2) rfl (dgs_cons (dg_name (i := 5) nd rfl (Or.inl rfl)) (dgs_cons (dg_name (i := 3) nd rfl (Or.inl rfl)) (dgs_nil)))) (dts_nil) (em_leafD rfl (d_op op_addA od_addA (d_var (i := 4)) (d_var (i := 5))) (d_bl)) (by decide) (by decide))))) (dss_one (ds_ret (d_F (d_callBF (cr_sortK rfl (hu64 hr)) cf_sortedK rfl F.b_sorted bt_sorted (da_cons (d_var (i := 2)) (da_nil)))))))
  exact h
theorem a_mean_ahead (F : Fx K mg) : At P w K mg base "mean_ahead" 1 3 f_mean_ahead := by
  have nd := (c_mean_ahead).nd
  show At P w K mg base _ _ _ (runD b_mean_ahead 5)
  refine fnDn (k := 0) F.t_mean_ahead c_mean_ahead rfl rfl rfl fun f cdv A outer s H E hr => ?_
  have h : PSs (cxOf CX0 P w K mg base N_mean_ahead "mean_ahead" (defScope s_mean_ahead) f cdv A outer s H E).nox (defBody s_mean_ahead) (tS K _) :=
    dss_one (ds_ret (d_callB (cr_sum rfl) cd_sum rfl F.b_sum bt_sum (da_cons (d_F (d_comp (own := [("step", 3), ("share", 4)]) rfl nd (dj_seq (d_ix (d_var (i := 0)) (d_int))) (blkOk_by (by kernel_rfl)) (fun _ _ _ _ _ => dg_tup (n := 2) rfl (dgs_cons (dg_name (i := 3) nd rfl (Or.inl rfl)) (dgs_cons (dg_name (i := 4) nd rfl (Or.inl rfl)) (dgs_nil)))) (fun _ _ _ _ _ => dts_nil) (fun _ _ _ _ _ => d_op op_mulA od_mulA (d_var (i := 4)) (d_dget (hu1 hr) (d_var (i := 1)) (d_op op_addA od_addA (d_var (i := 2)) (d_var (i := 3))))))) (da_nil))))
  exact h
theorem a_tables_of (F : Fx K mg) : At P w K mg base "tables_of" 2 2 f_tables_of := by
  have nd := (c_tables_of).nd
  show At P w K mg base _ _ _ (runD b_tables_of 9)
  refine fnDn (k := 1) F.t_tables_of c_tables_of rfl rfl rfl fun f cdv A outer s H E hr => ?_
  have h : PSs (cxOf CX0 P w K mg base N_tables_of "tables_of" (defScope s_tables_of) f cdv A outer s H E).nox (defBody s_tables_of) (tS K _) :=
    dss_cons (ds_set (i := 2) nd rfl (Or.inl rfl) (d_call (a_shares_of F) hr (by decide) rfl (da_cons (d_var (i := 0)) (da_nil)) (len_cons (len_nil)))) (dss_cons (ds_newN (i := 3) nd rfl (Or.inl rfl) (d_lst1 (d_dcompN (own := [("price", 7)]) rfl nd (dj_seq (d_call (a_prices_at F) hr (by decide) rfl (da_cons (d_var (i := 0)) (da_cons (d_ix (d_var (i := 0)) (d_int)) (da_nil))) (len_cons (len_cons (len_nil))))) (blkOk_by (by kernel_rfl)) (fun _ _ _ => turnD_last rfl rfl) (fun _ _ _ _ _ => dg_name (i := 7) nd rfl (Or.inl rfl)) (fun _ _ _ _ _ => dts_nil) (fun _ _ _ _ _ _ => em_leafD rfl (d_var (i := 7)) (d_callB (call_max2 rfl) cd_max2 rfl F.b_max bt_max (da_cons (d_var (i := 7)) (da_cons (d_int) (da_nil)))))))) (dss_cons (ds_for PassesOwn.never rfl (di_rng3 rfl F.b_range (da_cons (d_op op_sub od_sub (d_ix (d_var (i := 0)) (d_int)) (d_int)) (da_cons (d_un un_neg ud_neg (d_int)) (da_cons (d_un un_neg ud_neg (d_int)) (da_nil))))) (dg_name (i := 4) nd rfl (Or.inl rfl)) (dss_cons (ds_set (i := 5) nd rfl (Or.inl rfl) (d_call (a_raised_to F) hr (by decide) rfl (da_cons (d_var (i := 2)) (da_cons (d_op op_sub od_sub (d_ix (d_var (i := 0)) (d_int)) (d_var (i := 4))) (da_nil))) (len_cons (len_cons (len_nil))))) (dss_cons (ds_newD (t := false) (i := 6) nd rfl (Or.inl rfl)) (dss_cons (ds_for PassesOwn.never rfl (di_seq (d_call (a_prices_at F) hr (by decide) rfl (da_cons (d_var (i := 0)) (da_cons (d_var (i := 4)) (da_nil))) (len_cons (len_cons (len_nil))))) (dg_name (i := 7) nd rfl (Or.inl rfl)) (dss_cons (ds_set (i := 8) nd rfl (Or.inl rfl) (d_call (a_mean_ahead F) hr (by decide) rfl (da_cons (d_var (i := 0)) (da_cons (d_ix (d_var (i := 3)) (d_int)) (da_cons (d_var (i := 7)) (da_nil)))) (len_cons (len_cons (len_cons (len_nil)))))) (dss_one (ds_dput (hu1 hr) (d_if (dt_truth (d_var (i := 1))) (d_callB (call_max2 rfl) cd_max2 rfl F.b_max bt_max (da_cons (d_var (i := 8)) (da_cons (d_op op_mulA od_mulA (d_var (i := 7)) (d_var (i := 5))) (da_nil)))) (d_var (i := 8))) (d_var (i := 6)) (d_var (i := 7)))))) (dss_one (ds_insert (d_var (i := 3)) (d_int) (d_var (i := 6)))))))) (dss_one (ds_ret (d_var (i := 3))))))
  exact h
theorem a_option_worth (F : Fx K mg) : At P w K mg base "option_worth" 5 1 f_option_worth := by
  have nd := (c_option_worth).nd
  show At P w K mg base _ _ _ (runD b_option_worth 2)
  refine fnDn (k := 4) F.t_option_worth c_option_worth rfl rfl rfl fun f cdv A outer s H E hr => ?_
  have h : PSs (cxOf CX0 P w K mg base N_option_worth "option_worth" (defScope s_option_worth) f cdv A outer s H E).nox (defBody s_option_worth) (tS K _) :=
    dss_cons (ds_expr (d_call (a_need_walk F) hr (by decide) rfl (da_cons (d_var (i := 0)) (da_nil)) (len_cons (len_nil)))) (dss_cons (ds_set (i := 1) nd rfl (Or.inl rfl) (d_ix (d_call (a_tables_of F) hr (by decide) rfl (da_cons (d_var (i := 0)) (da_cons (d_bl) (da_nil))) (len_cons (len_cons (len_nil)))) (d_int))) (dss_one (ds_ret (d_call (a_fraction F) hr (by decide) rfl (da_cons (d_dget (hu1 hr) (d_var (i := 1)) (d_ix (d_var (i := 0)) (d_int))) (da_cons (d_call (a_raised_to F) hr (by decide) rfl (da_cons (d_call (a_shares_of F) hr (by decide) rfl (da_cons (d_var (i := 0)) (da_nil)) (len_cons (len_nil))) (da_cons (d_ix (d_var (i := 0)) (d_int)) (da_nil))) (len_cons (len_cons (len_nil)))) (da_nil))) (len_cons (len_cons (len_nil)))))))
  exact h
theorem a_option_held (F : Fx K mg) : At P w K mg base "option_held" 5 1 f_option_held := by
  have nd := (c_option_held).nd
  show At P w K mg base _ _ _ (runD b_option_held 2)
  refine fnDn (k := 4) F.t_option_held c_option_held rfl rfl rfl fun f cdv A outer s H E hr => ?_
  have h : PSs (cxOf CX0 P w K mg base N_option_held "option_held" (defScope s_option_held) f cdv A outer s H E).nox (defBody s_option_held) (tS K _) :=
    dss_cons (ds_expr (d_call (a_need_walk F) hr (by decide) rfl (da_cons (d_var (i := 0)) (da_nil)) (len_cons (len_nil)))) (dss_cons (ds_set (i := 1) nd rfl (Or.inl rfl) (d_ix (d_call (a_tables_of F) hr (by decide) rfl (da_cons (d_var (i := 0)) (da_cons (d_bl) (da_nil))) (len_cons (len_cons (len_nil)))) (d_int))) (dss_one (ds_ret (d_call (a_fraction F) hr (by decide) rfl (da_cons (d_dget (hu1 hr) (d_var (i := 1)) (d_ix (d_var (i := 0)) (d_int))) (da_cons (d_call (a_raised_to F) hr (by decide) rfl (da_cons (d_call (a_shares_of F) hr (by decide) rfl (da_cons (d_var (i := 0)) (da_nil)) (len_cons (len_nil))) (da_cons (d_ix (d_var (i := 0)) (d_int)) (da_nil))) (len_cons (len_cons (len_nil)))) (da_nil))) (len_cons (len_cons (len_nil)))))))
  exact h
theorem a_option_extra (F : Fx K mg) : At P w K mg base "option_extra" 6 1 f_option_extra := by
  have nd := (c_option_extra).nd
  show At P w K mg base _ _ _ (runD b_option_extra 3)
  refine fnDn (k := 5) F.t_option_extra c_option_extra rfl rfl rfl fun f cdv A outer s H E hr => ?_
  have h : PSs (cxOf CX0 P w K mg base N_option_extra "option_extra" (defScope s_option_extra) f cdv A outer s H E).nox (defBody s_option_extra) (tS K _) :=
    dss_cons (ds_expr (d_call (a_need_walk F) hr (by decide) rfl (da_cons (d_var (i := 0)) (da_nil)) (len_cons (len_nil)))) (dss_cons (ds_asg (d_call (a_option_worth F) hr (by decide) rfl (da_cons (d_var (i := 0)) (da_nil)) (len_cons (len_nil))) (dg_tup (n := 2) rfl (dgs_cons (dg_name (i := 1) nd rfl (Or.inl rfl)) (dgs_cons (dg_name (i := 2) nd rfl (Or.inl rfl)) (dgs_nil))))) (dss_one (ds_ret (d_call (a_fraction F) hr (by decide) rfl (da_cons (d_op op_sub od_sub (d_var (i := 1)) (d_op op_mulA od_mulA (d_callB (call_max2 rfl) cd_max2 rfl F.b_max bt_max (da_cons (d_int) (da_cons (d_ix (d_var (i := 0)) (d_int)) (da_nil)))) (d_var (i := 2)))) (da_cons (d_var (i := 2)) (da_nil))) (len_cons (len_cons (len_nil)))))))
  exact h
theorem a_law_at (F : Fx K mg) : At P w K mg base "_law_at" 1 2 f_law_at := by
  have nd := (c_law_at).nd
  show At P w K mg base _ _ _ (runD b_law_at 2)
  refine fnDn (k := 0) F.t_law_at c_law_at rfl rfl rfl fun f cdv A outer s H E hr => ?_
  have h : PSs (cxOf CX0 P w K mg base N_law_at "_law_at" (defScope s_law_at) f cdv A outer s H E).nox (defBody s_law_at) (tS K _) :=
    dss_cons (ds_if (dt_cmp op_lt od_cmp (d_var (i := 1)) (d_callB call_len_seq cd_len rfl F.b_len bt_len (da_cons (d_var (i := 0)) (da_nil))) (nomark _)) (dss_one (ds_ret (d_callT call_int1 cd_int rfl F.b_int bt_int (da_cons (d_ix (d_var (i := 0)) (d_var (i := 1))) (da_nil))))) (dss_nil)) (dss_one (ds_ret (d_op op_addA od_addA (d_int) (d_op op_mulA od_mulA (d_int) (d_var (i := 1))))))
  exact h
theorem a_law_gcd (F : Fx K mg) : At P w K mg base "_law_gcd" 1 2 f_law_gcd := by
  have nd := (c_law_gcd).nd
  show At P w K mg base _ _ _ (runD b_law_gcd 5)
  refine fnDn (k := 0) F.t_law_gcd c_law_gcd rfl rfl rfl fun f cdv A outer s H E hr => ?_
  have h : PSs (cxOf CX0 P w K mg base N_law_gcd "_law_gcd" (defScope s_law_gcd) f cdv A outer s H E).nox (defBody s_law_gcd) (tS K _) :=
    dss_cons (ds_set (i := 2) nd rfl (Or.inl rfl) (d_callB call_abs cd_abs rfl F.b_abs bt_abs (da_cons (d_var (i := 0)) (da_nil)))) (dss_cons (ds_set (i := 3) nd rfl (Or.inl rfl) (d_callB call_abs cd_abs rfl F.b_abs bt_abs (da_cons (d_var (i := 1)) (da_nil)))) (dss_cons (ds_while PassesOwn.never (dt_cmp op_gt od_cmp (d_var (i := 3)) (d_int) (nomark _)) (dss_cons (ds_set (i := 4) nd rfl (Or.inl rfl) (d_op op_mod od_mod (d_callT call_int1 cd_int rfl F.b_int bt_int (da_cons (d_var (i := 2)) (da_nil))) (d_var (i := 3)))) (dss_cons (ds_set (i := 2) nd rfl (Or.inl rfl) (d_var (i := 3))) (dss_one (ds_set (i := 3) nd rfl (Or.inl rfl) (d_var (i := 4))))))) (dss_one (ds_ret (d_var (i := 2))))))
  exact h
theorem a_law_frac (F : Fx K mg) : At P w K mg base "_law_frac" 2 2 f_law_frac := by
  have nd := (c_law_frac).nd
  show At P w K mg base _ _ _ (runD b_law_frac 3)
  refine fnDn (k := 1) F.t_law_frac c_law_frac rfl rfl rfl fun f cdv A outer s H E hr => ?_
  have h : PSs (cxOf CX0 P w K mg base N_law_frac "_law_frac" (defScope s_law_frac) f cdv A outer s H E).nox (defBody s_law_frac) (tS K _) :=
    dss_cons (ds_set (i := 2) nd rfl (Or.inl rfl) (d_call (a_law_gcd F) hr (by decide) rfl (da_cons (d_var (i := 0)) (da_cons (d_var (i := 1)) (da_nil))) (len_cons (len_cons (len_nil))))) (dss_one (ds_ret (d_tup (da_cons (d_op op_fdivW od_divW (d_var (i := 0)) (d_var (i := 2))) (da_cons (d_op op_fdivW od_divW (d_var (i := 1)) (d_var (i := 2))) (da_nil))))))
  exact h
theorem ok_law (F : Fx K mg) {f : Addr} {fd : FuncData} (Fl : Fun K "law" "law" s_law f fd) : FnOk P w K mg base CX0 7 f fd ["script"] (spD K 1 f_law) := by
  have nd := (c_law).nd
  show FnOk P w K mg base CX0 _ f fd _ (spD K _ (runD b_law 11))
  refine fnOn (k := 6) Fl c_law rfl rfl rfl fun f cdv A outer s H E hr => ?_
  have h : PSs (cxOf CX0 P w K mg base N_law "law" (defScope s_law) f cdv A outer s H E).nox (defBody s_law) (tS K _) :=
    dss_cons (ds_set (i := 1) nd rfl (Or.inl rfl) (d_call (a_law_walk F) hr (by decide) rfl (da_cons (d_call (a_law_at F) hr (by decide) rfl (da_cons (d_var (i := 0)) (da_cons (d_int) (da_nil))) (len_cons (len_cons (len_nil)))) (da_cons (d_call (a_law_at F) hr (by decide) rfl (da_cons (d_var (i := 0)) (da_cons (d_int) (da_nil))) (len_cons (len_cons (len_nil)))) (da_nil))) (len_cons (len_cons (len_nil))))) (dss_cons (ds_set (i := 2) nd rfl (Or.inr rfl) (d_op op_addA od_addA (d_int) (d_ix (d_call (a_law_row F) hr (by decide) rfl (da_cons (d_call (a_law_at F) hr (by decide) rfl (da_cons (d_var (i := 0)) (da_cons (d_int) (da_nil))) (len_cons (len_cons (len_nil)))) (da_cons (d_int) (da_cons (d_int) (da_nil)))) (len_cons (len_cons (len_cons (len_nil))))) (d_int)))) (dss_cons (ds_set (i := 3) nd rfl (Or.inl rfl) (d_call (a_option_worth F) hr (by decide) rfl (da_cons (d_var (i := 1)) (da_nil)) (len_cons (len_nil)))) (dss_cons (ds_set (i := 4) nd rfl (Or.inl rfl) (d_call (a_option_held F) hr (by decide) rfl (da_cons (d_var (i := 1)) (da_nil)) (len_cons (len_nil)))) (dss_cons (ds_set (i := 5) nd rfl (Or.inl rfl) (d_tup (da_cons (d_ix (d_var (i := 1)) (d_int)) (da_cons (d_callT call_tuple_of cd_tuple rfl F.b_tuple bt_tuple (da_cons (d_F (d_comp (own := [("pair", 10)]) rfl nd (dj_seq (d_ix (d_var (i := 1)) (d_int))) (blkOk_by (by kernel_rfl)) (fun _ _ _ _ _ => dg_name (i := 10) nd rfl (Or.inl rfl)) (fun _ _ _ _ _ => dts_nil) (fun _ _ _ _ _ => d_tup (da_cons (d_ix (d_var (i := 10)) (d_int)) (da_cons (d_op op_mulA od_mulA (d_var (i := 2)) (d_ix (d_var (i := 10)) (d_int))) (da_nil)))))) (da_nil))) (da_cons (d_ix (d_var (i := 1)) (d_int)) (da_nil)))))) (dss_cons (ds_if (dt_bool (dw_or (dt_cmp (op_neD (hu64 hr)) od_ne (d_call (a_option_worth F) hr (by decide) rfl (da_cons (d_var (i := 5)) (da_nil)) (len_cons (len_nil))) (d_var (i := 3)) (nomark _)) (dw_one (dt_cmp (op_neD (hu64 hr)) od_ne (d_call (a_option_held F) hr (by decide) rfl (da_cons (d_var (i := 5)) (da_nil)) (len_cons (len_nil))) (d_var (i := 4)) (nomark _))))) (dss_one (ds_ret (d_bl))) (dss_nil)) (dss_cons (ds_set (i := 6) nd rfl (Or.inl rfl) (d_tup (da_cons (d_op op_mulA od_mulA (d_var (i := 2)) (d_ix (d_var (i := 1)) (d_int))) (da_cons (d_callT call_tuple_of cd_tuple rfl F.b_tuple bt_tuple (da_cons (d_F (d_comp (own := [("pair", 10)]) rfl nd (dj_seq (d_ix (d_var (i := 1)) (d_int))) (blkOk_by (by kernel_rfl)) (fun _ _ _ _ _ => dg_name (i := 10) nd rfl (Or.inl rfl)) (fun _ _ _ _ _ => dts_nil) (fun _ _ _ _ _ => d_tup (da_cons (d_op op_mulA od_mulA (d_var (i := 2)) (d_ix (d_var (i := 10)) (d_int))) (da_cons (d_ix (d_var (i := 10)) (d_int)) (da_nil)))))) (da_nil))) (da_cons (d_ix (d_var (i := 1)) (d_int)) (da_nil)))))) (dss_cons (ds_if (dt_cmp (op_neD (hu64 hr)) od_ne (d_call (a_option_worth F) hr (by decide) rfl (da_cons (d_var (i := 6)) (da_nil)) (len_cons (len_nil))) (d_call (a_law_frac F) hr (by decide) rfl (da_cons (d_op op_mulA od_mulA (d_var (i := 2)) (d_ix (d_var (i := 3)) (d_int))) (da_cons (d_ix (d_var (i := 3)) (d_int)) (da_nil))) (len_cons (len_cons (len_nil)))) (nomark _)) (dss_one (ds_ret (d_bl))) (dss_nil)) (dss_cons (ds_if (dt_cmp (op_neD (hu64 hr)) od_ne (d_call (a_option_held F) hr (by decide) rfl (da_cons (d_var (i := 6)) (da_nil)) (len_cons (len_nil))) (d_call (a_law_frac F) hr (by decide) rfl (da_cons (d_op op_mulA od_mulA (d_var (i := 2)) (d_ix (d_var (i := 4)) (d_int))) (da_cons (d_ix (d_var (i := 4)) (d_int)) (da_nil))) (len_cons (len_cons (len_nil)))) (nomark _)) (dss_one (ds_ret (d_bl))) (dss_nil)) (dss_cons (ds_set (i := 7) nd rfl (Or.inl rfl) (d_call (a_option_worth F) hr (by decide) rfl (da_cons (d_tup (da_cons (d_ix (d_var (i := 1)) (d_int)) (da_cons (d_ix (d_var (i := 1)) (d_int)) (da_cons (d_op op_addA od_addA (d_ix (d_var (i := 1)) (d_int)) (d_int)) (da_nil))))) (da_nil)) (len_cons (len_nil)))) (dss_cons (ds_if (dt_cmp op_lt od_cmp (d_op op_mulA od_mulA (d_ix (d_var (i := 7)) (d_int)) (d_ix (d_var (i := 3)) (d_int))) (d_op op_mulA od_mulA (d_ix (d_var (i := 3)) (d_int)) (d_ix (d_var (i := 7)) (d_int))) (nomark _)) (dss_one (ds_ret (d_bl))) (dss_nil)) (dss_cons (ds_if (dt_bool (dw_or (dt_cmp op_lt od_cmp (d_op op_mulA od_mulA (d_ix (d_var (i := 3)) (d_int)) (d_ix (d_var (i := 4)) (d_int))) (d_op op_mulA od_mulA (d_ix (d_var (i := 4)) (d_int)) (d_ix (d_var (i := 3)) (d_int))) (nomark _)) (dw_one (dt_cmp op_lt od_cmp (d_ix (d_var (i := 3)) (d_int)) (d_op op_mulA od_mulA (d_callB (call_max2 rfl) cd_max2 rfl F.b_max bt_max (da_cons (d_int) (da_cons (d_ix (d_var (i := 1)) (d_int)) (da_nil)))) (d_ix (d_var (i := 3)) (d_int))) (nomark _))))) (dss_one (ds_ret (d_bl))) (dss_nil)) (dss_cons (ds_setLc (own := [("pair", 10)]) (i := 8) rfl nd rfl rfl (sw_true rfl rfl rfl (by decide +kernel)) (dj_seq (d_ix (d_var (i := 1)) (d_int))) (blkOk_by (by kernel_rfl)) (fun _ _ _ _ _ => dg_name (i := 10) nd rfl (Or.inl rfl)) (fun _ _ _ _ _ => dts_nil) (fun _ _ _ _ _ => d_ix (d_var (i := 10)) (d_int))) (dss_cons (ds_if (dt_bool (dw_and (dt_cmp op_le od_cmp (d_callB (cr_max rfl) cd_max rfl F.b_max bt_max (da_cons (d_var (i := 8)) (da_nil))) (d_int) (nomark _)) (dw_one (dt_cmp (op_neD (hu64 hr)) od_ne (d_var (i := 3)) (d_tup (da_cons (d_callB (call_max2 rfl) cd_max2 rfl F.b_max bt_max (da_cons (d_int) (da_cons (d_ix (d_var (i := 1)) (d_int)) (da_nil)))) (da_cons (d_int) (da_nil)))) (nomark _))))) (dss_one (ds_ret (d_bl))) (dss_nil)) (dss_cons (ds_if (dt_bool (dw_and (dt_cmp op_ge od_cmp (d_callB (cr_min rfl) cd_min rfl F.b_min bt_min (da_cons (d_var (i := 8)) (da_nil))) (d_int) (nomark _)) (dw_one (dt_cmp (op_neD (hu64 hr)) od_ne (d_var (i := 3)) (d_var (i := 4)) (nomark _))))) (dss_one (ds_ret (d_bl))) (dss_nil)) (dss_cons (ds_set (i := 9) nd rfl (Or.inl rfl) (d_call (a_option_extra F) hr (by decide) rfl (da_cons (d_var (i := 1)) (da_nil)) (len_cons (len_nil)))) (dss_one (ds_ret (d_and (d_cmp op_ge od_cmp (d_ix (d_var (i := 9)) (d_int)) (d_int) (nomark _)) (d_one (d_cmp (op_eqD (hu64 hr)) od_eq (d_var (i := 9)) (d_call (a_law_frac F) hr (by decide) rfl (da_cons (d_op op_sub od_sub (d_ix (d_var (i := 3)) (d_int)) (d_op op_mulA od_mulA (d_callB (call_max2 rfl) cd_max2 rfl F.b_max bt_max (da_cons (d_int) (da_cons (d_ix (d_var (i := 1)) (d_int)) (da_nil)))) (d_ix (d_var (i := 3)) (d_int)))) (da_cons (d_ix (d_var (i := 3)) (d_int)) (da_nil))) (len_cons (len_cons (len_nil)))) (nomark _)))))))))))))))))))))
  exact h
end
end DL

set_option maxHeartbeats 400000
namespace DL
open PySem PySem.Spec L2
/-! ### webs -/
@[simp] theorem isi_int_int (S : Sto) (i : Int) : cIsi S [.int i, .ty "int"] = some (.bl true) := (rfl)
@[simp] theorem isi_int_bool (S : Sto) (i : Int) : cIsi S [.int i, .ty "bool"] = some (.bl false) := (rfl)
@[simp] theorem isi_tup_tup (S : Sto) (i : List D) : cIsi S [.tup i, .ty "tuple"] = some (.bl true) := (rfl)
theorem is_integer_i (i : Int) : f_is_integer [.int i] = some (.bl true) := by
  simp [f_is_integer, b_is_integer, run_eq, startR]
theorem is_between_i (i l m : Int) : f_is_between [.int i, .int l, .int m] = some (.bl (decide (l ≤ i) && decide (i ≤ m))) := by
  simp [f_is_between, b_is_between, run_eq, startR, runA_nr, is_integer_i]
theorem is_tuple_of_t (ds : List D) (m : Int) : f_is_tuple_of [.tup ds, .int m] = some (.bl (decide ((ds.length : Int) = m))) := by
  simp [f_is_tuple_of, b_is_tuple_of, run_eq, startR]
abbrev Row := Nat × Nat × Nat
def rowD (r : Row) : D := .tup [nD r.1, nD r.2.1, nD r.2.2]
def webD (n : Nat) (rows : List Row) : D := .tup [nD n, .tup (rows.map rowD)]
def rowOk (n : Nat) (r : Row) : Bool := decide (r.1 < n) && decide (r.2.1 < n) && decide (r.1 ≠ r.2.1) && decide (1 ≤ r.2.2) && decide (r.2.2 ≤ 9)
structure WebOk (n : Nat) (rows : List Row) : Prop where
  n2 : 2 ≤ n
  n6 : n ≤ 6
  r1 : 1 ≤ rows.length
  r10 : rows.length ≤ 10
  ok : ∀ r ∈ rows, rowOk n r = true
  giv : ∀ p < n, p ∈ rows.map (·.1)
  tak : ∀ p < n, p ∈ rows.map (·.2.1)
@[simp] theorem nr_rowD (r : Row) : nr (rowD r) = true := by simp [rowD]
@[simp] theorem q_rowD (S : Sto) (r : Row) : seqD S (rowD r) = some [.int r.1, .int r.2.1, .int r.2.2] := (rfl)
@[simp] theorem q_webD (S : Sto) (n : Nat) (l : List Row) : seqD S (webD n l) = some [.int n, .tup (l.map rowD)] := (rfl)
@[simp] theorem nrs_rowD (l : List Row) : nrs (l.map rowD) = true := nrs_all.mpr (by
  intro d h
  obtain ⟨r, _, rfl⟩ := List.mem_map.mp h
  exact nr_rowD r)
@[simp] theorem nr_webD (n : Nat) (l : List Row) : nr (webD n l) = true := by simp [webD]
/-! ### the law's numbers -/
theorem law_mixed_i (c k : Int) : ∃ z : Int, f_law_mixed [.int c, .int k] = some (.int z) := by
  simp [f_law_mixed, b_law_mixed, run_eq, startR]
theorem md_nat (z : Int) {top : Nat} (h0 : 0 < top) : ∃ k : Nat, z % (top : Int) = (k : Int) ∧ k < top := by
  have a := Int.emod_nonneg z (by omega : (top : Int) ≠ 0)
  have b := Int.emod_lt_of_pos z (by omega : (0 : Int) < top)
  exact ⟨(z % (top : Int)).toNat, by omega, by omega⟩
theorem law_row_i (c : Int) (many top : Nat) (hm : many ≤ 1000000) (h0 : 0 < top) (h1 : top < 1073741824) : ∃ l : List Nat, f_law_row [.int c, .int many, .int top] = some (.lst (l.map nD)) ∧ l.length = many ∧ ∀ x ∈ l, x < top := by
  have t0 : (0 : Int) < top := by omega
  have t1 : (top : Int) < 1073741824 := by omega
  obtain ⟨ρ', S', e, l, left, x, rfl, rfl, hl, hx⟩ := loop_inv (g := gN 6) (body := l1_law_row)
    (ds := (List.range many).map nD) (ρ := [some (.int c), some (.int many), some (.int top), some (.ref 0), some (.int c), some (.bl (decide (1000000000000000000 ≤ c))), none]) (S := [.lst []])
    (fun i ρ S => ∃ (l : List Nat) (left : Int) (x : Option D), ρ = [some (.int c), some (.int many), some (.int top), some (.ref 0), some (.int left), some (.bl (decide (1000000000000000000 ≤ c))), x] ∧ S = [.lst (l.map nD)] ∧ l.length = i ∧ ∀ x ∈ l, x < top) ⟨[], c, none, rfl, rfl, rfl, by simp⟩ (by
      rintro i d ρ S hi ⟨l, left, x, rfl, rfl, hl, hx⟩
      have hi' : i < many := by
        have := (List.getElem?_eq_some_iff.mp hi).1
        simpa using this
      have hd : d = .int (i : Nat) := by
        rw [List.getElem?_map, List.getElem?_range hi'] at hi
        simpa using hi.symm
      subst hd
      have hs : l.length ≤ 1000000 := by omega
      by_cases hg : 1000000000000000000 ≤ c
      · obtain ⟨k, e1, e2⟩ := md_nat left h0
        refine ⟨_, [some (.int c), some (.int many), some (.int top), some (.ref 0), some (.int (left / top)), some (.bl (decide (1000000000000000000 ≤ c))), some (.int (i : Nat))], [.lst ((l ++ [k]).map nD)], .nx, rfl, by simp [l1_law_row, hg, t0, t1, h0, h1, hs, e1], .inl rfl, l ++ [k], left / (top : Int), some (.int (i : Nat)), rfl, rfl, ?_, ?_⟩
        · simp [hl]
        · intro y hy
          rcases List.mem_append.mp hy with hy | hy
          · exact hx y hy
          · rw [List.mem_singleton.mp hy]; exact e2
      · obtain ⟨z, ez⟩ := law_mixed_i c i
        obtain ⟨k, e1, e2⟩ := md_nat (z / 7) h0
        refine ⟨_, [some (.int c), some (.int many), some (.int top), some (.ref 0), some (.int left), some (.bl (decide (1000000000000000000 ≤ c))), some (.int (i : Nat))], [.lst ((l ++ [k]).map nD)], .nx, rfl, by simp [l1_law_row, hg, t0, t1, h0, h1, hs, runA_nr, ez, e1], .inl rfl, l ++ [k], left, some (.int (i : Nat)), rfl, rfl, ?_, ?_⟩
        · simp [hl]
        · intro y hy
          rcases List.mem_append.mp hy with hy | hy
          · exact hx y hy
          · rw [List.mem_singleton.mp hy]; exact e2)
  refine ⟨l, ?_, by simpa using hl, hx⟩
  simp [f_law_row, b_law_row, run_eq, startR, rng1_nat hm, e]
end DL

set_option maxHeartbeats 1000000
namespace DL
open PySem PySem.Spec L2
/-! ### the law's webs -/
theorem law_at_i (ns : List Int) (k : Nat) : ∃ z : Int, f_law_at [.scr ns, .int k] = some (.int z) := by
  by_cases h : k < ns.length
  · have h' : (k : Int) < ns.length := by omega
    have e : atI (ns.map D.int) (k : Int) = some (.int ns[k]) := by rw [atI_map, List.getElem?_eq_getElem h]; rfl
    exact ⟨ns[k], by simp [f_law_at, b_law_at, run_eq, startR, h, h', e]⟩
  · have h' : ¬ ((k : Int) < ns.length) := by omega
    exact ⟨_, by simp [f_law_at, b_law_at, run_eq, startR, h, h']; exact rfl⟩
def glD (g : List Nat) : D := .lst (g.map nD)
def prv (g : List Nat) (i : Nat) : Nat := if i = 0 then g.getD (g.length - 1) 0 else g.getD (i - 1) 0
theorem prv_at {g : List Nat} {i : Nat} (h : i < g.length) : atI (g.map nD) ((i : Int) - 1) = some (.int (prv g i : Nat)) := by
  unfold prv
  by_cases h0 : i = 0
  · subst h0
    have e : ((0 : Nat) : Int) - 1 = -1 := by omega
    rw [e, atI_neg1, if_pos rfl]
    rw [List.getLast?_eq_getElem?, List.length_map, List.getElem?_map, List.getD_eq_getElem?_getD, List.getElem?_eq_getElem (by omega)]
    rfl
  · have e : (i : Int) - 1 = ((i - 1 : Nat) : Int) := by omega
    rw [e, atI_nD (by omega : i - 1 < g.length), if_neg h0, List.getD_eq_getElem?_getD, List.getElem?_eq_getElem (by omega)]
    rfl
theorem prv_mem {g : List Nat} {i : Nat} (h : i < g.length) : prv g i ∈ g := by
  unfold prv
  split
  · rw [List.getD_eq_getElem?_getD, List.getElem?_eq_getElem (by omega)]
    exact List.getElem_mem _
  · rw [List.getD_eq_getElem?_getD, List.getElem?_eq_getElem (by omega)]
    exact List.getElem_mem _
theorem prv_ne {g : List Nat} {i : Nat} (nd : g.Nodup) (h2 : 2 ≤ g.length) (h : i < g.length) : prv g i ≠ g[i] := by
  unfold prv
  split
  · rw [List.getD_eq_getElem?_getD, List.getElem?_eq_getElem (by omega)]
    intro e
    have := (List.getElem_inj nd).mp (show g[g.length - 1] = g[i] from e)
    omega
  · rw [List.getD_eq_getElem?_getD, List.getElem?_eq_getElem (by omega)]
    intro e
    have := (List.getElem_inj nd).mp (show g[i - 1] = g[i] from e)
    omega
theorem prv_cov {g : List Nat} (x : Nat) (h : x ∈ g) : ∃ i, i < g.length ∧ prv g i = x := by
  obtain ⟨j, hj, rfl⟩ := List.getElem_of_mem h
  by_cases hl : j = g.length - 1
  · refine ⟨0, by omega, ?_⟩
    unfold prv
    rw [if_pos rfl, List.getD_eq_getElem?_getD, List.getElem?_eq_getElem (by omega)]
    simp [hl]
  · refine ⟨j + 1, by omega, ?_⟩
    unfold prv
    rw [if_neg (by omega), List.getD_eq_getElem?_getD, List.getElem?_eq_getElem (by omega)]
    simp
theorem nth_range {n i : Nat} {d : D} (h : ((List.range n).map nD)[i]? = some d) : i < n ∧ d = .int (i : Nat) := by
  have h1 : i < n := by
    have := (List.getElem?_eq_some_iff.mp h).1
    simpa using this
  rw [List.getElem?_map, List.getElem?_range h1] at h
  exact ⟨h1, by simpa using h.symm⟩
section
variable (c m : D) (n : Nat) (mk od gr : Option D) (dg : List Nat)
def wEnv (a : Nat) (x9 x10 x11 x12 x13 x14 : Option D) : Rho := [some c, some m, some (.int (n : Nat)), mk, od, some (.lst (dg.map nD)), gr, some (.ref 0), some (.int (a : Nat)), x9, x10, x11, x12, x13, x14]
def rowsOk (R : List Row) : Prop := ∀ r ∈ R, rowOk n r = true
def Cov (R : List Row) (l : List Nat) : Prop := ∀ p ∈ l, p ∈ R.map (·.1) ∧ p ∈ R.map (·.2.1)
end
end DL

set_option maxHeartbeats 400000
namespace DL
/-! ### worths, plainly -/
abbrev Stp := Int × Nat
def Wt (st : List Stp) : Int := (st.map fun x => (x.2 : Int)).sum
def meanV (st : List Stp) (f : Int → Int) (p : Int) : Int := (st.map fun x => (x.2 : Int) * f (p + x.1)).sum
def Vv (b : Bool) (st : List Stp) : Nat → Int → Int
  | 0, p => max p 0
  | n + 1, p => if b then max (meanV st (Vv b st n) p) (p * Wt st ^ (n + 1)) else meanV st (Vv b st n) p
theorem mean_nil (f : Int → Int) (p : Int) : meanV [] f p = 0 := rfl
theorem mean_cons (x : Stp) (st : List Stp) (f : Int → Int) (p : Int) : meanV (x :: st) f p = (x.2 : Int) * f (p + x.1) + meanV st f p := by simp [meanV]
theorem Wt_cons (x : Stp) (st : List Stp) : Wt (x :: st) = (x.2 : Int) + Wt st := by simp [Wt]
theorem mean_mono {st : List Stp} {f g : Int → Int} {p : Int} (h : ∀ x ∈ st, f (p + x.1) ≤ g (p + x.1)) : meanV st f p ≤ meanV st g p := by
  induction st with
  | nil => exact Int.le_refl _
  | cons x st ih =>
    rw [mean_cons, mean_cons]
    have h1 := Int.mul_le_mul_of_nonneg_left (h x List.mem_cons_self) (Int.natCast_nonneg x.2)
    have h2 := ih fun y m => h y (List.mem_cons_of_mem _ m)
    omega
theorem mean_congr {st : List Stp} {f g : Int → Int} {p : Int} (h : ∀ x ∈ st, f (p + x.1) = g (p + x.1)) : meanV st f p = meanV st g p :=
  Int.le_antisymm (mean_mono fun x m => Int.le_of_eq (h x m)) (mean_mono fun x m => Int.le_of_eq (h x m).symm)
theorem mean_smul (st : List Stp) (k : Int) (f : Int → Int) (p : Int) : meanV st (fun q => k * f q) p = k * meanV st f p := by
  induction st with
  | nil => simp [mean_nil]
  | cons x st ih =>
    rw [mean_cons, mean_cons, ih, Int.mul_add]
    congr 1
    rw [← Int.mul_assoc, Int.mul_comm (x.2 : Int) k, Int.mul_assoc]
theorem mean_const (st : List Stp) (k : Int) (p : Int) : meanV st (fun _ => k) p = Wt st * k := by
  induction st with
  | nil => simp [mean_nil, Wt]
  | cons x st ih => rw [mean_cons, ih, Wt_cons, Int.add_mul]
theorem Wt_nn (st : List Stp) : 0 ≤ Wt st := by
  induction st with
  | nil => simp [Wt]
  | cons x st ih => rw [Wt_cons]; omega
theorem pow_nn {a : Int} (h : 0 ≤ a) (n : Nat) : 0 ≤ a ^ n := by
  induction n with
  | zero => simp
  | succ n ih => rw [Int.pow_succ]; exact Int.mul_nonneg ih h
theorem pow_pos' {a : Int} (h : 0 < a) (n : Nat) : 0 < a ^ n := by
  induction n with
  | zero => simp
  | succ n ih => rw [Int.pow_succ]; exact Int.mul_pos ih h
theorem max_smul {k : Int} (h : 0 ≤ k) (a b : Int) : max (k * a) (k * b) = k * max a b := by
  by_cases hab : a ≤ b
  · rw [Int.max_eq_right hab, Int.max_eq_right (Int.mul_le_mul_of_nonneg_left hab h)]
  · have hab' : b ≤ a := by omega
    rw [Int.max_eq_left hab', Int.max_eq_left (Int.mul_le_mul_of_nonneg_left hab' h)]
/-- shares in proportion -/
def stS (t : Nat) (st : List Stp) : List Stp := st.map fun x => (x.1, t * x.2)
theorem Wt_S (t : Nat) (st : List Stp) : Wt (stS t st) = t * Wt st := by
  induction st with
  | nil => simp [stS, Wt]
  | cons x st ih =>
    have e : stS t (x :: st) = (x.1, t * x.2) :: stS t st := rfl
    rw [e, Wt_cons, Wt_cons, ih, Int.mul_add]
    simp
theorem mean_S (t : Nat) (st : List Stp) (f : Int → Int) (p : Int) : meanV (stS t st) f p = t * meanV st f p := by
  induction st with
  | nil => simp [stS, mean_nil]
  | cons x st ih =>
    have e : stS t (x :: st) = (x.1, t * x.2) :: stS t st := rfl
    rw [e, mean_cons, mean_cons, ih, Int.mul_add]
    simp [Int.mul_assoc]
theorem V_S (b : Bool) (t : Nat) (st : List Stp) : ∀ (n : Nat) (p : Int), Vv b (stS t st) n p = (t : Int) ^ n * Vv b st n p
  | 0, p => by simp [Vv]
  | n + 1, p => by
    have ih : meanV (stS t st) (Vv b (stS t st) n) p = (t : Int) ^ (n + 1) * meanV st (Vv b st n) p := by
      rw [mean_S, mean_congr (g := fun q => (t : Int) ^ n * Vv b st n q) fun x _ => V_S b t st n _, mean_smul, Int.pow_succ, ← Int.mul_assoc, Int.mul_comm (t : Int)]
    have e2 : p * Wt (stS t st) ^ (n + 1) = (t : Int) ^ (n + 1) * (p * Wt st ^ (n + 1)) := by
      rw [Wt_S, Int.mul_pow, ← Int.mul_assoc, ← Int.mul_assoc, Int.mul_comm p]
    unfold Vv
    rw [ih, e2]
    cases b with
    | false => rfl
    | true => exact max_smul (pow_nn (Int.natCast_nonneg t) _) _ _
/-- prices in proportion -/
def stP (t : Nat) (st : List Stp) : List Stp := st.map fun x => (t * x.1, x.2)
theorem Wt_P (t : Nat) (st : List Stp) : Wt (stP t st) = Wt st := by simp [Wt, stP, List.map_map, Function.comp_def]
theorem mean_P (t : Nat) (st : List Stp) (f g : Int → Int) (p : Int) (h : ∀ q, f (t * q) = t * g q) : meanV (stP t st) f (t * p) = t * meanV st g p := by
  induction st with
  | nil => simp [stP, mean_nil]
  | cons x st ih =>
    have e : stP t (x :: st) = (t * x.1, x.2) :: stP t st := rfl
    rw [e, mean_cons, mean_cons, ih, Int.mul_add, ← Int.mul_add, h]
    congr 1
    rw [← Int.mul_assoc, ← Int.mul_assoc, Int.mul_comm (x.2 : Int)]
theorem V_P (b : Bool) (t : Nat) (st : List Stp) : ∀ (n : Nat) (p : Int), Vv b (stP t st) n (t * p) = t * Vv b st n p
  | 0, p => by
    have := max_smul (Int.natCast_nonneg t) p 0
    simpa [Vv] using this
  | n + 1, p => by
    have ih := mean_P t st (Vv b (stP t st) n) (Vv b st n) p fun q => V_P b t st n q
    unfold Vv
    rw [ih, Wt_P, Int.mul_assoc]
    cases b with
    | false => rfl
    | true => exact max_smul (Int.natCast_nonneg t) _ _
theorem V_nn (b : Bool) (st : List Stp) : ∀ (n : Nat) (p : Int), 0 ≤ Vv b st n p
  | 0, p => by unfold Vv; omega
  | n + 1, p => by
    have h : 0 ≤ meanV st (Vv b st n) p := by
      have := mean_mono (st := st) (f := fun _ => 0) (g := Vv b st n) (p := p) fun x _ => V_nn b st n _
      rw [mean_const] at this
      omega
    unfold Vv
    cases b with
    | false => exact h
    | true => exact Int.le_trans h (Int.le_max_left ..)
theorem V_price (st : List Stp) (n : Nat) (p : Int) : p * Wt st ^ n ≤ Vv true st n p := by
  cases n with
  | zero => unfold Vv; simp; omega
  | succ n => unfold Vv; exact Int.le_max_right ..
theorem V_longer (st : List Stp) : ∀ (n : Nat) (p : Int), Wt st * Vv true st n p ≤ Vv true st (n + 1) p
  | 0, p => by
    have h1 := V_price st 1 p
    have h2 := V_nn true st 1 p
    unfold Vv
    by_cases hp : 0 ≤ p
    · rw [Int.max_eq_left hp, Int.mul_comm]
      have : p * Wt st ^ 1 = p * Wt st := by rw [Int.pow_succ, Int.pow_zero, Int.one_mul]
      rw [this] at h1
      exact h1
    · rw [Int.max_eq_right (by omega), Int.mul_zero]
      exact h2
  | n + 1, p => by
    have h := mean_mono (st := st) (f := fun q => Wt st * Vv true st n q) (g := Vv true st (n + 1)) (p := p) fun x _ => V_longer st n _
    rw [mean_smul] at h
    have e : Vv true st (n + 1) p = max (meanV st (Vv true st n) p) (p * Wt st ^ (n + 1)) := rfl
    have e2 : Vv true st (n + 2) p = max (meanV st (Vv true st (n + 1)) p) (p * Wt st ^ (n + 2)) := rfl
    rw [e, e2, ← max_smul (Wt_nn st)]
    have e3 : Wt st * (p * Wt st ^ (n + 1)) = p * Wt st ^ (n + 2) := by
      rw [Int.pow_succ _ (n + 1), ← Int.mul_assoc, Int.mul_comm (Wt st) p, Int.mul_assoc, Int.mul_comm (Wt st), ← Int.mul_assoc, Int.mul_assoc]
    rw [e3]
    omega
theorem V_held (st : List Stp) : ∀ (n : Nat) (p : Int), Vv false st n p ≤ Vv true st n p
  | 0, p => Int.le_refl _
  | n + 1, p => by
    have h := mean_mono (st := st) (f := Vv false st n) (g := Vv true st n) (p := p) fun x _ => V_held st n _
    unfold Vv
    exact Int.le_trans h (Int.le_max_left ..)
theorem V_down {st : List Stp} (h : ∀ x ∈ st, x.1 ≤ 0) : ∀ (n : Nat) (p : Int), Vv true st n p = max 0 p * Wt st ^ n
  | 0, p => by unfold Vv; simp; omega
  | n + 1, p => by
    have hW := pow_nn (Wt_nn st) n
    have h1 : meanV st (Vv true st n) p ≤ Wt st * (max 0 p * Wt st ^ n) := by
      rw [← mean_const]
      refine mean_mono fun x m => ?_
      rw [V_down h n]
      have := h x m
      exact Int.mul_le_mul_of_nonneg_right (by omega) hW
    have h2 : 0 ≤ Vv true st (n + 1) p := V_nn ..
    have e : Vv true st (n + 1) p = max (meanV st (Vv true st n) p) (p * Wt st ^ (n + 1)) := rfl
    have e3 : Wt st * (max 0 p * Wt st ^ n) = max 0 p * Wt st ^ (n + 1) := by
      rw [Int.pow_succ, ← Int.mul_assoc, Int.mul_comm (Wt st), Int.mul_assoc, Int.mul_comm (Wt st)]
    rw [e3] at h1
    by_cases hp : 0 ≤ p
    · rw [Int.max_eq_right hp] at h1 ⊢
      omega
    · rw [Int.max_eq_left (by omega), Int.zero_mul] at h1 ⊢
      have := Int.mul_le_mul_of_nonneg_right (by omega : p ≤ 0) (pow_nn (Wt_nn st) (n + 1))
      rw [Int.zero_mul] at this
      omega
theorem V_up {st : List Stp} (h : ∀ x ∈ st, 0 ≤ x.1) : ∀ (n : Nat) (p : Int), Vv true st n p = Vv false st n p
  | 0, p => rfl
  | n + 1, p => by
    have e : meanV st (Vv true st n) p = meanV st (Vv false st n) p := mean_congr fun x _ => V_up h n _
    have h1 : p * Wt st ^ (n + 1) ≤ meanV st (Vv true st n) p := by
      have : p * Wt st ^ (n + 1) = Wt st * (p * Wt st ^ n) := by
        rw [Int.pow_succ, ← Int.mul_assoc, Int.mul_comm (Wt st)]
      rw [this, ← mean_const]
      refine mean_mono fun x m => ?_
      refine Int.le_trans ?_ (V_price st n _)
      have := h x m
      exact Int.mul_le_mul_of_nonneg_right (by omega) (pow_nn (Wt_nn st) n)
    unfold Vv
    rw [← e]
    omega
/-! ### fractions -/
def fr (a b : Int) : Int × Int := (a / (Int.gcd a b : Int), b / (Int.gcd a b : Int))
theorem gcd_pos' {a b : Int} (h : 0 < b) : 0 < (Int.gcd a b : Int) := by
  have := Int.gcd_pos_of_ne_zero_right a (by omega : b ≠ 0)
  omega
theorem fr_spec {a b : Int} (h : 0 < b) : ∃ g : Int, 0 < g ∧ a = g * (fr a b).1 ∧ b = g * (fr a b).2 ∧ 0 < (fr a b).2 ∧ (fr a b).2 ≤ b := by
  have hg := gcd_pos' (a := a) h
  have ha : a = (Int.gcd a b : Int) * (a / (Int.gcd a b : Int)) := (Int.mul_ediv_cancel' (Int.gcd_dvd_left ..)).symm
  have hb : b = (Int.gcd a b : Int) * (b / (Int.gcd a b : Int)) := (Int.mul_ediv_cancel' (Int.gcd_dvd_right ..)).symm
  refine ⟨_, hg, ha, hb, ?_, ?_⟩
  · show 0 < b / (Int.gcd a b : Int)
    rcases Int.lt_or_le 0 (b / (Int.gcd a b : Int)) with z | z
    · exact z
    · exfalso
      have := Int.mul_le_mul_of_nonneg_left z (Int.le_of_lt hg)
      rw [← hb] at this
      omega
  · exact Int.ediv_le_self _ (by omega)
theorem fr_scale {k : Int} (hk : 0 < k) (a b : Int) (hb : 0 < b) : fr (k * a) (k * b) = fr a b := by
  have hg := gcd_pos' (a := a) hb
  have e : (Int.gcd (k * a) (k * b) : Int) = k * (Int.gcd a b : Int) := by
    rw [Int.gcd_mul_left, Int.natCast_mul, Int.natAbs_of_nonneg (Int.le_of_lt hk)]
  unfold fr
  rw [e, Int.mul_ediv_mul_of_pos _ _ hk, Int.mul_ediv_mul_of_pos _ _ hk]
theorem fr_again {a b : Int} (h : 0 < b) (t : Int) : fr (t * (fr a b).1) (fr a b).2 = fr (t * a) b := by
  obtain ⟨g, hg, e1, e2, h3, _⟩ := fr_spec (a := a) h
  generalize (fr a b).1 = x at *
  generalize (fr a b).2 = y at *
  subst e1 e2
  have e3 : t * (g * x) = g * (t * x) := by rw [← Int.mul_assoc, Int.mul_comm t g, Int.mul_assoc]
  rw [e3, fr_scale hg _ _ h3]
theorem fr_sub {a b : Int} (h : 0 < b) (m : Int) : fr ((fr a b).1 - m * (fr a b).2) (fr a b).2 = fr (a - m * b) b := by
  obtain ⟨g, hg, e1, e2, h3, _⟩ := fr_spec (a := a) h
  generalize (fr a b).1 = x at *
  generalize (fr a b).2 = y at *
  subst e1 e2
  have e3 : g * x - m * (g * y) = g * (x - m * y) := by rw [Int.mul_sub, ← Int.mul_assoc, Int.mul_comm m g, Int.mul_assoc]
  rw [e3, fr_scale hg _ _ h3]
theorem fr_le {a b a' b' : Int} (h : 0 < b) (h' : 0 < b') (le : a * b' ≤ a' * b) : (fr a b).1 * (fr a' b').2 ≤ (fr a' b').1 * (fr a b).2 := by
  obtain ⟨g, hg, e1, e2, h3, _⟩ := fr_spec (a := a) h
  obtain ⟨g', hg', e1', e2', h3', _⟩ := fr_spec (a := a') h'
  generalize (fr a b).1 = x at *
  generalize (fr a b).2 = y at *
  generalize (fr a' b').1 = x' at *
  generalize (fr a' b').2 = y' at *
  subst e1 e2 e1' e2'
  have e3 : g * x * (g' * y') = (g * g') * (x * y') := by ac_rfl
  have e4 : g' * x' * (g * y) = (g * g') * (x' * y) := by ac_rfl
  rw [e3, e4] at le
  exact Int.le_of_mul_le_mul_left le (Int.mul_pos hg hg')
theorem fr_whole {m b : Int} (h : 0 < b) : fr (m * b) b = (m, 1) := by
  have e : m * b = b * m := Int.mul_comm ..
  have := fr_scale h m 1 (by omega)
  rw [Int.mul_one] at this
  rw [e, this]
  unfold fr
  simp
theorem fr_nn {a b : Int} (h : 0 < b) (ha : 0 ≤ a) : 0 ≤ (fr a b).1 := Int.ediv_nonneg ha (Int.le_of_lt (gcd_pos' h))
end DL

set_option maxHeartbeats 1000000
namespace DL
open PySem PySem.Spec L2
def stepD (x : Stp) : D := .tup [.int x.1, nD x.2]
def walkD (p : Int) (st : List Stp) (T : Nat) : D := .tup [.int p, .tup (st.map stepD), nD T]
structure WalkOk (p : Int) (st : List Stp) (T : Nat) : Prop where
  pl : -1000000 ≤ p
  ph : p ≤ 1000000
  l1 : 1 ≤ st.length
  l4 : st.length ≤ 4
  T7 : T ≤ 7
  ok : ∀ x ∈ st, -100 ≤ x.1 ∧ x.1 ≤ 100 ∧ 1 ≤ x.2 ∧ x.2 ≤ 100
  asc : st.Pairwise fun a b => a.1 < b.1
@[simp] theorem nr_stepD (x : Stp) : nr (stepD x) = true := by simp [stepD]
@[simp] theorem q_stepD (S : Sto) (x : Stp) : seqD S (stepD x) = some [.int x.1, .int x.2] := (rfl)
@[simp] theorem nrs_stepD (l : List Stp) : nrs (l.map stepD) = true := nrs_all.mpr (by
  intro d h
  obtain ⟨r, _, rfl⟩ := List.mem_map.mp h
  exact nr_stepD r)
@[simp] theorem nr_walkD (p : Int) (st : List Stp) (T : Nat) : nr (walkD p st T) = true := by simp [walkD]
@[simp] theorem q_walkD (S : Sto) (p : Int) (st : List Stp) (T : Nat) : seqD S (walkD p st T) = some [.int p, .tup (st.map stepD), .int T] := (rfl)
@[simp] theorem ok_stepD (n : Nat) (x : Stp) : okD (n + 1) (stepD x) = true := by simp [stepD]
theorem is_walk_ok {p : Int} {st : List Stp} {T : Nat} (W : WalkOk p st T) : f_is_walk [walkD p st T] = some (.bl true) := by
  have a1 := W.pl; have a2 := W.ph; have a3 := W.l1; have a4 := W.l4; have a5 := W.T7
  have a6 : st.length ≤ 1000000 := by omega
  obtain ⟨ρ', S', e, h1, h2⟩ := loop_inv (g := gT 2 (gCons (gN 1) (gCons (gN 2) (gNil)))) (body := l1_is_walk) (ds := st.map stepD) (ρ := [some (walkD p st T), none, none, none, none]) (S := [])
    (fun i ρ S => (∃ a b, ρ = [some (walkD p st T), a, b, none, none]) ∧ S = []) ⟨⟨none, none, rfl⟩, rfl⟩ (by
      rintro i d ρ S hi ⟨⟨a, b, rfl⟩, rfl⟩
      rw [List.getElem?_map, Option.map_eq_some_iff] at hi
      obtain ⟨x, hx, rfl⟩ := hi
      obtain ⟨b1, b2, b3, b4⟩ := W.ok x (List.mem_of_getElem? hx)
      have c1 : ¬ ((x.2 : Int) < 1) := by omega
      have c2 : ¬ (100 < (x.2 : Int)) := by omega
      have c3 : ¬ (x.1 < -100) := by omega
      have c4 : ¬ (100 < x.1) := by omega
      have c5 : (-100 : Int) ≤ x.1 := b1
      have c6 : 1 ≤ (x.2 : Int) := by omega
      have c7 : (x.2 : Int) ≤ 100 := by omega
      exact ⟨[some (walkD p st T), some (.int x.1), some (.int x.2), none, none], [some (walkD p st T), some (.int x.1), some (.int x.2), none, none], [], .nx, by simp [stepD], by simp [l1_is_walk, is_between_i, c5, b2, c6, c7, b3, b4], .inl rfl, ⟨_, _, rfl⟩, rfl⟩)
  obtain ⟨a, b, rfl⟩ := h1
  subst h2
  have c : cmpM (fun k : Nat => ((((atI (st.map stepD) (k : Int)).bind fun x => (seqD [] x).bind fun ds => atI ds 0).bind fun x => (((atI (st.map stepD) ((k : Int) + 1)).bind fun y => (seqD [] y).bind fun ds => atI ds 0).bind fun y => gLt [] x y)))) (List.range (st.length - 1)) = cmpM (fun _ => some (.bl true)) (List.range (st.length - 1)) := by
    refine cmpM_congr rfl fun k hk => ?_
    have h1 : k + 1 < st.length := by have := List.mem_range.mp hk; omega
    have h2 : atI (st.map stepD) ((k : Int) + 1) = some (stepD st[k + 1]) := by
      have := atI_map stepD st (k + 1)
      rw [List.getElem?_eq_getElem h1] at this
      simpa using this
    have h3 : atI (st.map stepD) (k : Int) = some (stepD (st[k]'(by omega))) := by
      rw [atI_map, List.getElem?_eq_getElem (by omega)]; rfl
    rw [h2, h3]
    have := List.pairwise_iff_getElem.mp W.asc k (k + 1) (by omega) h1 (by omega)
    simp [this]
  have d1 : (-1000000 : Int) ≤ p := a1
  have d2 : (1 : Int) ≤ st.length := by omega
  have d3 : (st.length : Int) ≤ 4 := by omega
  have d4 : (T : Int) ≤ 12 := by omega
  have d5 : st.length - 1 ≤ 1000000 := by omega
  have d6 : rng2 [.int 1, .int (st.length : Int)] = some ((List.range (st.length - 1)).map fun k => .int ((k + 1 : Nat) : Int)) := rng2_1 a6
  have d7 : st.map stepD ≠ [] := fun e => by simp at e; rw [e] at a3; simp at a3
  have d8 : st ≠ [] := fun e => by rw [e] at a3; simp at a3
  have d9 : ∀ x : Stp, f_is_tuple_of [stepD x, .int 2] = some (.bl true) := fun x => by simp [stepD, is_tuple_of_t]
  have d10 : (Int.neg 1000000) ≤ p := a1
  have d11 : f_is_tuple_of [walkD p st T, .int 3] = some (.bl true) := by simp [walkD, is_tuple_of_t]
  simp [f_is_walk, b_is_walk, run_eq, startR, d11, is_between_i, d1, a2, d2, d3, d4, d9, a6, e, d6, c, d5]
end DL

set_option maxHeartbeats 1000000
namespace DL
open PySem PySem.Spec L2
section
variable {p : Int} {st : List Stp} {T : Nat}
theorem need_walk_ok (W : WalkOk p st T) : f_need_walk [walkD p st T] = some .non := by
  simp [f_need_walk, b_need_walk, run_eq, startR, runA_nr, is_walk_ok W]
theorem shares_of_w (W : WalkOk p st T) : f_shares_of [walkD p st T] = some (.int (Wt st)) := by
  have h4 := W.l4
  have c := fcomp_all (f := jSeqD (e2 gIx (eV 0) (eC (.int 1)))) (vs := [1, 2]) (g := gT 2 (gCons (gN 1) (gCons (gN 2) (gNil)))) (e := eV 2) (ρ := startR 3 [walkD p st T]) (S := []) stepD st (fun x => .int (x.2 : Int)) (by simp [startR]) (by omega) (fun x _ => ⟨_, by simp [stepD, startR]; rfl, by simp⟩)
  have e : st.map (fun x => D.int (x.2 : Int)) = (st.map fun x => (x.2 : Int)).map .int := by simp
  refine ret_run (ret_ret (x := .int (Wt st)) ?_ rfl)
  rw [x_eCall, x_aCons, x_eF, c, e]
  exact k_sumI [] _
theorem raised_w {b : Int} (hb : b.natAbs < 18446744073709551616) {n : Nat} (hn : n ≤ 1000000) : f_raised_to [.int b, .int n] = some (.int (b ^ n)) := by
  obtain ⟨ρ', S', e, ⟨x, rfl⟩, rfl⟩ := loop_inv (g := gN 3) (body := l1_raised_to) (ds := (List.range n).map nD) (ρ := [some (.int b), some (.int n), some (.int 1), none]) (S := [])
    (fun i ρ S => (∃ x, ρ = [some (.int b), some (.int n), some (.int (b ^ i)), x]) ∧ S = []) ⟨⟨none, by simp⟩, rfl⟩ (by
      rintro i d ρ S hi ⟨⟨x, rfl⟩, rfl⟩
      obtain ⟨hlt, rfl⟩ := nth_range hi
      exact ⟨[some (.int b), some (.int n), some (.int (b ^ i)), some (.int i)], [some (.int b), some (.int n), some (.int (b ^ (i + 1))), some (.int i)], [], .nx, rfl, by simp [l1_raised_to, cMul_r hb, Int.pow_succ], .inl rfl, ⟨_, rfl⟩, rfl⟩)
  simp [f_raised_to, b_raised_to, run_eq, startR, rng1_nat hn, e]
theorem Wt_le {st : List Stp} (h : ∀ x ∈ st, x.2 ≤ 100) : Wt st ≤ 100 * st.length := by
  induction st with
  | nil => simp [Wt]
  | cons x st ih =>
    have := h x List.mem_cons_self
    have := ih fun y m => h y (List.mem_cons_of_mem _ m)
    rw [Wt_cons, List.length_cons]
    omega
theorem Wt_400 (W : WalkOk p st T) : Wt st ≤ 400 := by
  have := Wt_le fun x m => (W.ok x m).2.2.2
  have := W.l4
  omega
theorem Wt_pos (W : WalkOk p st T) : 0 < Wt st := by
  have h1 := W.l1
  match st, W, h1 with
  | x :: st, W, _ =>
    have := (W.ok x List.mem_cons_self).2.2.1
    have := Wt_nn st
    rw [Wt_cons]
    omega
/-! ### prices -/
/-- what can come at a tick -/
def Rch (p : Int) (st : List Stp) : Nat → Int → Prop
  | 0, q => q = p
  | n + 1, q => ∃ r x, Rch p st n r ∧ x ∈ st ∧ q = r + x.1
theorem step_pr (W : WalkOk p st T) {ρ : Rho} {S : Sto} (h0 : ρ[0]? = some (some (walkD p st T))) (hlen : ρ.length = 6) {L : List Int} (vs : List D) (nd : L.Nodup) (hl : L.length ≤ 100000) {q : Int} :
    ∃ (L' : List Int) (vs' : List D), kFor (jSeqD (e2 gIx (eV 0) (eC (.int 1)))) [5, 3] (gT 2 (gCons (gN 5) (gCons (gN 3) (gNil)))) (bYes) (kD (e2 gAddA (eV 4) (eV 5)) (eC (.bl true))) (ρ.set 4 (some (.int q))) S (L.map .int, vs) = some (L'.map .int, vs') ∧ L'.Nodup ∧ L'.length ≤ L.length + 4 ∧
      ∀ r, r ∈ L' ↔ r ∈ L ∨ ∃ x ∈ st, r = q + x.1 := by
  have h4 := W.l4
  match ρ, hlen with
  | [r0, r1, r2, r3, r4, r5], _ =>
  simp only [List.getElem?_cons_zero, Option.some.injEq] at h0
  subst h0
  obtain ⟨⟨ks', vs'⟩, e, hi, L', hks, nd', hl', hm⟩ := kForL_inv (g := gT 2 (gCons (gN 5) (gCons (gN 3) (gNil)))) (t := bYes) (k := kD (e2 gAddA (eV 4) (eV 5)) (eC (.bl true))) (ρ := wipeR [some (walkD p st T), r1, r2, r3, some (.int q), r5] [5, 3]) (S := S) (ds := st.map stepD) (a0 := (L.map .int, vs))
    (fun i a => i ≤ st.length ∧ ∃ L' : List Int, a.1 = L'.map .int ∧ L'.Nodup ∧ L'.length ≤ L.length + i ∧ ∀ r, r ∈ L' ↔ r ∈ L ∨ ∃ x ∈ st.take i, r = q + x.1) ⟨Nat.zero_le _, L, rfl, nd, Nat.le_refl _, fun r => by simp⟩ (by
      rintro i d ⟨ks, ws⟩ hi ⟨hil, L1, hk, nd1, hl1, hm1⟩
      rw [List.getElem?_map, Option.map_eq_some_iff] at hi
      obtain ⟨x, hx, rfl⟩ := hi
      have hlt : i < st.length := (List.getElem?_eq_some_iff.mp hx).1
      have hk : ks = L1.map .int := hk
      subst hk
      refine ⟨[some (walkD p st T), r1, r2, some (.int x.2), some (.int q), some (.int x.1)], true, by simp [stepD], rfl, (dk1 (L1.map .int) (.int (q + x.1)), dv1 (L1.map .int) ws (.int (q + x.1)) (.bl true)), ?_, by omega, if q + x.1 ∈ L1 then L1 else L1 ++ [q + x.1], by rw [dk1_int], ?_, ?_, ?_⟩
      · have hs : L1.length ≤ 1000000 := by omega
        simp [kD, hs]
      · split
        · exact nd1
        · rename_i hn
          rw [List.nodup_append]
          exact ⟨nd1, by simp, fun a ha b hb => by rw [List.mem_singleton] at hb; subst hb; exact fun e => hn (e ▸ ha)⟩
      · split
        · omega
        · simp; omega
      · intro r
        have et : st.take (i + 1) = st.take i ++ [x] := by rw [List.take_add_one, hx]; rfl
        rw [et]
        have : (r ∈ (if q + x.1 ∈ L1 then L1 else L1 ++ [q + x.1])) ↔ r ∈ L1 ∨ r = q + x.1 := by
          split
          · rename_i hin
            constructor
            · exact .inl
            · rintro (h | rfl)
              · exact h
              · exact hin
          · simp
        rw [this, hm1]
        constructor
        · rintro ((h | ⟨y, hy, e⟩) | h)
          · exact .inl h
          · exact .inr ⟨y, List.mem_append_left _ hy, e⟩
          · exact .inr ⟨x, by simp, h⟩
        · rintro (h | ⟨y, hy, e⟩)
          · exact .inl (.inl h)
          · rcases List.mem_append.mp hy with hy | hy
            · exact .inl (.inr ⟨y, hy, e⟩)
            · rw [List.mem_singleton] at hy; subst hy; exact .inr e)
  have hks : ks' = L'.map .int := hks
  subst hks
  refine ⟨L', vs', ?_, nd', by simp at hl'; omega, fun r => by rw [hm r]; simp⟩
  unfold kFor
  simp only [x_jSeqD, x_e2, x_eV, x_eC, List.set_cons_succ, List.set_cons_zero, List.getElem?_cons_zero, Option.bind_some, id, y_ix, q_walkD, atI_1, q_tup]
  exact e
theorem step_prs (W : WalkOk p st T) {ρ : Rho} {S : Sto} (h0 : ρ[0]? = some (some (walkD p st T))) (hlen : ρ.length = 6) {L : List Int} (hl : L.length ≤ 20000) :
    ∃ (L' : List Int) (vs' : List D), kForL (gN 4) (bYes) (kFor (jSeqD (e2 gIx (eV 0) (eC (.int 1)))) [5, 3] (gT 2 (gCons (gN 5) (gCons (gN 3) (gNil)))) (bYes) (kD (e2 gAddA (eV 4) (eV 5)) (eC (.bl true)))) (wipeR ρ [4, 5, 3]) S (L.map .int) ([], []) = some (L'.map .int, vs') ∧ L'.Nodup ∧ L'.length ≤ 4 * L.length ∧
      ∀ r, r ∈ L' ↔ ∃ q ∈ L, ∃ x ∈ st, r = q + x.1 := by
  match ρ, hlen with
  | [r0, r1, r2, r3, r4, r5], _ =>
  simp only [List.getElem?_cons_zero, Option.some.injEq] at h0
  subst h0
  obtain ⟨⟨ks', vs'⟩, e, hi, L', hks, nd', hl', hm⟩ := kForL_inv (g := gN 4) (t := bYes) (k := kFor (jSeqD (e2 gIx (eV 0) (eC (.int 1)))) [5, 3] (gT 2 (gCons (gN 5) (gCons (gN 3) (gNil)))) (bYes) (kD (e2 gAddA (eV 4) (eV 5)) (eC (.bl true)))) (ρ := [some (walkD p st T), r1, r2, none, none, none]) (S := S) (ds := L.map .int) (a0 := ([], []))
    (fun i a => i ≤ L.length ∧ ∃ L' : List Int, a.1 = L'.map .int ∧ L'.Nodup ∧ L'.length ≤ 4 * i ∧ ∀ r, r ∈ L' ↔ ∃ q ∈ L.take i, ∃ x ∈ st, r = q + x.1) ⟨Nat.zero_le _, [], rfl, List.nodup_nil, by simp, fun r => by simp⟩ (by
      rintro i d ⟨ks, ws⟩ hi ⟨hil, L1, hk, nd1, hl1, hm1⟩
      rw [List.getElem?_map, Option.map_eq_some_iff] at hi
      obtain ⟨q, hq, rfl⟩ := hi
      have hlt : i < L.length := (List.getElem?_eq_some_iff.mp hq).1
      have hk : ks = L1.map .int := hk
      subst hk
      obtain ⟨L2, vs2, e2, nd2, hl2, hm2⟩ := step_pr W (ρ := [some (walkD p st T), r1, r2, none, none, none]) (S := S) rfl rfl (L := L1) ws nd1 (by omega) (q := q)
      refine ⟨_, true, rfl, rfl, (L2.map .int, vs2), e2, by omega, L2, rfl, nd2, by omega, fun r => ?_⟩
      have et : L.take (i + 1) = L.take i ++ [q] := by rw [List.take_add_one, hq]; rfl
      rw [hm2, hm1, et]
      constructor
      · rintro (⟨q', h1, h2⟩ | h)
        · exact ⟨q', List.mem_append_left _ h1, h2⟩
        · exact ⟨q, by simp, h⟩
      · rintro ⟨q', h1, h2⟩
        rcases List.mem_append.mp h1 with h1 | h1
        · exact .inl ⟨q', h1, h2⟩
        · rw [List.mem_singleton] at h1; subst h1; exact .inr h2)
  have hks : ks' = L'.map .int := hks
  subst hks
  exact ⟨L', vs', e, nd', by simpa using hl', fun r => by rw [hm r]; simp⟩
theorem prices_w (W : WalkOk p st T) {t : Nat} (ht : t ≤ 7) : ∃ L : List Int, f_prices_at [walkD p st T, .int t] = some (.lst (L.map .int)) ∧ L.Nodup ∧ L.length ≤ 4 ^ t ∧ ∀ q, q ∈ L ↔ Rch p st t q := by
  obtain ⟨ρ', S', e, n, y, L, vs, rfl, hS, nd, hl, hm⟩ := loop_inv (g := gN 3) (body := l1_prices_at) (ds := (List.range t).map nD) (ρ := [some (walkD p st T), some (.int t), some (.ref 0), none, none, none]) (S := [.dic false [.int p] [.bl true]])
    (fun i ρ S => ∃ (n : Nat) (y : Option D) (L : List Int) (vs : List D), ρ = [some (walkD p st T), some (.int t), some (.ref n), y, none, none] ∧ S[n]? = some (.dic false (L.map .int) vs) ∧ L.Nodup ∧ L.length ≤ 4 ^ i ∧ ∀ q, q ∈ L ↔ Rch p st i q)
    ⟨0, none, [p], [.bl true], rfl, rfl, by simp, by simp, fun q => by simp [Rch]⟩ (by
      rintro i d ρ S hi ⟨n, y, L, vs, rfl, hS, nd, hl, hm⟩
      obtain ⟨hlt, rfl⟩ := nth_range hi
      have h47 : 4 ^ i ≤ 4 ^ 7 := Nat.pow_le_pow_right (by decide) (by omega)
      have hn : n < S.length := (List.getElem?_eq_some_iff.mp hS).1
      obtain ⟨L', vs', e, nd', hl', hm'⟩ := step_prs W (ρ := [some (walkD p st T), some (.int t), some (.ref n), some (.int i), none, none]) (S := S.set n .lck) rfl rfl (L := L) (by omega)
      have lk : lckOf (eV 2) [some (walkD p st T), some (.int t), some (.ref n), some (.int i), none, none] S = some (n, L.map .int) := by
        simp [lckOf, hS]
      have ec : cDcK (eV 2) [4, 5, 3] (gN 4) (bYes) (kFor (jSeqD (e2 gIx (eV 0) (eC (.int 1)))) [5, 3] (gT 2 (gCons (gN 5) (gCons (gN 3) (gNil)))) (bYes) (kD (e2 gAddA (eV 4) (eV 5)) (eC (.bl true)))) [some (walkD p st T), some (.int t), some (.ref n), some (.int i), none, none] S = some [.dic false (L'.map .int) vs'] := by
        unfold cDcK
        rw [lk, Option.bind_some]
        rw [if_pos (by simp), e]
        rfl
      refine ⟨[some (walkD p st T), some (.int t), some (.ref n), some (.int i), none, none], [some (walkD p st T), some (.int t), some (.ref S.length), some (.int i), none, none], S ++ [.dic false (L'.map .int) vs'], .nx, rfl, ?_, .inl rfl, S.length, _, L', vs', rfl, by simp, nd', ?_, fun q => ?_⟩
      · unfold l1_prices_at
        rw [x_sNewN, ec]
        rfl
      · rw [Nat.pow_succ]; omega
      · rw [hm' q]
        constructor
        · rintro ⟨r, hr, x, hx, e⟩
          exact ⟨r, x, (hm r).mp hr, hx, e⟩
        · rintro ⟨r, x, hr, hx, e⟩
          exact ⟨r, (hm r).mpr hr, x, hx, e⟩)
  obtain ⟨M, pm, em⟩ := perm_sorted D.int L
  simp only [List.length_map, List.length_range] at hl hm
  refine ⟨M, ?_, pm.nodup_iff.mpr nd, by rw [pm.length_eq]; exact hl, fun q => by rw [pm.mem_iff]; exact hm q⟩
  have es := sortK_ref hS (gdS_ints L)
  rw [em] at es
  have ht' : t ≤ 1000000 := by omega
  simp [f_prices_at, b_prices_at, run_eq, startR, x_sNewD1, rng1_nat ht', e, es]
/-! ### the mean ahead -/
theorem mean_w (W : WalkOk p st T) (f : Int → Int) {L : List Int} {q : Int} (h : ∀ x ∈ st, q + x.1 ∈ L) : f_mean_ahead [walkD p st T, .dic false (L.map .int) (L.map fun r => .int (f r)), .int q] = some (.int (meanV st f q)) := by
  have h4 := W.l4
  have c := fcomp_all (f := jSeqD (e2 gIx (eV 0) (eC (.int 1)))) (vs := [3, 4]) (g := gT 2 (gCons (gN 3) (gCons (gN 4) (gNil)))) (e := e2 gMulA (eV 4) (e2 gDGet (eV 1) (e2 gAddA (eV 2) (eV 3)))) (ρ := startR 5 [walkD p st T, .dic false (L.map .int) (L.map fun r => .int (f r)), .int q]) (S := []) stepD st (fun x => .int ((x.2 : Int) * f (q + x.1))) (by simp [startR]) (by omega) (fun x hx => ⟨_, by simp [stepD, startR]; rfl, by
      have hl := lookD_int (fun r => D.int (f r)) (h x hx)
      have hc : cMul (x.2 : Int) (f (q + x.1)) = true := cMul_l (by have := (W.ok x hx).2.2.2; omega)
      simp [gDGet, dicD, hl, hc]⟩)
  have e : st.map (fun x => D.int ((x.2 : Int) * f (q + x.1))) = (st.map fun x => (x.2 : Int) * f (q + x.1)).map .int := by simp
  refine ret_run (ret_ret (x := .int (meanV st f q)) ?_ rfl)
  rw [x_eCall, x_aCons, x_eF, c, e]
  exact k_sumI [] _
end
end DL

set_option maxHeartbeats 1000000
namespace DL
open PySem PySem.Spec L2
theorem frz_dicA {S : Sto} {n : Nat} {t : Bool} {ks vs : List D} (k : Nat) (h : S[n]? = some (.dic t ks vs)) (hn : nrs vs = true) : frz (k + 1) S (.ref n) = some (.dic t ks vs) := by
  show frzS _ (.ref n) = _
  simp only [frzS, h, Option.bind_some]
  rw [mapM_id fun d m => frz_nr k S (nrs_all.mp hn d m)]
  rfl
theorem fz_dicA {S : Sto} {n : Nat} {t : Bool} {ks vs : List D} (h : S[n]? = some (.dic t ks vs)) (hn : nrs vs = true) : fz S (.ref n) = some (.dic t ks vs) := by
  have e : fz S (.ref n) = frz 6 S (.ref n) := if_neg (by simp)
  rw [e]
  exact frz_dicA 5 h hn
theorem mapM_ex {g : D → Option D} : ∀ {ds : List D}, (∀ d ∈ ds, ∃ e, g d = some e ∧ nr e = true) → ∃ es, ds.mapM g = some es ∧ nrs es = true
  | [], _ => ⟨[], rfl, rfl⟩
  | d :: ds, h => by
    obtain ⟨e, h1, n1⟩ := h d List.mem_cons_self
    obtain ⟨es, h2, n2⟩ := mapM_ex fun x m => h x (List.mem_cons_of_mem _ m)
    exact ⟨e :: es, by rw [List.mapM_cons, h1, h2]; rfl, by rw [nrs_cons, n1, n2]; rfl⟩
theorem fz_lst_dics {S : Sto} {n : Nat} {r : Nat} {rs : List D} {t : Bool} {ks vs : List D} (h : S[n]? = some (.lst (.ref r :: rs))) (h1 : S[r]? = some (.dic t ks vs)) (hn : nrs vs = true) (h2 : ∀ d ∈ rs, ∃ m t ks vs, d = .ref m ∧ S[m]? = some (.dic t ks vs) ∧ nrs vs = true) :
    ∃ es, fz S (.ref n) = some (.lst (.dic t ks vs :: es)) ∧ nrs es = true := by
  obtain ⟨es, he, hes⟩ := mapM_ex (g := frz 5 S) (ds := rs) fun d m => by
    obtain ⟨m, t, ks, vs, rfl, q, o⟩ := h2 d m
    exact ⟨_, frz_dicA 4 q o, o⟩
  refine ⟨es, ?_, hes⟩
  have e : fz S (.ref n) = frz 6 S (.ref n) := if_neg (by simp)
  rw [e]
  show frzS _ (.ref n) = _
  simp only [frzS, h, Option.bind_some]
  rw [List.mapM_cons, frz_dicA 4 h1 hn, he]
  rfl
def dic0 (L : List Int) (f : Int → Int) : Cell := .dic false (L.map .int) (L.map fun q => .int (f q))
theorem nrs_ints (L : List Int) (f : Int → Int) : nrs (L.map fun q => D.int (f q)) = true := nrs_all.mpr (by
  intro d h
  obtain ⟨r, _, rfl⟩ := List.mem_map.mp h
  rfl)
section
variable {p : Int} {st : List Stp} {T : Nat}
theorem W_pow (W : WalkOk p st T) {k : Nat} (hk : k ≤ 7) : (Wt st ^ k).natAbs < 18446744073709551616 ∧ 0 < Wt st ^ k := by
  have h1 := Wt_pos W
  have h2 := Wt_400 W
  obtain ⟨w, hw⟩ := Int.eq_ofNat_of_zero_le (Int.le_of_lt h1)
  rw [hw] at h1 h2 ⊢
  have h3 : w ≤ 400 := by omega
  have h4 : w ^ k ≤ 400 ^ 7 := Nat.le_trans (Nat.pow_le_pow_left h3 k) (Nat.pow_le_pow_right (by decide) hk)
  have h5 : ((w : Int) ^ k) = ((w ^ k : Nat) : Int) := by simp
  have h6 : 0 < w ^ k := Nat.pow_pos (by omega)
  rw [h5]
  have h7 : (400 : Nat) ^ 7 = 163840000000000000 * 10 := by decide
  omega
def gV (b : Bool) (st : List Stp) (f : Int → Int) (k : Nat) (q : Int) : Int := if b then max (meanV st f q) (q * Wt st ^ k) else meanV st f q
theorem put_loop (W : WalkOk p st T) (b : Bool) (f : Int → Int) {L L' : List Int} (nd : L'.Nodup) (hl : L'.length ≤ 100000) (hin : ∀ q ∈ L', ∀ x ∈ st, q + x.1 ∈ L) {k : Nat} (hk : k ≤ 7) (tick : D) {S : Sto} {m n : Nat} {rs : List D}
    (h0 : S[0]? = some (.lst (.ref m :: rs))) (hm : S[m]? = some (dic0 L f)) (hn : S[n]? = some (.dic false [] [])) (hmn : m ≠ n) (hn0 : n ≠ 0) (y7 y8 : Option D) :
    ∃ z7 z8, loopL (gN 7) l2_tables_of (L'.map .int) [some (walkD p st T), some (.bl b), some (.int (Wt st)), some (.ref 0), some tick, some (.int (Wt st ^ k)), some (.ref n), y7, y8] S =
      some (.nx, [some (walkD p st T), some (.bl b), some (.int (Wt st)), some (.ref 0), some tick, some (.int (Wt st ^ k)), some (.ref n), z7, z8], S.set n (dic0 L' (gV b st f k))) := by
  have hnl : n < S.length := (List.getElem?_eq_some_iff.mp hn).1
  obtain ⟨ρ', S', e, ⟨z7, z8, rfl⟩, rfl⟩ := loop_inv (g := gN 7) (body := l2_tables_of) (ds := L'.map .int) (ρ := [some (walkD p st T), some (.bl b), some (.int (Wt st)), some (.ref 0), some tick, some (.int (Wt st ^ k)), some (.ref n), y7, y8]) (S := S)
    (fun i ρ S1 => (∃ z7 z8, ρ = [some (walkD p st T), some (.bl b), some (.int (Wt st)), some (.ref 0), some tick, some (.int (Wt st ^ k)), some (.ref n), z7, z8]) ∧ S1 = S.set n (dic0 (L'.take i) (gV b st f k))) ⟨⟨_, _, rfl⟩, by
      have : dic0 ([] : List Int) (gV b st f k) = .dic false [] [] := rfl
      rw [List.take_zero, this]
      apply List.ext_getElem?
      intro j
      by_cases hj : n = j
      · subst hj; rw [List.getElem?_set_self hnl, hn]
      · rw [List.getElem?_set_ne hj]⟩ (by
      rintro i d ρ S1 hi ⟨⟨z7, z8, rfl⟩, rfl⟩
      rw [List.getElem?_map, Option.map_eq_some_iff] at hi
      obtain ⟨q, hq, rfl⟩ := hi
      have hlt : i < L'.length := (List.getElem?_eq_some_iff.mp hq).1
      have hqe : L'[i] = q := (List.getElem?_eq_some_iff.mp hq).2
      have nq : q ∉ L'.take i := fun m => by
        rw [List.mem_take_iff_getElem] at m
        obtain ⟨j, hj, e⟩ := m
        exact List.pairwise_iff_getElem.mp nd j i (by omega) hlt (by omega) (e.trans hqe.symm)
      have et : L'.take (i + 1) = L'.take i ++ [q] := by rw [List.take_add_one, hq]; rfl
      have mw := mean_w W f (L := L) (q := q) (hin q (List.mem_of_getElem? hq))
      have s0 : (S.set n (dic0 (L'.take i) (gV b st f k)))[0]? = some (.lst (.ref m :: rs)) := by rw [List.getElem?_set_ne hn0]; exact h0
      have sm : (S.set n (dic0 (L'.take i) (gV b st f k)))[m]? = some (dic0 L f) := by rw [List.getElem?_set_ne (Ne.symm hmn)]; exact hm
      have sn : (S.set n (dic0 (L'.take i) (gV b st f k)))[n]? = some (dic0 (L'.take i) (gV b st f k)) := List.getElem?_set_self hnl
      have e1 : runA (S.set n (dic0 (L'.take i) (gV b st f k))) f_mean_ahead [walkD p st T, .ref m, .int q] = some (.int (meanV st f q)) := by
        unfold runA
        rw [if_neg (by simp)]
        have fd := fz_dicA sm (nrs_ints L f)
        simp only [fzs, fz_nr (nr_walkD p st T), fd, fz_int, Option.bind_some, Option.map_some, mw]
        rfl
      have hc := cMul_r (i := q) (W_pow W hk).1
      have hv : (eIf (eTru (eV 1)) (eCall cMax2 (aCons (eV 8) (aCons (e2 gMulA (eV 7) (eV 5)) (aNil)))) (eV 8)) [some (walkD p st T), some (.bl b), some (.int (Wt st)), some (.ref 0), some tick, some (.int (Wt st ^ k)), some (.ref n), some (.int q), some (.int (meanV st f q))] (S.set n (dic0 (L'.take i) (gV b st f k))) = some (.int (gV b st f k q)) := by
        cases b with
        | false => simp [gV]
        | true =>
          simp [gV, hc]
          omega
      refine ⟨[some (walkD p st T), some (.bl b), some (.int (Wt st)), some (.ref 0), some tick, some (.int (Wt st ^ k)), some (.ref n), some (.int q), z8], [some (walkD p st T), some (.bl b), some (.int (Wt st)), some (.ref 0), some tick, some (.int (Wt st ^ k)), some (.ref n), some (.int q), some (.int (meanV st f q))], S.set n (dic0 (L'.take (i + 1)) (gV b st f k)), .nx, rfl, ?_, .inl rfl, ⟨_, _, rfl⟩, rfl⟩
      have dc : dcell (S.set n (dic0 (L'.take i) (gV b st f k))) (.ref n) = some (n, false, (L'.take i).map .int, (L'.take i).map fun q => .int (gV b st f k q)) := by
        show (match (S.set n (dic0 (L'.take i) (gV b st f k)))[n]? with | some (.dic t ks vs) => some (n, t, ks, vs) | _ => none) = _
        rw [sn]
        rfl
      have sq : seqD (S.set n (dic0 (L'.take i) (gV b st f k))) (.ref 0) = some (.ref m :: rs) := q_ref s0
      unfold l2_tables_of
      rw [x_sSeq, x_sSet]
      have ev : (eFn f_mean_ahead (aCons (eV 0) (aCons (e2 gIx (eV 3) (eC (.int 0))) (aCons (eV 7) (aNil))))) [some (walkD p st T), some (.bl b), some (.int (Wt st)), some (.ref 0), some tick, some (.int (Wt st ^ k)), some (.ref n), some (.int q), z8] (S.set n (dic0 (L'.take i) (gV b st f k))) = some (.int (meanV st f q)) := by
        simp [sq, e1]
      rw [ev, Option.map_some, Option.bind_some, nxt_nx]
      unfold sDPutD
      simp only [List.set_cons_succ, List.set_cons_zero]
      rw [hv]
      simp only [Option.bind_some, x_eV, List.getElem?_cons_succ, List.getElem?_cons_zero, id, dc, keyT_int, hasD_int, decide_eq_false nq]
      have hs : (L'.take i).length ≤ 1000000 := by simp; omega
      simp only [small_eq, List.length_map, decide_eq_true hs, Bool.and_self, if_true, Bool.false_eq_true, if_false, et]
      simp [dic0])
  simp only [List.length_map, List.take_length] at e
  exact ⟨z7, z8, e⟩
end
end DL

set_option maxHeartbeats 1000000
namespace DL
open PySem PySem.Spec L2
section
variable {p : Int} {st : List Stp} {T : Nat}
theorem gV_V (b : Bool) (st : List Stp) (i : Nat) : gV b st (Vv b st i) (i + 1) = Vv b st (i + 1) := by
  funext q
  rfl
theorem tables_w (W : WalkOk p st T) (b : Bool) : ∃ es vs ks, f_tables_of [walkD p st T, .bl b] = some (.lst (.dic false ks vs :: es)) ∧ lookD ks vs (.int p) = some (.int (Vv b st T p)) ∧ nrs (.dic false ks vs :: es) = true := by
  have hT := W.T7
  obtain ⟨L0, e0, nd0, hl0, hm0⟩ := prices_w W (t := T) hT
  have h47 : ∀ t ≤ 7, 4 ^ t ≤ 16384 := fun t ht => Nat.le_trans (Nat.pow_le_pow_right (by decide) ht) (by decide)
  have hl0' := h47 T hT
  have hsh := shares_of_w W
  have hdict : cDcN (jSeqD (eFn f_prices_at (aCons (eV 0) (aCons (e2 gIx (eV 0) (eC (.int 2))) (aNil))))) [7] (gN 7) (bYes) (kD (eV 7) (eCall cMax2 (aCons (eV 7) (aCons (eC (.int 0)) (aNil))))) [some (walkD p st T), some (.bl b), some (.int (Wt st)), none, none, none, none, none, none] [] = some [dic0 L0 (Vv b st 0)] := by
    have d := dict_of (g := gN 7) (ek := eV 7) (ev := eCall cMax2 (aCons (eV 7) (aCons (eC (.int 0)) (aNil)))) (ρ := [some (walkD p st T), some (.bl b), some (.int (Wt st)), none, none, none, none, none, none]) (S := []) (fun q => .int (Vv b st 0 q)) L0 nd0 (by omega) (fun q _ => ⟨_, rfl, rfl, by
      simp [Vv]
      omega⟩)
    unfold cDcN
    have ej : jSeqD (eFn f_prices_at (aCons (eV 0) (aCons (e2 gIx (eV 0) (eC (.int 2))) (aNil)))) [some (walkD p st T), some (.bl b), some (.int (Wt st)), none, none, none, none, none, none] [] = some (L0.map .int) := by
      simp [e0]
    rw [ej, Option.bind_some]
    have ew : wipeR [some (walkD p st T), some (.bl b), some (.int (Wt st)), none, none, none, none, none, none] [7] = [some (walkD p st T), some (.bl b), some (.int (Wt st)), none, none, none, none, none, none] := rfl
    rw [ew, d]
    rfl
  have hnew := lst1_dic hdict (nrs_ints L0 (Vv b st 0))
  have hrg : rng3 [.int ((T : Int) - 1), .int (-1), .int (-1)] = some ((List.range T).map fun k : Nat => .int ((T : Int) - 1 - k)) := by
    have h1 : lim62 ((T : Int) - 1) = true := by
      unfold lim62
      refine Nat.ble_eq_true_of_le ?_
      omega
    have h2 : ((T : Int) - 1 - -1).toNat = T := by omega
    have h3 : lim62 (-1) = true := by decide
    simp only [rng3, h1, h3, Bool.and_self, decide_true, if_true, h2, rngD]
    congr 1
    refine List.map_congr_left fun k _ => ?_
    congr 1
    omega
  obtain ⟨ρ', S', e, ⟨a4, a5, a6, a7, a8, rfl⟩, hSl, rs, L, hS0, hSt, hm, hrs⟩ := loop_inv (g := gN 4) (body := l1_tables_of) (ds := (List.range T).map fun k : Nat => .int ((T : Int) - 1 - k))
    (ρ := [some (walkD p st T), some (.bl b), some (.int (Wt st)), some (.ref 0), none, none, none, none, none]) (S := [.lst [.ref 1], dic0 L0 (Vv b st 0)])
    (fun i ρ S => (∃ a4 a5 a6 a7 a8, ρ = [some (walkD p st T), some (.bl b), some (.int (Wt st)), some (.ref 0), a4, a5, a6, a7, a8]) ∧ S.length = i + 2 ∧ ∃ (rs : List D) (L : List Int), S[0]? = some (.lst (.ref (i + 1) :: rs)) ∧ S[i + 1]? = some (dic0 L (Vv b st i)) ∧
      (∀ q, q ∈ L ↔ Rch p st (T - i) q) ∧ rs.length ≤ i ∧ ∀ d ∈ rs, ∃ (m : Nat) (L : List Int) (f : Int → Int), d = .ref m ∧ S[m]? = some (dic0 L f) ∧ m ≠ 0)
    ⟨⟨_, _, _, _, _, rfl⟩, rfl, [], L0, rfl, rfl, hm0, by simp, by simp⟩ (by
      rintro i d ρ S hi ⟨⟨a4, a5, a6, a7, a8, rfl⟩, hSl, rs, L, hS0, hSt, hm, hrl, hrs⟩
      rw [List.getElem?_map, Option.map_eq_some_iff] at hi
      obtain ⟨k, hk, rfl⟩ := hi
      have hlt : i < T := by
        have := (List.getElem?_eq_some_iff.mp hk).1
        simpa using this
      have hki : k = i := by
        rw [List.getElem?_range hlt] at hk
        simpa using hk.symm
      subst hki
      have tk : ((T : Int) - 1 - (k : Int)) = ((T - 1 - k : Nat) : Int) := by omega
      rw [tk]
      obtain ⟨L', e', nd', hl', hm'⟩ := prices_w W (t := T - 1 - k) (by omega)
      have hl'' := h47 (T - 1 - k) (by omega)
      have hr := raised_w (b := Wt st) (n := k + 1) (by have := (W_pow W (k := 1) (by decide)).1; rw [Int.pow_succ, Int.pow_zero, Int.one_mul] at this; exact this) (by omega)
      have tk2 : (T : Int) - ((T - 1 - k : Nat) : Int) = ((k + 1 : Nat) : Int) := by omega
      have hS1l : (S ++ [Cell.dic false [] []]).length = k + 3 := by simp [hSl]
      obtain ⟨z7, z8, ep⟩ := put_loop W b (Vv b st k) (L := L) (L' := L') nd' (by omega) (fun q hq x hx => by
          rw [hm]
          have : T - k = (T - 1 - k) + 1 := by omega
          rw [this]
          exact ⟨q, x, (hm' q).mp hq, hx, rfl⟩) (k := k + 1) (by omega) (.int ((T - 1 - k : Nat) : Int)) (S := S ++ [.dic false [] []]) (m := k + 1) (n := k + 2) (rs := rs)
        (by rw [List.getElem?_append_left (by omega)]; exact hS0) (by rw [List.getElem?_append_left (by omega)]; exact hSt) (by rw [← hSl, List.getElem?_append_right (Nat.le_refl _)]; simp) (by omega) (by omega) a7 a8
      rw [gV_V] at ep
      generalize hS2 : (S ++ [Cell.dic false [] []]).set (k + 2) (dic0 L' (Vv b st (k + 1))) = S2 at ep
      have hS2l : S2.length = k + 3 := by rw [← hS2, List.length_set, hS1l]
      have g2 : ∀ m, m ≠ k + 2 → m < k + 2 → S2[m]? = S[m]? := fun m h1 h2 => by
        rw [← hS2, List.getElem?_set_ne (Ne.symm h1), List.getElem?_append_left (by omega)]
      have c20 : S2[0]? = some (.lst (.ref (k + 1) :: rs)) := by rw [g2 0 (by omega) (by omega)]; exact hS0
      have c2n : S2[k + 2]? = some (dic0 L' (Vv b st (k + 1))) := by rw [← hS2, List.getElem?_set_self (by omega)]
      refine ⟨[some (walkD p st T), some (.bl b), some (.int (Wt st)), some (.ref 0), some (.int ((T - 1 - k : Nat) : Int)), a5, a6, a7, a8], [some (walkD p st T), some (.bl b), some (.int (Wt st)), some (.ref 0), some (.int ((T - 1 - k : Nat) : Int)), some (.int (Wt st ^ (k + 1))), some (.ref (k + 2)), z7, z8], S2.set 0 (.lst (.ref (k + 2) :: .ref (k + 1) :: rs)), .nx, rfl, ?_, .inl rfl, ⟨_, _, _, _, _, rfl⟩, by rw [List.length_set]; omega, .ref (k + 1) :: rs, L', ?_, ?_, ?_, ?_, ?_⟩
      · unfold l1_tables_of
        rw [x_sSeq, x_sSet]
        have er : (eFn f_raised_to (aCons (eV 2) (aCons (e2 gSub (e2 gIx (eV 0) (eC (.int 2))) (eV 4)) (aNil)))) [some (walkD p st T), some (.bl b), some (.int (Wt st)), some (.ref 0), some (.int ((T - 1 - k : Nat) : Int)), a5, a6, a7, a8] S = some (.int (Wt st ^ (k + 1))) := by
          have tk3 : (k : Int) + 1 = ((k + 1 : Nat) : Int) := by omega
          simp [tk2]
          rw [tk3]
          exact hr
        rw [er, Option.map_some, Option.bind_some, nxt_nx, x_sSeq]
        have en : sNewD false 6 ([some (walkD p st T), some (.bl b), some (.int (Wt st)), some (.ref 0), some (.int ((T - 1 - k : Nat) : Int)), a5, a6, a7, a8].set 5 (some (.int (Wt st ^ (k + 1))))) S = some (.nx, [some (walkD p st T), some (.bl b), some (.int (Wt st)), some (.ref 0), some (.int ((T - 1 - k : Nat) : Int)), some (.int (Wt st ^ (k + 1))), some (.ref (k + 2)), a7, a8], S ++ [.dic false [] []]) := by
          simp [sNewD, hSl]
        rw [en, Option.bind_some, nxt_nx, x_sSeq, x_sFor]
        have ei : iSeqD (eFn f_prices_at (aCons (eV 0) (aCons (eV 4) (aNil)))) [some (walkD p st T), some (.bl b), some (.int (Wt st)), some (.ref 0), some (.int ((T - 1 - k : Nat) : Int)), some (.int (Wt st ^ (k + 1))), some (.ref (k + 2)), a7, a8] (S ++ [.dic false [] []]) = some (L'.map .int) := by
          simp [e']
        rw [ei, Option.bind_some, ep, Option.bind_some, nxt_nx, x_sIns]
        have i2 := ins2_nat [some (walkD p st T), some (.bl b), some (.int (Wt st)), some (.ref 0), some (.int ((T - 1 - k : Nat) : Int)), some (.int (Wt st ^ (k + 1))), some (.ref (k + 2)), z7, z8] S2 0 (.ref (k + 1) :: rs) (.ref (k + 2)) (k := 0) (by simp; omega) (by decide)
        simp only [x_eV, x_eC, List.getElem?_cons_succ, List.getElem?_cons_zero, id, Option.bind_some, qc_ref c20]
        exact i2
      · rw [List.getElem?_set_self (by omega)]
      · rw [List.getElem?_set_ne (by omega)]; exact c2n
      · have : T - (k + 1) = T - 1 - k := by omega
        rw [this]; exact hm'
      · simp; omega
      · intro d hd
        rcases List.mem_cons.mp hd with rfl | hd
        · exact ⟨k + 1, L, Vv b st k, rfl, by rw [List.getElem?_set_ne (by omega), g2 (k + 1) (by omega) (by omega)]; exact hSt, by omega⟩
        · obtain ⟨m, L3, f3, rfl, h3, h4⟩ := hrs d hd
          have hml : m < S.length := (List.getElem?_eq_some_iff.mp h3).1
          exact ⟨m, L3, f3, rfl, by rw [List.getElem?_set_ne (Ne.symm h4), g2 m (by omega) (by omega)]; exact h3, h4⟩)
  simp only [List.length_map, List.length_range, Nat.sub_self] at hS0 hSt hm hrs
  obtain ⟨es, ef, hes⟩ := fz_lst_dics hS0 hSt (nrs_ints L (Vv b st T)) fun d hd => by
    obtain ⟨m, L3, f3, rfl, h3, _⟩ := hrs.2 d hd
    exact ⟨m, false, _, _, rfl, h3, nrs_ints L3 f3⟩
  have hp : p ∈ L := (hm p).mpr rfl
  have hn : nrs (.dic false (L.map .int) (L.map fun q => .int (Vv b st T q)) :: es) = true := by
    rw [nrs_cons, hes]
    have : nr (.dic false (L.map .int) (L.map fun q => .int (Vv b st T q))) = true := nrs_ints L (Vv b st T)
    rw [this]
    rfl
  refine ⟨es, _, _, ?_, lookD_int (fun q => D.int (Vv b st T q)) hp, hn⟩
  refine ret_run (ret_set (x := .int (Wt st)) (by simp [startR, hsh]) ?_)
  have en : sNewN 3 (cLst1 (cDcN (jSeqD (eFn f_prices_at (aCons (eV 0) (aCons (e2 gIx (eV 0) (eC (.int 2))) (aNil))))) [7] (gN 7) (bYes) (kD (eV 7) (eCall cMax2 (aCons (eV 7) (aCons (eC (.int 0)) (aNil))))))) [some (walkD p st T), some (.bl b), some (.int (Wt st)), none, none, none, none, none, none] [] = some (.nx, [some (walkD p st T), some (.bl b), some (.int (Wt st)), some (.ref 0), none, none, none, none, none], [.lst [.ref 1], dic0 L0 (Vv b st 0)]) := by
    rw [x_sNewN, hnew]
    rfl
  unfold Ret
  rw [x_sSeq]
  show ((sNewN 3 _ [some (walkD p st T), some (.bl b), some (.int (Wt st)), none, none, none, none, none, none] []).bind _).bind fin1 = _
  rw [en, Option.bind_some, nxt_nx, x_sSeq, x_sFor]
  have er : iRng rng3 (aCons (e2 gSub (e2 gIx (eV 0) (eC (.int 2))) (eC (.int 1))) (aCons (e1 gNeg (eC (.int 1))) (aCons (e1 gNeg (eC (.int 1))) (aNil)))) [some (walkD p st T), some (.bl b), some (.int (Wt st)), some (.ref 0), none, none, none, none, none] [.lst [.ref 1], dic0 L0 (Vv b st 0)] = some ((List.range T).map fun k : Nat => .int ((T : Int) - 1 - k)) := by
    rw [← hrg]
    simp
  rw [er, Option.bind_some, e, Option.bind_some, nxt_nx, x_sRet]
  exact ef
end
end DL

set_option maxHeartbeats 1000000
namespace DL
open PySem PySem.Spec L2
def frD (x : Int × Int) : D := .tup [.int x.1, .int x.2]
@[simp] theorem nr_frD (x : Int × Int) : nr (frD x) = true := (rfl)
@[simp] theorem q_frD (S : Sto) (x : Int × Int) : seqD S (frD x) = some [.int x.1, .int x.2] := (rfl)
theorem eq_frD (S : Sto) (x y : Int × Int) : gEq S (frD x) (frD y) = some (.bl (decide (x = y))) := by
  rw [y_eq (by simp [frD]) (by simp [frD])]
  simp [frD, eqD, eqDs, Prod.ext_iff, Bool.beq_eq_decide_eq]
theorem ne_frD (S : Sto) (x y : Int × Int) : gNe S (frD x) (frD y) = some (.bl (!decide (x = y))) := by
  rw [y_ne (by simp [frD]) (by simp [frD])]
  simp [frD, eqD, eqDs, Prod.ext_iff, Bool.beq_eq_decide_eq]
theorem log_small {n : Nat} (h : n < 2 ^ 64) : Nat.blt n.log2 9000 = true := by
  refine Nat.ble_eq_true_of_le ?_
  by_cases h0 : n = 0
  · subst h0; decide
  · have := (Nat.log2_lt h0).mpr h
    omega
theorem gcd_small {a b : Int} (h : 0 < b) (hb : b < 2 ^ 64) : 0 < (Int.gcd a b : Int) ∧ Nat.blt ((Int.gcd a b : Nat) : Int).natAbs.log2 9000 = true := by
  refine ⟨gcd_pos' h, log_small ?_⟩
  have h1 : Int.gcd a b ≤ b.natAbs := Nat.gcd_le_right _ (by omega)
  have h2 : ((Int.gcd a b : Nat) : Int).natAbs = Int.gcd a b := Int.natAbs_natCast _
  omega
theorem fraction_w {a b : Int} (h : 0 < b) (hb : b < 2 ^ 64) : f_fraction [.int a, .int b] = some (frD (fr a b)) := by
  obtain ⟨g1, g2⟩ := gcd_small (a := a) h hb
  have e : (Nat.gcd a.natAbs b.natAbs) = Int.gcd a b := rfl
  simp only [f_fraction, b_fraction, run_eq, startR, x_sSeq, x_sSet, x_eCall, x_aCons, x_aNil, x_eV, x_eTup, x_e2, x_sRet, List.map_cons, List.map_nil, List.length_cons, List.length_nil, List.cons_append, List.nil_append, List.replicate, List.getElem?_cons_zero, List.getElem?_cons_succ, Option.bind_some, Option.map_some, id, k_gcd, nxt_nx, List.set_cons_zero, List.set_cons_succ, y_divW, e, g1, g2, and_self, if_true, mkT_2, fin1_rt]
  rfl
theorem law_gcd_w (a b : Int) : f_law_gcd [.int a, .int b] = some (.int (Int.gcd a b : Nat)) := by
  obtain ⟨ρ', S', e, ⟨r, y, rfl⟩, rfl⟩ := while_inv (t := l1_law_gcd_t) (body := l1_law_gcd) (fun n ρ S => ∃ (x : Nat) (r : Option D), Nat.gcd x n = Int.gcd a b ∧ ρ = [some (.int a), some (.int b), some (.int (x : Int)), some (.int (n : Int)), r] ∧ S = [])
    (fun ρ S => (∃ (r : Option D) (y : Nat), ρ = [some (.int a), some (.int b), some (.int (Int.gcd a b : Nat)), some (.int (y : Int)), r]) ∧ S = []) (by
      rintro n ρ S ⟨x, r, hg, rfl, rfl⟩
      by_cases hn : n = 0
      · subst hn
        rw [Nat.gcd_zero_right] at hg
        subst hg
        exact .inl ⟨by simp [l1_law_gcd_t], ⟨_, 0, rfl⟩, rfl⟩
      · have h1 : (0 : Int) < n := by omega
        have h0 : 0 < n := by omega
        have h2 : (x : Int) % (n : Int) = ((x % n : Nat) : Int) := by simp
        refine .inr ⟨by simp [l1_law_gcd_t]; omega, .nx, [some (.int a), some (.int b), some (.int (n : Int)), some (.int ((x % n : Nat) : Int)), some (.int ((x % n : Nat) : Int))], [], x % n, by simp [l1_law_gcd, h0], .inl rfl, Nat.mod_lt _ (by omega), n, _, ?_, rfl, rfl⟩
        rw [← hg, Nat.gcd_comm n, ← Nat.gcd_rec, Nat.gcd_comm]) (n := b.natAbs) (ρ := [some (.int a), some (.int b), some (.int (a.natAbs : Int)), some (.int (b.natAbs : Int)), none]) (S := []) ⟨a.natAbs, none, rfl, rfl, rfl⟩
  have ab : ∀ i : Int, (if i < 0 then -i else i) = (i.natAbs : Int) := fun i => by split <;> omega
  simp only [f_law_gcd, b_law_gcd, run_eq, startR, x_sSeq, x_sSet, x_eCall, x_aCons, x_aNil, x_eV, x_sRet, List.map_cons, List.map_nil, List.length_cons, List.length_nil, List.cons_append, List.nil_append, List.replicate, List.getElem?_cons_zero, List.getElem?_cons_succ, Option.bind_some, Option.map_some, id, k_abs, ab, nxt_nx, List.set_cons_zero, List.set_cons_succ, e, fin1_rt, fz_int]
theorem law_frac_w {a b : Int} (h : 0 < b) (hb : b < 2 ^ 64) : f_law_frac [.int a, .int b] = some (frD (fr a b)) := by
  obtain ⟨g1, g2⟩ := gcd_small (a := a) h hb
  simp only [f_law_frac, b_law_frac, run_eq, startR, x_sSeq, x_sSet, x_eFn, x_aCons, x_aNil, x_eV, x_eTup, x_e2, x_sRet, List.map_cons, List.map_nil, List.length_cons, List.length_nil, List.cons_append, List.nil_append, List.replicate, List.getElem?_cons_zero, List.getElem?_cons_succ, Option.bind_some, Option.map_some, id, runA_nr, nrs_cons, nr_int, nrs_nil, Bool.and_self, law_gcd_w, nxt_nx, List.set_cons_zero, List.set_cons_succ, y_divW, g1, g2, and_self, if_true, mkT_2, fin1_rt]
  rfl
section
variable {p : Int} {st : List Stp} {T : Nat}
theorem W_pow2 (W : WalkOk p st T) : 0 < Wt st ^ T ∧ Wt st ^ T < 2 ^ 64 := by
  obtain ⟨h1, h2⟩ := W_pow W W.T7
  omega
theorem option_w (W : WalkOk p st T) (b : Bool) : (Wt st).natAbs < 18446744073709551616 ∧ f_shares_of [walkD p st T] = some (.int (Wt st)) ∧ f_raised_to [.int (Wt st), .int T] = some (.int (Wt st ^ T)) := by
  have h := (W_pow W (k := 1) (by decide)).1
  rw [Int.pow_succ, Int.pow_zero, Int.one_mul] at h
  exact ⟨h, shares_of_w W, raised_w h (by have := W.T7; omega)⟩
theorem option_worth_w (W : WalkOk p st T) : f_option_worth [walkD p st T] = some (frD (fr (Vv true st T p) (Wt st ^ T))) := by
  obtain ⟨es, vs, ks, e1, e2, e3⟩ := tables_w W true
  obtain ⟨h1, h2, h3⟩ := option_w W true
  obtain ⟨h4, h5⟩ := W_pow2 W
  refine ret_run (ret_drop (x := .non) (by simp [startR, need_walk_ok W]) (ret_set (x := .dic false ks vs) (by simp [startR, e1]) (ret_ret (x := frD (fr (Vv true st T p) (Wt st ^ T))) ?_ rfl)))
  simp [startR, gDGet, dicD, e2, h2, h3, fraction_w h4 h5]
theorem option_held_w (W : WalkOk p st T) : f_option_held [walkD p st T] = some (frD (fr (Vv false st T p) (Wt st ^ T))) := by
  obtain ⟨es, vs, ks, e1, e2, e3⟩ := tables_w W false
  obtain ⟨h1, h2, h3⟩ := option_w W false
  obtain ⟨h4, h5⟩ := W_pow2 W
  refine ret_run (ret_drop (x := .non) (by simp [startR, need_walk_ok W]) (ret_set (x := .dic false ks vs) (by simp [startR, e1]) (ret_ret (x := frD (fr (Vv false st T p) (Wt st ^ T))) ?_ rfl)))
  simp [startR, gDGet, dicD, e2, h2, h3, fraction_w h4 h5]
theorem mx0 (p : Int) : (if p > 0 then p else 0) = max 0 p := by omega
theorem option_extra_w (W : WalkOk p st T) : f_option_extra [walkD p st T] = some (frD (fr (Vv true st T p - max 0 p * Wt st ^ T) (Wt st ^ T))) := by
  obtain ⟨h4, h5⟩ := W_pow2 W
  obtain ⟨g, hg, e1, e2, h6, h7⟩ := fr_spec (a := Vv true st T p) h4
  have hc : cMul (max 0 p) (fr (Vv true st T p) (Wt st ^ T)).2 = true := cMul_r (by omega)
  have ef := fraction_w (a := (fr (Vv true st T p) (Wt st ^ T)).1 - max 0 p * (fr (Vv true st T p) (Wt st ^ T)).2) (b := (fr (Vv true st T p) (Wt st ^ T)).2) h6 (by omega)
  rw [fr_sub h4] at ef
  have ew := option_worth_w W
  generalize fr (Vv true st T p) (Wt st ^ T) = x at *
  have ew' : (eFn f_option_worth (aCons (eV 0) (aNil))) [some (walkD p st T), none, none] [] = some (.tup [.int x.1, .int x.2]) := by
    simp [ew]; rfl
  unfold f_option_extra b_option_extra
  rw [run_eq, x_sSeq, x_sDrop]
  simp only [startR, List.map_cons, List.map_nil, List.length_cons, List.length_nil, List.cons_append, List.nil_append, List.replicate]
  have en : (eFn f_need_walk (aCons (eV 0) (aNil))) [some (walkD p st T), none, none] [] = some .non := by simp [need_walk_ok W]
  rw [en, Option.map_some, Option.bind_some, nxt_nx, x_sSeq, x_sAsg, ew']
  simp [mx0, hc, ef]
end
end DL

set_option maxHeartbeats 1000000
namespace DL
open PySem PySem.Spec L2
theorem gdS_steps (l : List Stp) : gdS (l.map stepD) = true :=
  gdS_map _ _ (fun a => by simp) (fun a => rfl) (fun a b => by simp [alkD, stepD, toP, toPs, PySem.W.alike, PySem.W.alikeAll])
/-- what the law draws -/
structure Drawn (p : Int) (st : List Stp) (T : Nat) : Prop where
  pl : -20 ≤ p
  ph : p ≤ 20
  l1 : 1 ≤ st.length
  l3 : st.length ≤ 3
  T5 : T ≤ 5
  ok : ∀ x ∈ st, -7 ≤ x.1 ∧ x.1 ≤ 7 ∧ 1 ≤ x.2 ∧ x.2 ≤ 5
  asc : st.Pairwise fun a b => a.1 < b.1
theorem draw_steps {d : List Nat} (hd : d.length = 12) {m : Nat} (hm : m ≤ 3) (ρ0 ρ1 : Option D) (y : Option D) :
    ∃ l : List Stp, l.length = m ∧ (∀ x ∈ l, -7 ≤ x.1 ∧ x.1 ≤ 7 ∧ 1 ≤ x.2 ∧ x.2 ≤ 5) ∧ ∃ z, loopL (gN 4) l1_law_walk ((List.range m).map nD) [ρ0, ρ1, some (.lst (d.map nD)), some (.ref 0), y, none, none] [.lst []] =
      some (.nx, [ρ0, ρ1, some (.lst (d.map nD)), some (.ref 0), z, none, none], [.lst (l.map stepD)]) := by
  obtain ⟨ρ', S', e, ⟨z, rfl⟩, l, hl, rfl, ho⟩ := loop_inv (g := gN 4) (body := l1_law_walk) (ds := (List.range m).map nD) (ρ := [ρ0, ρ1, some (.lst (d.map nD)), some (.ref 0), y, none, none]) (S := [.lst []])
    (fun i ρ S => (∃ z, ρ = [ρ0, ρ1, some (.lst (d.map nD)), some (.ref 0), z, none, none]) ∧ ∃ l : List Stp, l.length = i ∧ S = [.lst (l.map stepD)] ∧ ∀ x ∈ l, -7 ≤ x.1 ∧ x.1 ≤ 7 ∧ 1 ≤ x.2 ∧ x.2 ≤ 5)
    ⟨⟨y, rfl⟩, [], rfl, rfl, by simp⟩ (by
      rintro i dd ρ S hi ⟨⟨z, rfl⟩, l, hl, rfl, ho⟩
      obtain ⟨hlt, rfl⟩ := nth_range hi
      have a1 : atI (d.map nD) (1 + (i : Int)) = some (.int (d[1 + i]'(by omega) : Nat)) := by
        have := atI_nD (l := d) (k := 1 + i) (by omega)
        simpa using this
      have a2 : atI (d.map nD) (5 + (i : Int)) = some (.int (d[5 + i]'(by omega) : Nat)) := by
        have := atI_nD (l := d) (k := 5 + i) (by omega)
        simpa using this
      generalize d[1 + i]'(by omega) = u at a1
      generalize d[5 + i]'(by omega) = v at a2
      have e2 : (1 : Int) + (v : Int) % 5 = ((1 + v % 5 : Nat) : Int) := by omega
      have hs : l.length ≤ 1000000 := by omega
      refine ⟨[ρ0, ρ1, some (.lst (d.map nD)), some (.ref 0), some (.int i), none, none], [ρ0, ρ1, some (.lst (d.map nD)), some (.ref 0), some (.int i), none, none], [.lst ((l ++ [((u : Int) % 15 - 7, 1 + v % 5)]).map stepD)], .nx, rfl, ?_, .inl rfl, ⟨_, rfl⟩, _, by simp [hl], rfl, fun x hx => ?_⟩
      · simp [l1_law_walk, a1, a2, hs, stepD]
      · rcases List.mem_append.mp hx with hx | hx
        · exact ho x hx
        · rw [List.mem_singleton] at hx
          subst hx
          simp only
          omega)
  simp at hl
  exact ⟨l, hl, ho, z, e⟩
theorem told_loop {l : List Stp} (hl : l.length ≤ 3) (hne : l ≠ []) (ho : ∀ x ∈ l, -7 ≤ x.1 ∧ x.1 ≤ 7 ∧ 1 ≤ x.2 ∧ x.2 ≤ 5) (r0 r1 r2 r3 r4 y : Option D) (c : Cell) :
    ∃ k : List Stp, 1 ≤ k.length ∧ k.length ≤ 3 ∧ (∀ x ∈ k, -7 ≤ x.1 ∧ x.1 ≤ 7 ∧ 1 ≤ x.2 ∧ x.2 ≤ 5) ∧ (k.Pairwise fun a b => a.1 < b.1) ∧ ∃ z, loopL (gN 6) l2_law_walk (l.map stepD) [r0, r1, r2, r3, r4, some (.ref 1), y] [c, .lst []] =
      some (.nx, [r0, r1, r2, r3, r4, some (.ref 1), z], [c, .lst (k.map stepD)]) := by
  obtain ⟨ρ', S', e, ⟨z, rfl⟩, k, rfl, h1, h2, h3, h4⟩ := loop_inv (g := gN 6) (body := l2_law_walk) (ds := l.map stepD) (ρ := [r0, r1, r2, r3, r4, some (.ref 1), y]) (S := [c, .lst []])
    (fun i ρ S => (∃ z, ρ = [r0, r1, r2, r3, r4, some (.ref 1), z]) ∧ ∃ k : List Stp, S = [c, .lst (k.map stepD)] ∧ (0 < i → 1 ≤ k.length) ∧ k.length ≤ i ∧ (∀ x ∈ k, -7 ≤ x.1 ∧ x.1 ≤ 7 ∧ 1 ≤ x.2 ∧ x.2 ≤ 5) ∧ k.Pairwise fun a b => a.1 < b.1)
    ⟨⟨y, rfl⟩, [], rfl, by simp, by simp, by simp, List.Pairwise.nil⟩ (by
      rintro i dd ρ S hi ⟨⟨z, rfl⟩, k, rfl, h1, h2, h3, h4⟩
      rw [List.getElem?_map, Option.map_eq_some_iff] at hi
      obtain ⟨x, hx, rfl⟩ := hi
      have hlt : i < l.length := (List.getElem?_eq_some_iff.mp hx).1
      have hox := ho x (List.mem_of_getElem? hx)
      have hs : k.length ≤ 1000000 := by omega
      by_cases hk : k = []
      · subst hk
        exact ⟨[r0, r1, r2, r3, r4, some (.ref 1), some (stepD x)], [r0, r1, r2, r3, r4, some (.ref 1), some (stepD x)], [c, .lst ([x].map stepD)], .nx, rfl, by simp [l2_law_walk, truD, seqD], .inl rfl, ⟨_, rfl⟩, [x], rfl, by simp, by simp, by simpa using hox, by simp⟩
      · have hlast : (k.map stepD).getLast? = some (stepD (k.getLast hk)) := by
          rw [List.getLast?_map, List.getLast?_eq_some_getLast hk]
          rfl
        have ht : truD [c, .lst (k.map stepD)] (.ref 1) = some true := by
          rw [t_ref (ds := k.map stepD) rfl]
          simp [hk]
        by_cases hc : (k.getLast hk).1 < x.1
        · refine ⟨[r0, r1, r2, r3, r4, some (.ref 1), some (stepD x)], [r0, r1, r2, r3, r4, some (.ref 1), some (stepD x)], [c, .lst ((k ++ [x]).map stepD)], .nx, rfl, ?_, .inl rfl, ⟨_, rfl⟩, k ++ [x], rfl, by simp, by simp; omega, ?_, ?_⟩
          · simp [l2_law_walk, ht, atI_neg1, hlast, hc, hs]
          · intro y hy
            rcases List.mem_append.mp hy with hy | hy
            · exact h3 y hy
            · rw [List.mem_singleton] at hy; subst hy; exact hox
          · rw [List.pairwise_append]
            refine ⟨h4, by simp, fun a ha b hb => ?_⟩
            rw [List.mem_singleton] at hb
            subst hb
            rcases List.mem_iff_getElem.mp ha with ⟨j, hj, rfl⟩
            rw [List.getLast_eq_getElem] at hc
            by_cases e : j = k.length - 1
            · subst e; exact hc
            · have := List.pairwise_iff_getElem.mp h4 j (k.length - 1) hj (by omega) (by omega)
              omega
        · refine ⟨[r0, r1, r2, r3, r4, some (.ref 1), some (stepD x)], [r0, r1, r2, r3, r4, some (.ref 1), some (stepD x)], [c, .lst (k.map stepD)], .nx, rfl, ?_, .inl rfl, ⟨_, rfl⟩, k, rfl, fun _ => List.length_pos_iff.mpr hk, by omega, h3, h4⟩
          simp [l2_law_walk, ht, atI_neg1, hlast, hc])
  have hl0 : 0 < l.length := List.length_pos_iff.mpr hne
  simp only [List.length_map] at h1 h2
  exact ⟨k, h1 hl0, by omega, h3, h4, z, e⟩
theorem law_walk_w (z0 z1 : Int) : ∃ p st T, f_law_walk [.int z0, .int z1] = some (walkD p st T) ∧ Drawn p st T := by
  obtain ⟨d, ed, hd, _⟩ := law_row_i z0 12 200 (by decide) (by decide) (by decide)
  obtain ⟨d2, ed2, hd2, hx2⟩ := law_row_i z1 1 41 (by decide) (by decide) (by decide)
  have ed : f_law_row [.int z0, .int 12, .int 200] = some (.lst (d.map nD)) := ed
  have ed2 : f_law_row [.int z1, .int 1, .int 41] = some (.lst (d2.map nD)) := ed2
  match d2, hd2, hx2, ed2 with
  | [q], _, hx2, ed2 =>
  have hq := hx2 q (by simp)
  have a0 : atI (d.map nD) 0 = some (.int (d[0]'(by omega) : Nat)) := atI_nD (l := d) (k := 0) (by omega)
  have a9 : atI (d.map nD) 9 = some (.int (d[9]'(by omega) : Nat)) := atI_nD (l := d) (k := 9) (by omega)
  generalize d[0]'(by omega) = u at a0
  generalize d[9]'(by omega) = v at a9
  obtain ⟨l, hl, ho, z, e1⟩ := draw_steps hd (m := 1 + u % 3) (by omega) (some (.int z0)) (some (.int z1)) none
  obtain ⟨m, pm, em⟩ := perm_sorted stepD l
  have hm : m.length = 1 + u % 3 := by rw [pm.length_eq, hl]
  obtain ⟨k, k1, k2, k3, k4, z', e2⟩ := told_loop (l := m) (by omega) (fun e => by rw [e] at hm; simp at hm; omega) (fun x hx => ho x (pm.mem_iff.mp hx)) (some (.int z0)) (some (.int z1)) (some (.lst (d.map nD))) (some (.ref 0)) z none (.lst (l.map stepD))
  have e3 : rng1 [.int ((1 : Int) + (u : Int) % 3)] = some ((List.range (1 + u % 3)).map nD) := by
    have : (1 : Int) + (u : Int) % 3 = ((1 + u % 3 : Nat) : Int) := by omega
    rw [this]
    exact rng1_nat (by omega)
  have es : cSorted [.lst (l.map stepD), .lst []] [.ref 0] = some (m.map stepD) := by
    rw [k_sorted (xs := l.map stepD) rfl (gdS_steps l), em]
  have hk : k.length ≤ 1000000 := by omega
  refine ⟨(q : Int) - 20, k, v % 6, ?_, by omega, by omega, k1, k2, by omega, k3, k4⟩
  simp [f_law_walk, b_law_walk, run_eq, startR, ed, ed2, a0, a9, e3, e1, es, e2, walkD, hk, q_ref1]
end DL

set_option maxHeartbeats 1000000
namespace DL
open PySem PySem.Spec L2
theorem maxI_mem : ∀ {l : List Int}, l ≠ [] → ∃ m, maxI l = some m ∧ m ∈ l := by
  intro l h
  cases l with
  | nil => exact absurd rfl h
  | cons a l =>
    have main : ∀ (l : List Int) (a : Int), ∃ m, l.foldl (fun m y => if y > m then y else m) a = m ∧ (m = a ∨ m ∈ l) := by
      intro l
      induction l with
      | nil => intro a; exact ⟨a, rfl, .inl rfl⟩
      | cons b l ih =>
        intro a
        obtain ⟨m, e, h⟩ := ih (if b > a then b else a)
        refine ⟨m, e, ?_⟩
        rcases h with h | h
        · by_cases c : b > a
          · rw [if_pos c] at h; exact .inr (by rw [h]; simp)
          · rw [if_neg c] at h; exact .inl h
        · exact .inr (List.mem_cons_of_mem _ h)
    obtain ⟨m, e, h⟩ := main l a
    refine ⟨m, ?_, ?_⟩
    · rw [← e]; rfl
    · rcases h with h | h
      · rw [h]; simp
      · exact List.mem_cons_of_mem _ h
theorem maxI_ge : ∀ {l : List Int} {m : Int}, maxI l = some m → ∀ x ∈ l, x ≤ m := by
  intro l m h x hx
  cases l with
  | nil => simp at hx
  | cons a l =>
    have main : ∀ (l : List Int) (a : Int), a ≤ l.foldl (fun a b => if b > a then b else a) a ∧ ∀ x ∈ l, x ≤ l.foldl (fun a b => if b > a then b else a) a := by
      intro l
      induction l with
      | nil => intro a; exact ⟨Int.le_refl _, by simp⟩
      | cons b l ih =>
        intro a
        obtain ⟨h1, h2⟩ := ih (if b > a then b else a)
        simp only [List.foldl_cons]
        refine ⟨Int.le_trans ?_ h1, fun x hx => ?_⟩
        · split <;> omega
        · rcases List.mem_cons.mp hx with rfl | hx
          · exact Int.le_trans (by split <;> omega) h1
          · exact h2 x hx
    obtain ⟨h1, h2⟩ := main l a
    simp only [maxI, Option.some.injEq] at h
    subst h
    rcases List.mem_cons.mp hx with rfl | hx
    · exact h1
    · exact h2 x hx
theorem ints_map (l : List Int) : intsD (l.map .int) = some l := by
  induction l with
  | nil => rfl
  | cons x l ih => simp [intsD, ih]
theorem k_maxI (S : Sto) {l : List Int} (h : l ≠ []) : ∃ m, cMax S [.lst (l.map .int)] = some (.int m) ∧ ∀ x ∈ l, x ≤ m := by
  obtain ⟨m, e, _⟩ := maxI_mem h
  exact ⟨m, by simp [cMax, ints_map, e], maxI_ge e⟩
theorem k_minI (S : Sto) {l : List Int} (h : l ≠ []) : ∃ m, cMin S [.lst (l.map .int)] = some (.int m) ∧ ∀ x ∈ l, m ≤ x := by
  obtain ⟨m, e, _⟩ := maxI_mem (l := l.map fun i => -i) (by simpa using h)
  refine ⟨-m, by simp [cMin, ints_map, minI, e], fun x hx => ?_⟩
  have := maxI_ge e (-x) (List.mem_map.mpr ⟨x, hx, rfl⟩)
  omega
section
variable {p : Int} {st : List Stp} {T : Nat}
theorem Drawn.walk (D : Drawn p st T) : WalkOk p st T :=
  ⟨by have := D.pl; omega, by have := D.ph; omega, D.l1, by have := D.l3; omega, by have := D.T5; omega, fun x hx => by have := D.ok x hx; omega, D.asc⟩
theorem Drawn.longer (D : Drawn p st T) : WalkOk p st (T + 1) :=
  ⟨by have := D.pl; omega, by have := D.ph; omega, D.l1, by have := D.l3; omega, by have := D.T5; omega, fun x hx => by have := D.ok x hx; omega, D.asc⟩
theorem Drawn.shares (D : Drawn p st T) {t : Nat} (h1 : 1 ≤ t) (h5 : t ≤ 5) : WalkOk p (stS t st) T := by
  refine ⟨by have := D.pl; omega, by have := D.ph; omega, by rw [stS, List.length_map]; exact D.l1, by rw [stS, List.length_map]; have := D.l3; omega, by have := D.T5; omega, fun x hx => ?_, ?_⟩
  · obtain ⟨y, hy, rfl⟩ := List.mem_map.mp hx
    obtain ⟨a, b, c, d⟩ := D.ok y hy
    have e1 : 1 * 1 ≤ t * y.2 := Nat.mul_le_mul h1 c
    have e2 : t * y.2 ≤ 5 * 5 := Nat.mul_le_mul h5 d
    exact ⟨by simp only; omega, by simp only; omega, by simp only; omega, by simp only; omega⟩
  · rw [stS, List.pairwise_map]
    exact D.asc
theorem Drawn.prices (D : Drawn p st T) {t : Nat} (h1 : 1 ≤ t) (h5 : t ≤ 5) : WalkOk (t * p) (stP t st) T := by
  have a1 := D.pl
  have a2 := D.ph
  have hp : -100 ≤ (t : Int) * p ∧ (t : Int) * p ≤ 100 := by
    have := Int.mul_le_mul_of_nonneg_left a1 (Int.natCast_nonneg t)
    have := Int.mul_le_mul_of_nonneg_left a2 (Int.natCast_nonneg t)
    omega
  refine ⟨by omega, by omega, by rw [stP, List.length_map]; exact D.l1, by rw [stP, List.length_map]; have := D.l3; omega, by have := D.T5; omega, fun x hx => ?_, ?_⟩
  · obtain ⟨y, hy, rfl⟩ := List.mem_map.mp hx
    obtain ⟨a, b, c, d⟩ := D.ok y hy
    have := Int.mul_le_mul_of_nonneg_left a (Int.natCast_nonneg t)
    have := Int.mul_le_mul_of_nonneg_left b (Int.natCast_nonneg t)
    exact ⟨by simp only; omega, by simp only; omega, by simp only; omega, by simp only; omega⟩
  · rw [stP, List.pairwise_map]
    exact D.asc.imp fun {a b} h => Int.mul_lt_mul_of_pos_left h (by omega)
end
theorem ret_iff {t : EB} {a g : T} {ρ : Rho} {S : Sto} {d : D} (h : t ρ S = some false) (k : Ret g ρ S d) : Ret (sSeq (sIf t a sSkip) g) ρ S d := ret_if0 h k
theorem plain (ns : List Int) (_ : ns.length ≤ 63) : f_law [.scr ns] = some (.bl true) := by
  obtain ⟨z0, a0⟩ := law_at_i ns 0
  obtain ⟨z1, a1⟩ := law_at_i ns 1
  obtain ⟨z2, a2⟩ := law_at_i ns 2
  simp at a0 a1 a2
  obtain ⟨p, st, T, ew, D⟩ := law_walk_w z0 z1
  obtain ⟨d2, ed2, hd2, hx2⟩ := law_row_i z2 1 4 (by decide) (by decide) (by decide)
  have ed2 : f_law_row [.int z2, .int 1, .int 4] = some (.lst (d2.map nD)) := ed2
  match d2, hd2, hx2, ed2 with
  | [u], _, hx2, ed2 =>
  have hu := hx2 u (by simp)
  have W := D.walk
  generalize ht : 2 + u = t at *
  have t1 : 1 ≤ t := by omega
  have t5 : t ≤ 5 := by omega
  have tp : (0 : Int) < t := by omega
  have WS := D.shares t1 t5
  have WP := D.prices t1 t5
  have WL := D.longer
  obtain ⟨B0, B1⟩ := W_pow2 W
  obtain ⟨C0, C1⟩ := W_pow2 WL
  have w1 := option_worth_w W
  have w2 := option_held_w W
  have w3 := option_worth_w WS
  have w4 := option_held_w WS
  have w5 := option_worth_w WP
  have w6 := option_held_w WP
  have w7 := option_worth_w WL
  have w8 := option_extra_w W
  have tT : (0 : Int) < (t : Int) ^ T := pow_pos' tp T
  rw [V_S, Wt_S, Int.mul_pow, fr_scale tT _ _ B0] at w3 w4
  rw [V_P, Wt_P] at w5 w6
  obtain ⟨_, _, _, _, x2p, x2l⟩ := fr_spec (a := Vv true st T p) B0
  obtain ⟨_, _, _, _, h2p, h2l⟩ := fr_spec (a := Vv false st T p) B0
  obtain ⟨_, _, _, _, l2p, l2l⟩ := fr_spec (a := Vv true st (T + 1) p) C0
  have lf1 := law_frac_w (a := t * (fr (Vv true st T p) (Wt st ^ T)).1) x2p (by omega)
  have lf2 := law_frac_w (a := t * (fr (Vv false st T p) (Wt st ^ T)).1) h2p (by omega)
  have lf3 := law_frac_w (a := (fr (Vv true st T p) (Wt st ^ T)).1 - max 0 p * (fr (Vv true st T p) (Wt st ^ T)).2) x2p (by omega)
  rw [fr_again B0] at lf1 lf2
  rw [fr_sub B0] at lf3
  have c1 : (fr (Vv true st T p) (Wt st ^ T)).1 * (fr (Vv true st (T + 1) p) (Wt st ^ (T + 1))).2 ≤ (fr (Vv true st (T + 1) p) (Wt st ^ (T + 1))).1 * (fr (Vv true st T p) (Wt st ^ T)).2 := by
    refine fr_le B0 C0 ?_
    have := Int.mul_le_mul_of_nonneg_right (V_longer st T p) (Int.le_of_lt B0)
    rw [Int.pow_succ]
    have e : Vv true st T p * (Wt st ^ T * Wt st) = Wt st * Vv true st T p * Wt st ^ T := by ac_rfl
    rw [e]
    exact this
  have c2 : (fr (Vv false st T p) (Wt st ^ T)).1 * (fr (Vv true st T p) (Wt st ^ T)).2 ≤ (fr (Vv true st T p) (Wt st ^ T)).1 * (fr (Vv false st T p) (Wt st ^ T)).2 :=
    fr_le B0 B0 (Int.mul_le_mul_of_nonneg_right (V_held st T p) (Int.le_of_lt B0))
  have hmx : max 0 p * Wt st ^ T ≤ Vv true st T p := by
    by_cases hp : 0 ≤ p
    · rw [Int.max_eq_right hp]; exact V_price st T p
    · rw [Int.max_eq_left (by omega), Int.zero_mul]; exact V_nn true st T p
  have c3 : max 0 p * (fr (Vv true st T p) (Wt st ^ T)).2 ≤ (fr (Vv true st T p) (Wt st ^ T)).1 := by
    have := fr_le (a := max 0 p) (b := 1) (a' := Vv true st T p) (by decide) B0 (by omega)
    have e : fr (max 0 p) 1 = (max 0 p, 1) := by
      have := fr_whole (m := max 0 p) (b := 1) (by decide)
      rw [Int.mul_one] at this
      exact this
    rw [e] at this
    simpa using this
  have c4 : 0 ≤ (fr (Vv true st T p - max 0 p * Wt st ^ T) (Wt st ^ T)).1 := fr_nn B0 (by omega)
  have c5 : (∀ x ∈ st, x.1 ≤ 0) → fr (Vv true st T p) (Wt st ^ T) = (max 0 p, 1) := fun h => by
    rw [V_down h]
    exact fr_whole B0
  have c6 : (∀ x ∈ st, 0 ≤ x.1) → fr (Vv true st T p) (Wt st ^ T) = fr (Vv false st T p) (Wt st ^ T) := fun h => by rw [V_up h]
  generalize fr (Vv true st T p) (Wt st ^ T) = X at *
  generalize fr (Vv false st T p) (Wt st ^ T) = Y at *
  generalize fr (Vv true st (T + 1) p) (Wt st ^ (T + 1)) = Z at *
  generalize fr (Vv true st T p - max 0 p * Wt st ^ T) (Wt st ^ T) = Q at *
  generalize fr (↑t * Vv true st T p) (Wt st ^ T) = X5 at *
  generalize fr (↑t * Vv false st T p) (Wt st ^ T) = Y5 at *
  have l3 := D.l3
  have hsl : st.length ≤ 1000000 := by omega
  have m1 : ∀ i : Int, cMul i X.2 = true := fun i => cMul_r (by omega)
  have m2 : ∀ i : Int, cMul i Z.2 = true := fun i => cMul_r (by omega)
  have m3 : ∀ i : Int, cMul i Y.2 = true := fun i => cMul_r (by omega)
  have m4 : ∀ i : Int, cMul (t : Int) i = true := fun i => cMul_l (by omega)
  have lne : st.map (fun x => x.1) ≠ [] := fun e => by
    have := D.l1
    rw [List.map_eq_nil_iff] at e
    rw [e] at this
    simp at this
  obtain ⟨mx, emx, hmx'⟩ := k_maxI ([] : Sto) lne
  obtain ⟨mn, emn, hmn'⟩ := k_minI ([] : Sto) lne
  have sS : ∀ (r : List (Option DL.D)), fComp (jSeqD (e2 gIx (eV 1) (eC (.int 1)))) [10] (gN 10) (bYes) (eTup (aCons (e2 gIx (eV 10) (eC (.int 0))) (aCons (e2 gMulA (eV 2) (e2 gIx (eV 10) (eC (.int 1)))) (aNil)))) [some (.scr ns), some (walkD p st T), some (.int (t : Int)), some (frD X), some (frD Y), none, none, none, none, none, none] [] = some ((stS t st).map stepD) := fun _ => by
    have := fcomp_all (f := jSeqD (e2 gIx (eV 1) (eC (.int 1)))) (vs := [10]) (g := gN 10) (e := eTup (aCons (e2 gIx (eV 10) (eC (.int 0))) (aCons (e2 gMulA (eV 2) (e2 gIx (eV 10) (eC (.int 1)))) (aNil)))) (ρ := [some (.scr ns), some (walkD p st T), some (.int (t : Int)), some (frD X), some (frD Y), none, none, none, none, none, none]) (S := []) stepD st (fun x => stepD (x.1, t * x.2)) (by simp) hsl (fun x _ => ⟨_, rfl, by simp [m4, stepD]⟩)
    rw [this, stS, List.map_map]
    rfl
  have sP : fComp (jSeqD (e2 gIx (eV 1) (eC (.int 1)))) [10] (gN 10) (bYes) (eTup (aCons (e2 gMulA (eV 2) (e2 gIx (eV 10) (eC (.int 0)))) (aCons (e2 gIx (eV 10) (eC (.int 1))) (aNil)))) [some (.scr ns), some (walkD p st T), some (.int (t : Int)), some (frD X), some (frD Y), some (walkD p (stS t st) T), none, none, none, none, none] [] = some ((stP t st).map stepD) := by
    have := fcomp_all (f := jSeqD (e2 gIx (eV 1) (eC (.int 1)))) (vs := [10]) (g := gN 10) (e := eTup (aCons (e2 gMulA (eV 2) (e2 gIx (eV 10) (eC (.int 0)))) (aCons (e2 gIx (eV 10) (eC (.int 1))) (aNil)))) (ρ := [some (.scr ns), some (walkD p st T), some (.int (t : Int)), some (frD X), some (frD Y), some (walkD p (stS t st) T), none, none, none, none, none]) (S := []) stepD st (fun x => stepD (t * x.1, x.2)) (by simp) hsl (fun x _ => ⟨_, rfl, by simp [m4, stepD]⟩)
    rw [this, stP, List.map_map]
    rfl
  have sF : fComp (jSeqD (e2 gIx (eV 1) (eC (.int 1)))) [10] (gN 10) (bYes) (e2 gIx (eV 10) (eC (.int 0))) [some (.scr ns), some (walkD p st T), some (.int (t : Int)), some (frD X), some (frD Y), some (walkD p (stS t st) T), some (walkD (t * p) (stP t st) T), some (frD Z), none, none, none] [] = some ((st.map fun x => x.1).map .int) := by
    have := fcomp_all (f := jSeqD (e2 gIx (eV 1) (eC (.int 1)))) (vs := [10]) (g := gN 10) (e := e2 gIx (eV 10) (eC (.int 0))) (ρ := [some (.scr ns), some (walkD p st T), some (.int (t : Int)), some (frD X), some (frD Y), some (walkD p (stS t st) T), some (walkD (t * p) (stP t st) T), some (frD Z), none, none, none]) (S := []) stepD st (fun x => .int x.1) (by simp) hsl (fun x _ => ⟨_, rfl, by simp⟩)
    rw [this, List.map_map]
    rfl
  have et : (2 : Int) + (u : Int) = (t : Int) := by omega
  have eT1 : (T : Int) + 1 = ((T + 1 : Nat) : Int) := by omega
  have b1 : decide (Z.1 * X.2 < X.1 * Z.2) = false := decide_eq_false (by omega)
  have b2 : decide (X.1 * Y.2 < Y.1 * X.2) = false := decide_eq_false (by omega)
  have b3 : decide (X.1 < max 0 p * X.2) = false := decide_eq_false (by omega)
  have one : frD (max 0 p, 1) = .tup [.int (max 0 p), .int 1] := rfl
  refine ret_run (ret_set (x := walkD p st T) (by simp [startR, a0, a1, ew]) ?_)
  refine ret_set (x := .int (t : Int)) (by simp [startR, a2, ed2, et]) ?_
  refine ret_set (x := frD X) (by simp [startR, w1]) ?_
  refine ret_set (x := frD Y) (by simp [startR, w2]) ?_
  refine ret_set (x := walkD p (stS t st) T) (by
    simp only [startR, x_eTup, x_aCons, x_eCall, x_eF, List.map_cons, List.map_nil, List.length_cons, List.length_nil, List.cons_append, List.nil_append, List.replicate, List.set_cons_succ, List.set_cons_zero, sS []]
    simp
    rfl) ?_
  refine ret_iff (by simp [startR, w3, w4, ne_frD]) ?_
  refine ret_set (x := walkD (t * p) (stP t st) T) (by
    simp only [startR, x_eTup, x_aCons, x_eCall, x_eF, List.map_cons, List.map_nil, List.length_cons, List.length_nil, List.cons_append, List.nil_append, List.replicate, List.set_cons_succ, List.set_cons_zero, sP]
    simp [m4]
    rfl) ?_
  refine ret_iff (by simp [startR, w5, lf1, ne_frD, m4]) ?_
  refine ret_iff (by simp [startR, w6, lf2, ne_frD, m4]) ?_
  refine ret_set (x := frD Z) (by
    have : DL.D.tup [.int p, .tup (st.map stepD), .int ((T : Int) + 1)] = walkD p st (T + 1) := by rw [eT1]; rfl
    simp [startR, this, w7]) ?_
  refine ret_iff (by simp [startR, m1, m2, b1]) ?_
  refine ret_iff (by simp [startR, m1, m3, b2, mx0, b3]) ?_
  refine ret_set (x := .lst ((st.map fun x => x.1).map .int)) (by
    simp only [startR, x_eF, List.map_cons, List.map_nil, List.length_cons, List.length_nil, List.cons_append, List.nil_append, List.replicate, List.set_cons_succ, List.set_cons_zero]
    rw [sF]
    rfl) ?_
  have d1 : decide (mx ≤ 0) = true → X = (max 0 p, 1) := fun h => c5 fun x hx => by
    have := hmx' x.1 (List.mem_map.mpr ⟨x, hx, rfl⟩)
    have := of_decide_eq_true h
    omega
  have d2 : decide (0 ≤ mn) = true → X = Y := fun h => c6 fun x hx => by
    have := hmn' x.1 (List.mem_map.mpr ⟨x, hx, rfl⟩)
    have := of_decide_eq_true h
    omega
  refine ret_iff (by
    simp only [startR, x_bAnd, x_eB, x_e2, x_eV, x_eC, x_eCall, x_aCons, x_aNil, x_eTup, List.map_cons, List.map_nil, List.length_cons, List.length_nil, List.cons_append, List.nil_append, List.replicate, List.set_cons_succ, List.set_cons_zero, List.getElem?_cons_zero, List.getElem?_cons_succ, Option.bind_some, Option.map_some, id, emx, y_cmp, asB_bl, k_max2, y_ix, q_walkD, atI_0, mx0, mkT_2]
    rw [← one, ne_frD]
    by_cases h : mx ≤ 0
    · simp [h, d1 (decide_eq_true h)]
    · simp [h]) ?_
  refine ret_iff (by
    simp only [startR, x_bAnd, x_eB, x_e2, x_eV, x_eC, x_eCall, x_aCons, x_aNil, x_eTup, List.map_cons, List.map_nil, List.length_cons, List.length_nil, List.cons_append, List.nil_append, List.replicate, List.set_cons_succ, List.set_cons_zero, List.getElem?_cons_zero, List.getElem?_cons_succ, Option.bind_some, Option.map_some, id, emn, y_cmp, asB_bl]
    rw [ne_frD]
    by_cases h : 0 ≤ mn
    · simp [h, d2 (decide_eq_true h)]
    · simp [h]) ?_
  refine ret_set (x := frD Q) (by simp [startR, w8]) ?_
  refine ret_ret (x := .bl true) ?_ rfl
  simp [startR, m1, mx0, lf3, eq_frD, c4]
end DL

set_option maxHeartbeats 4000000
namespace DL
open PySem PySem.Spec L2
theorem all_mk {l : PySem.W.OpenLaw} {w : World} {K : PySem.W.Frag} {h : Heap} {mg : Str → Option Value} {fa fl : Addr} (X : K.In h) (G : h.Ns mainGlobals mg) (hfa : mg "law" = some (.ref fa))
    {f0 f1 f2 f3 f4 f5 f6 f7 f8 f9 f10 f11 f12 f13 f14 f15 f16 f17 f18 f19 : Addr}
    {od0 an0 od1 an1 od2 an2 od3 an3 od4 an4 od5 an5 od6 an6 od7 an7 od8 an8 od9 an9 od10 an10 od11 an11 od12 an12 od13 an13 od14 an14 od15 an15 od16 an16 od17 an17 od18 an18 od19 an19 : Option Addr} {sl0 sl1 sl2 sl3 sl4 sl5 sl6 sl7 sl8 sl9 sl10 sl11 sl12 sl13 sl14 sl15 sl16 sl17 sl18 sl19 : Array (Option Value)} {oc0 kV0 dc0 pm0 cd0 ct0 oc1 kV1 dc1 pm1 cd1 ct1 oc2 kV2 dc2 pm2 cd2 ct2 oc3 kV3 dc3 pm3 cd3 ct3 oc4 kV4 dc4 pm4 cd4 ct4 oc5 kV5 dc5 pm5 cd5 ct5 oc6 kV6 dc6 pm6 cd6 ct6 oc7 kV7 dc7 pm7 cd7 ct7 oc8 kV8 dc8 pm8 cd8 ct8 oc9 kV9 dc9 pm9 cd9 ct9 oc10 kV10 dc10 pm10 cd10 ct10 oc11 kV11 dc11 pm11 cd11 ct11 oc12 kV12 dc12 pm12 cd12 ct12 oc13 kV13 dc13 pm13 cd13 ct13 oc14 kV14 dc14 pm14 cd14 ct14 oc15 kV15 dc15 pm15 cd15 ct15 oc16 kV16 dc16 pm16 cd16 ct16 oc17 kV17 dc17 pm17 cd17 ct17 oc18 kV18 dc18 pm18 cd18 ct18 oc19 kV19 dc19 pm19 cd19 ct19 : Value} {odl anl : Option Addr} {sll : Array (Option Value)} {ocl kVl dcl pml cdl ctl : Value}
    {t_MOST_AMOUNT t_MOST_SHARE t_MOST_STEP t_MOST_TICKS : Tok}
    (a0 : PySem.W.nsIn K mainGlobals "_law_mixed" = some (some (.ref f0))) (l0 : K.lookup f0 = some ⟨oc0, od0, .func (PySem.W.fnOf "_law_mixed" "_law_mixed" (defArgs s_law_mixed) (defBody s_law_mixed) (defScope s_law_mixed) .none kV0 dc0 pm0 an0 cd0 ct0), sl0⟩) (c0 : PySem.W.codeIn K cd0 "_law_mixed" = true) (k0 : PySem.W.keepIn K (.ref f0) = true)
    (a1 : PySem.W.nsIn K mainGlobals "_law_row" = some (some (.ref f1))) (l1 : K.lookup f1 = some ⟨oc1, od1, .func (PySem.W.fnOf "_law_row" "_law_row" (defArgs s_law_row) (defBody s_law_row) (defScope s_law_row) .none kV1 dc1 pm1 an1 cd1 ct1), sl1⟩) (c1 : PySem.W.codeIn K cd1 "_law_row" = true) (k1 : PySem.W.keepIn K (.ref f1) = true)
    (a2 : PySem.W.nsIn K mainGlobals "_law_walk" = some (some (.ref f2))) (l2 : K.lookup f2 = some ⟨oc2, od2, .func (PySem.W.fnOf "_law_walk" "_law_walk" (defArgs s_law_walk) (defBody s_law_walk) (defScope s_law_walk) .none kV2 dc2 pm2 an2 cd2 ct2), sl2⟩) (c2 : PySem.W.codeIn K cd2 "_law_walk" = true) (k2 : PySem.W.keepIn K (.ref f2) = true)
    (a3 : PySem.W.nsIn K mainGlobals "is_tuple_of" = some (some (.ref f3))) (l3 : K.lookup f3 = some ⟨oc3, od3, .func (PySem.W.fnOf "is_tuple_of" "is_tuple_of" (defArgs s_is_tuple_of) (defBody s_is_tuple_of) (defScope s_is_tuple_of) .none kV3 dc3 pm3 an3 cd3 ct3), sl3⟩) (c3 : PySem.W.codeIn K cd3 "is_tuple_of" = true) (k3 : PySem.W.keepIn K (.ref f3) = true)
    (a4 : PySem.W.nsIn K mainGlobals "is_integer" = some (some (.ref f4))) (l4 : K.lookup f4 = some ⟨oc4, od4, .func (PySem.W.fnOf "is_integer" "is_integer" (defArgs s_is_integer) (defBody s_is_integer) (defScope s_is_integer) .none kV4 dc4 pm4 an4 cd4 ct4), sl4⟩) (c4 : PySem.W.codeIn K cd4 "is_integer" = true) (k4 : PySem.W.keepIn K (.ref f4) = true)
    (a5 : PySem.W.nsIn K mainGlobals "is_between" = some (some (.ref f5))) (l5 : K.lookup f5 = some ⟨oc5, od5, .func (PySem.W.fnOf "is_between" "is_between" (defArgs s_is_between) (defBody s_is_between) (defScope s_is_between) .none kV5 dc5 pm5 an5 cd5 ct5), sl5⟩) (c5 : PySem.W.codeIn K cd5 "is_between" = true) (k5 : PySem.W.keepIn K (.ref f5) = true)
    (a6 : PySem.W.nsIn K mainGlobals "is_walk" = some (some (.ref f6))) (l6 : K.lookup f6 = some ⟨oc6, od6, .func (PySem.W.fnOf "is_walk" "is_walk" (defArgs s_is_walk) (defBody s_is_walk) (defScope s_is_walk) .none kV6 dc6 pm6 an6 cd6 ct6), sl6⟩) (c6 : PySem.W.codeIn K cd6 "is_walk" = true) (k6 : PySem.W.keepIn K (.ref f6) = true)
    (a7 : PySem.W.nsIn K mainGlobals "need_walk" = some (some (.ref f7))) (l7 : K.lookup f7 = some ⟨oc7, od7, .func (PySem.W.fnOf "need_walk" "need_walk" (defArgs s_need_walk) (defBody s_need_walk) (defScope s_need_walk) .none kV7 dc7 pm7 an7 cd7 ct7), sl7⟩) (c7 : PySem.W.codeIn K cd7 "need_walk" = true) (k7 : PySem.W.keepIn K (.ref f7) = true)
    (a8 : PySem.W.nsIn K mainGlobals "fraction" = some (some (.ref f8))) (l8 : K.lookup f8 = some ⟨oc8, od8, .func (PySem.W.fnOf "fraction" "fraction" (defArgs s_fraction) (defBody s_fraction) (defScope s_fraction) .none kV8 dc8 pm8 an8 cd8 ct8), sl8⟩) (c8 : PySem.W.codeIn K cd8 "fraction" = true) (k8 : PySem.W.keepIn K (.ref f8) = true)
    (a9 : PySem.W.nsIn K mainGlobals "shares_of" = some (some (.ref f9))) (l9 : K.lookup f9 = some ⟨oc9, od9, .func (PySem.W.fnOf "shares_of" "shares_of" (defArgs s_shares_of) (defBody s_shares_of) (defScope s_shares_of) .none kV9 dc9 pm9 an9 cd9 ct9), sl9⟩) (c9 : PySem.W.codeIn K cd9 "shares_of" = true) (k9 : PySem.W.keepIn K (.ref f9) = true)
    (a10 : PySem.W.nsIn K mainGlobals "raised_to" = some (some (.ref f10))) (l10 : K.lookup f10 = some ⟨oc10, od10, .func (PySem.W.fnOf "raised_to" "raised_to" (defArgs s_raised_to) (defBody s_raised_to) (defScope s_raised_to) .none kV10 dc10 pm10 an10 cd10 ct10), sl10⟩) (c10 : PySem.W.codeIn K cd10 "raised_to" = true) (k10 : PySem.W.keepIn K (.ref f10) = true)
    (a11 : PySem.W.nsIn K mainGlobals "prices_at" = some (some (.ref f11))) (l11 : K.lookup f11 = some ⟨oc11, od11, .func (PySem.W.fnOf "prices_at" "prices_at" (defArgs s_prices_at) (defBody s_prices_at) (defScope s_prices_at) .none kV11 dc11 pm11 an11 cd11 ct11), sl11⟩) (c11 : PySem.W.codeIn K cd11 "prices_at" = true) (k11 : PySem.W.keepIn K (.ref f11) = true)
    (a12 : PySem.W.nsIn K mainGlobals "mean_ahead" = some (some (.ref f12))) (l12 : K.lookup f12 = some ⟨oc12, od12, .func (PySem.W.fnOf "mean_ahead" "mean_ahead" (defArgs s_mean_ahead) (defBody s_mean_ahead) (defScope s_mean_ahead) .none kV12 dc12 pm12 an12 cd12 ct12), sl12⟩) (c12 : PySem.W.codeIn K cd12 "mean_ahead" = true) (k12 : PySem.W.keepIn K (.ref f12) = true)
    (a13 : PySem.W.nsIn K mainGlobals "tables_of" = some (some (.ref f13))) (l13 : K.lookup f13 = some ⟨oc13, od13, .func (PySem.W.fnOf "tables_of" "tables_of" (defArgs s_tables_of) (defBody s_tables_of) (defScope s_tables_of) .none kV13 dc13 pm13 an13 cd13 ct13), sl13⟩) (c13 : PySem.W.codeIn K cd13 "tables_of" = true) (k13 : PySem.W.keepIn K (.ref f13) = true)
    (a14 : PySem.W.nsIn K mainGlobals "option_worth" = some (some (.ref f14))) (l14 : K.lookup f14 = some ⟨oc14, od14, .func (PySem.W.fnOf "option_worth" "option_worth" (defArgs s_option_worth) (defBody s_option_worth) (defScope s_option_worth) .none kV14 dc14 pm14 an14 cd14 ct14), sl14⟩) (c14 : PySem.W.codeIn K cd14 "option_worth" = true) (k14 : PySem.W.keepIn K (.ref f14) = true)
    (a15 : PySem.W.nsIn K mainGlobals "option_held" = some (some (.ref f15))) (l15 : K.lookup f15 = some ⟨oc15, od15, .func (PySem.W.fnOf "option_held" "option_held" (defArgs s_option_held) (defBody s_option_held) (defScope s_option_held) .none kV15 dc15 pm15 an15 cd15 ct15), sl15⟩) (c15 : PySem.W.codeIn K cd15 "option_held" = true) (k15 : PySem.W.keepIn K (.ref f15) = true)
    (a16 : PySem.W.nsIn K mainGlobals "option_extra" = some (some (.ref f16))) (l16 : K.lookup f16 = some ⟨oc16, od16, .func (PySem.W.fnOf "option_extra" "option_extra" (defArgs s_option_extra) (defBody s_option_extra) (defScope s_option_extra) .none kV16 dc16 pm16 an16 cd16 ct16), sl16⟩) (c16 : PySem.W.codeIn K cd16 "option_extra" = true) (k16 : PySem.W.keepIn K (.ref f16) = true)
    (a17 : PySem.W.nsIn K mainGlobals "_law_at" = some (some (.ref f17))) (l17 : K.lookup f17 = some ⟨oc17, od17, .func (PySem.W.fnOf "_law_at" "_law_at" (defArgs s_law_at) (defBody s_law_at) (defScope s_law_at) .none kV17 dc17 pm17 an17 cd17 ct17), sl17⟩) (c17 : PySem.W.codeIn K cd17 "_law_at" = true) (k17 : PySem.W.keepIn K (.ref f17) = true)
    (a18 : PySem.W.nsIn K mainGlobals "_law_gcd" = some (some (.ref f18))) (l18 : K.lookup f18 = some ⟨oc18, od18, .func (PySem.W.fnOf "_law_gcd" "_law_gcd" (defArgs s_law_gcd) (defBody s_law_gcd) (defScope s_law_gcd) .none kV18 dc18 pm18 an18 cd18 ct18), sl18⟩) (c18 : PySem.W.codeIn K cd18 "_law_gcd" = true) (k18 : PySem.W.keepIn K (.ref f18) = true)
    (a19 : PySem.W.nsIn K mainGlobals "_law_frac" = some (some (.ref f19))) (l19 : K.lookup f19 = some ⟨oc19, od19, .func (PySem.W.fnOf "_law_frac" "_law_frac" (defArgs s_law_frac) (defBody s_law_frac) (defScope s_law_frac) .none kV19 dc19 pm19 an19 cd19 ct19), sl19⟩) (c19 : PySem.W.codeIn K cd19 "_law_frac" = true) (k19 : PySem.W.keepIn K (.ref f19) = true)
    (al : PySem.W.nsIn K mainGlobals "law" = some (some (.ref fl))) (ll : K.lookup fl = some ⟨ocl, odl, .func (PySem.W.fnOf "law" "law" (defArgs s_law) (defBody s_law) (defScope s_law) .none kVl dcl pml anl cdl ctl), sll⟩) (cl : PySem.W.codeIn K cdl "law" = true) (kl : PySem.W.keepIn K (.ref fl) = true)
    (z_abs : PySem.W.nsIn K mainGlobals "abs" = some none)
    (z_all : PySem.W.nsIn K mainGlobals "all" = some none)
    (z_bool : PySem.W.nsIn K mainGlobals "bool" = some none)
    (z_int : PySem.W.nsIn K mainGlobals "int" = some none)
    (z_isinstance : PySem.W.nsIn K mainGlobals "isinstance" = some none)
    (z_len : PySem.W.nsIn K mainGlobals "len" = some none)
    (z_max : PySem.W.nsIn K mainGlobals "max" = some none)
    (z_min : PySem.W.nsIn K mainGlobals "min" = some none)
    (z_range : PySem.W.nsIn K mainGlobals "range" = some none)
    (z_sorted : PySem.W.nsIn K mainGlobals "sorted" = some none)
    (z_sum : PySem.W.nsIn K mainGlobals "sum" = some none)
    (z_tuple : PySem.W.nsIn K mainGlobals "tuple" = some none)
    (z_gcd : PySem.W.nsIn K mainGlobals "gcd" = some (some (.builtin "math.gcd")))
    (y_MOST_AMOUNT : PySem.W.nsIn K mainGlobals "MOST_AMOUNT" = some (some (.int 1000000 t_MOST_AMOUNT)))
    (y_MOST_SHARE : PySem.W.nsIn K mainGlobals "MOST_SHARE" = some (some (.int 100 t_MOST_SHARE)))
    (y_MOST_STEP : PySem.W.nsIn K mainGlobals "MOST_STEP" = some (some (.int 100 t_MOST_STEP)))
    (y_MOST_TICKS : PySem.W.nsIn K mainGlobals "MOST_TICKS" = some (some (.int 12 t_MOST_TICKS)))
    : ∃ fd : FuncData, (∀ (s : Shared) (v : Value), BindsTo s fd ⟨[v], []⟩ [("script", v)]) ∧ ∀ base : Heap, K.In base → base.Ns mainGlobals mg → FnOk l.prog w K mg base CX0 7 fa fd ["script"] (spD K 1 f_law) := by
  have e := hfa.symm.trans (PySem.W.mg_of X G al)
  cases e
  have F : Fx K mg := ⟨tx_mk X G bd_law_mixed a0 l0 c0 k0, tx_mk X G bd_law_row a1 l1 c1 k1, tx_mk X G bd_law_walk a2 l2 c2 k2, tx_mk X G bd_is_tuple_of a3 l3 c3 k3, tx_mk X G bd_is_integer a4 l4 c4 k4, tx_mk X G bd_is_between a5 l5 c5 k5, tx_mk X G bd_is_walk a6 l6 c6 k6, tx_mk X G bd_need_walk a7 l7 c7 k7, tx_mk X G bd_fraction a8 l8 c8 k8, tx_mk X G bd_shares_of a9 l9 c9 k9, tx_mk X G bd_raised_to a10 l10 c10 k10, tx_mk X G bd_prices_at a11 l11 c11 k11, tx_mk X G bd_mean_ahead a12 l12 c12 k12, tx_mk X G bd_tables_of a13 l13 c13 k13, tx_mk X G bd_option_worth a14 l14 c14 k14, tx_mk X G bd_option_held a15 l15 c15 k15, tx_mk X G bd_option_extra a16 l16 c16 k16, tx_mk X G bd_law_at a17 l17 c17 k17, tx_mk X G bd_law_gcd a18 l18 c18 k18, tx_mk X G bd_law_frac a19 l19 c19 k19, PySem.W.mg_none_of X G z_abs, PySem.W.mg_none_of X G z_all, PySem.W.mg_none_of X G z_bool, PySem.W.mg_none_of X G z_int, PySem.W.mg_none_of X G z_isinstance, PySem.W.mg_none_of X G z_len, PySem.W.mg_none_of X G z_max, PySem.W.mg_none_of X G z_min, PySem.W.mg_none_of X G z_range, PySem.W.mg_none_of X G z_sorted, PySem.W.mg_none_of X G z_sum, PySem.W.mg_none_of X G z_tuple, PySem.W.mg_of X G z_gcd, ⟨_, PySem.W.mg_of X G y_MOST_AMOUNT⟩, ⟨_, PySem.W.mg_of X G y_MOST_SHARE⟩, ⟨_, PySem.W.mg_of X G y_MOST_STEP⟩, ⟨_, PySem.W.mg_of X G y_MOST_TICKS⟩⟩
  exact ⟨PySem.W.fnOf "law" "law" (defArgs s_law) (defBody s_law) (defScope s_law) .none kVl dcl pml anl cdl ctl, fun s v => .of_eq rfl, fun base _ _ => ok_law F (fun_mk (st := s_law) ll cl kl)⟩
end DL

open PySem PySem.W PyProof.Rows in
set_option maxRecDepth 100000 in
set_option pp.maxSteps 300 in
set_option maxHeartbeats 0 in
theorem PySem.Challenge.cw_chesthours_k91_choices_to_scale_holds : PySem.Challenge.rw_chesthours_k91_choices_to_scale.Holds := by
  w_on; o_law; k_head; (case hw => w_witness2)
  k_fill
  refine DL.law_walk (l := PySem.Challenge.rw_chesthours_k91_choices_to_scale) (n := 63) (k := 7) (x := "script") (g := DL.f_law) rfl (by decide) rfl ⟨rfl, by decide, by decide⟩ (fun w h Y => PySem.W.kIn_of Y) DL.plain ?F
  case F =>
    intro w mg fa h KX G hmg
    refine' DL.all_mk KX G hmg ?a0 ?l0 ?c0 ?k0 ?a1 ?l1 ?c1 ?k1 ?a2 ?l2 ?c2 ?k2 ?a3 ?l3 ?c3 ?k3 ?a4 ?l4 ?c4 ?k4 ?a5 ?l5 ?c5 ?k5 ?a6 ?l6 ?c6 ?k6 ?a7 ?l7 ?c7 ?k7 ?a8 ?l8 ?c8 ?k8 ?a9 ?l9 ?c9 ?k9 ?a10 ?l10 ?c10 ?k10 ?a11 ?l11 ?c11 ?k11 ?a12 ?l12 ?c12 ?k12 ?a13 ?l13 ?c13 ?k13 ?a14 ?l14 ?c14 ?k14 ?a15 ?l15 ?c15 ?k15 ?a16 ?l16 ?c16 ?k16 ?a17 ?l17 ?c17 ?k17 ?a18 ?l18 ?c18 ?k18 ?a19 ?l19 ?c19 ?k19 ?al ?ll ?cl ?kl ?z_abs ?z_all ?z_bool ?z_int ?z_isinstance ?z_len ?z_max ?z_min ?z_range ?z_sorted ?z_sum ?z_tuple ?z_gcd ?y_MOST_AMOUNT ?y_MOST_SHARE ?y_MOST_STEP ?y_MOST_TICKS
    (case a0 => k_is)
    (case l0 => k_is)
    (case c0 => k_is)
    (case k0 => k_is)
    (case a1 => k_is)
    (case l1 => k_is)
    (case c1 => k_is)
    (case k1 => k_is)
    (case a2 => k_is)
    (case l2 => k_is)
    (case c2 => k_is)
    (case k2 => k_is)
    (case a3 => k_is)
    (case l3 => k_is)
    (case c3 => k_is)
    (case k3 => k_is)
    (case a4 => k_is)
    (case l4 => k_is)
    (case c4 => k_is)
    (case k4 => k_is)
    (case a5 => k_is)
    (case l5 => k_is)
    (case c5 => k_is)
    (case k5 => k_is)
    (case a6 => k_is)
    (case l6 => k_is)
    (case c6 => k_is)
    (case k6 => k_is)
    (case a7 => k_is)
    (case l7 => k_is)
    (case c7 => k_is)
    (case k7 => k_is)
    (case a8 => k_is)
    (case l8 => k_is)
    (case c8 => k_is)
    (case k8 => k_is)
    (case a9 => k_is)
    (case l9 => k_is)
    (case c9 => k_is)
    (case k9 => k_is)
    (case a10 => k_is)
    (case l10 => k_is)
    (case c10 => k_is)
    (case k10 => k_is)
    (case a11 => k_is)
    (case l11 => k_is)
    (case c11 => k_is)
    (case k11 => k_is)
    (case a12 => k_is)
    (case l12 => k_is)
    (case c12 => k_is)
    (case k12 => k_is)
    (case a13 => k_is)
    (case l13 => k_is)
    (case c13 => k_is)
    (case k13 => k_is)
    (case a14 => k_is)
    (case l14 => k_is)
    (case c14 => k_is)
    (case k14 => k_is)
    (case a15 => k_is)
    (case l15 => k_is)
    (case c15 => k_is)
    (case k15 => k_is)
    (case a16 => k_is)
    (case l16 => k_is)
    (case c16 => k_is)
    (case k16 => k_is)
    (case a17 => k_is)
    (case l17 => k_is)
    (case c17 => k_is)
    (case k17 => k_is)
    (case a18 => k_is)
    (case l18 => k_is)
    (case c18 => k_is)
    (case k18 => k_is)
    (case a19 => k_is)
    (case l19 => k_is)
    (case c19 => k_is)
    (case k19 => k_is)
    (case al => k_is)
    (case ll => k_is)
    (case cl => k_is)
    (case kl => k_is)
    (case z_abs => k_is)
    (case z_all => k_is)
    (case z_bool => k_is)
    (case z_int => k_is)
    (case z_isinstance => k_is)
    (case z_len => k_is)
    (case z_max => k_is)
    (case z_min => k_is)
    (case z_range => k_is)
    (case z_sorted => k_is)
    (case z_sum => k_is)
    (case z_tuple => k_is)
    (case z_gcd => k_is)
    (case y_MOST_AMOUNT => k_is)
    (case y_MOST_SHARE => k_is)
    (case y_MOST_STEP => k_is)
    (case y_MOST_TICKS => k_is)
#print axioms PySem.Challenge.cw_chesthours_k91_choices_to_scale_holds
