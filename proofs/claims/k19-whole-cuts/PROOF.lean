import PyProof.Rows.All
import Wide.All
import OpenK.AllK
import Wide.FinOn
import KE.KStateDown
import Lean
import HandS.ForMost
import HandS.Conv
import HandS.Flow
import HandS.Zip
import HandS.Star
import HandS.IsInst
import HandS.Style
import KE.DataEq
import HandS.TupAny
import HandS.TupLe
import HandS.Wide
import HandS.Codes
import HandS.TupLen
import HandS.WordsDict
import KE.GoesMore
import KE.GoesEnum
import HandS.Words
import HandS.Defaults
import KE.LtData
import KE.SortData
import KE.DataCmp
import HandS.TupMul
import HandS.SetBool
import KE.KDictDisplayH
import KE.KDictZip
import HandS.GenList
import KE.KDictPairs
import HandS.Ends
import HandS.HeadEnd
import HandS.HeadHook1
import HandS.HeadHook2
import HandS.Base
import HandS.Call
import HandS.More
import HandS.WordsExc
import HandS.Head0
import HandS.Head1
import HandS.Head2
import PySem.Challenge.RW_swaprails_k19_whole_cuts
set_option Elab.async false
set_option linter.all false
set_option maxRecDepth 100000
set_option autoImplicit false
set_option maxHeartbeats 0
/-! Eng1: data by value, the abstract store, how they stand in the heap. -/
namespace Sw
open PySem PySem.Spec PyProof.Rows L2

inductive D where
  | non
  | bl (b : Bool)
  | int (i : Int)
  | str (x : Str)
  | tup (xs : List D)
  | ref (n : Nat)

inductive O where
  | lst (xs : List D)
  | frz (xs : List D)
  | dct (kvs : List (D × D))
  | dctT (kvs : List (D × D))
  | set (xs : List Int)

/-- the store: the mutable things by number; bs: how many there were at the entry of each frame; dirty: an elder frame's thing may hold a younger one -/
structure Sto where
  objs : List O
  bs : List Nat
  dirty : Bool
abbrev Sto.len (S : Sto) : Nat := S.objs.length

mutual
def D.blw (k : Nat) : D → Bool
  | .tup xs => D.blws k xs
  | .ref n => Nat.blt n k
  | .non => true
  | .bl _ => true
  | .int _ => true
  | .str _ => true
def D.blws (k : Nat) : List D → Bool
  | [] => true
  | x :: xs => D.blw k x && D.blws k xs
end
def pairsBelow (k : Nat) : List (D × D) → Bool
  | [] => true
  | (a, b) :: r => D.blw k a && D.blw k b && pairsBelow k r
def O.blw (k : Nat) : O → Bool
  | .lst xs => D.blws k xs
  | .frz xs => D.blws k xs
  | .dct kvs => pairsBelow k kvs
  | .dctT kvs => pairsBelow k kvs
  | .set _ => true

abbrev Frg := PySem.W.Frag
section
variable (m : Nat → Addr) (k : Nat) (H : Hp)
mutual
def RD : D → V → Prop
  | .non, v => v = .non
  | .bl b, v => v = .bl b
  | .int i, v => v = .int i
  | .str x, v => v = .str x
  | .tup ds, v => ∃ a vs, v = .ref a ∧ H a = some (.tup vs) ∧ RDs ds vs
  | .ref n, v => n < k ∧ v = .ref (m n)
def RDs : List D → List V → Prop
  | [], vs => vs = []
  | d :: ds, vs => ∃ v r, vs = v :: r ∧ RD d v ∧ RDs ds r
end
/-- the D of a key -/
def kD : Key → D
  | .inl i => .int i
  | .inr x => .str x
def kT (ks : List Key) : D := .tup (ks.map kD)
def RKv {κ : Type} (kd : κ → D) : List (D × D) → List (κ × V) → Prop
  | [], ps => ps = []
  | (a, d) :: r, ps => ∃ q v ps', ps = (q, v) :: ps' ∧ a = kd q ∧ RD m k H d v ∧ RKv kd r ps'
def OOk (a : Addr) : O → Prop
  | .lst ds => ∃ vs, H a = some (.lst vs) ∧ RDs m k H ds vs
  | .frz ds => ∃ vs o, H a = some (.frz o (.lst vs)) ∧ RDs m k H ds vs
  | .dct kvs => ∃ ps, H a = some (.dK ps) ∧ RKv m k H kD kvs ps
  | .dctT kvs => ∃ ps, H a = some (.dT ps) ∧ RKv m k H kT kvs ps
  | .set xs => H a = some (.set (fun j => xs.contains j) xs.length)
end

/-- what never changes: tuples, locked things -/
structure Keep (H H' : Hp) : Prop where
  tup : ∀ a xs, H a = some (.tup xs) → H' a = some (.tup xs)
  frz : ∀ a o u, H a = some (.frz o u) → H' a = some (.frz o u)
theorem Keep.refl (H : Hp) : Keep H H := ⟨fun _ _ h => h, fun _ _ _ h => h⟩
theorem Keep.trans {H H1 H2 : Hp} (a : Keep H H1) (b : Keep H1 H2) : Keep H H2 := ⟨fun c xs h => b.tup c xs (a.tup c xs h), fun c o u h => b.frz c o u (a.frz c o u h)⟩
theorem Keep.sqT {K : Frg} {H H' : Hp} {a : Addr} {xs : List V} (e : Keep H H') (h : SqT K H a xs) : SqT K H' a xs := by
  rcases h with (h | ⟨o, h⟩) | h
  · exact .inl (.inl (e.tup _ _ h))
  · exact .inl (.inr ⟨o, e.frz _ _ _ h⟩)
  · exact .inr h
theorem Keep.new {H : Hp} {p : Addr} {o : HO} (h : H p = none) : Keep H (upd H p o) :=
  ⟨fun a xs e => by rw [upd_ne (ne_of_none e h)]; exact e, fun a o u e => by rw [upd_ne (ne_of_none e h)]; exact e⟩
theorem Keep.same {H H' : Hp} (h : ∀ b o, H b = some o → H' b = some o) : Keep H H' := ⟨fun a xs e => h _ _ e, fun a o u e => h _ _ e⟩

structure Rel (m : Nat → Addr) (S : Sto) (H : Hp) : Prop where
  obj : ∀ n o, S.objs[n]? = some o → OOk m S.len H (m n) o
  inj : ∀ i j, i < S.len → j < S.len → m i = m j → i = j
  low : S.dirty = false → ∀ b ∈ S.bs, ∀ n o, n < b → S.objs[n]? = some o → o.blw b = true
  top : ∀ b ∈ S.bs, b ≤ S.bs.headD 0
  lens : ∀ b ∈ S.bs, b ≤ S.len

structure Ext (m m' : Nat → Addr) (S S' : Sto) (H H' : Hp) : Prop where
  len : S.len ≤ S'.len
  ag : ∀ n, n < S.len → m' n = m n
  keep : Keep H H'
  bs : S'.bs = S.bs
  rel : Rel m' S' H'
  oth : ∀ a o, H a = some o → (∀ n, n < S.len → m n ≠ a) → H' a = some o
  new : ∀ n, S.len ≤ n → n < S'.len → H (m' n) = none
section
variable {m m' m2 : Nat → Addr} {S S' S2 : Sto} {H H' H2 : Hp}
theorem OOk.alive {k : Nat} {a : Addr} {o : O} (h : OOk m k H a o) : ∃ u, H a = some u := by
  cases o with
  | lst xs => obtain ⟨vs, h, _⟩ := h; exact ⟨_, h⟩
  | frz xs => obtain ⟨vs, _, h, _⟩ := h; exact ⟨_, h⟩
  | dct kvs => obtain ⟨vs, h, _⟩ := h; exact ⟨_, h⟩
  | dctT kvs => obtain ⟨vs, h, _⟩ := h; exact ⟨_, h⟩
  | set xs => exact ⟨_, h⟩
theorem Rel.alive (r : Rel m S H) {n : Nat} (h : n < S.len) : ∃ u, H (m n) = some u := (r.obj n _ (List.getElem?_eq_getElem h)).alive
theorem Ext.refl (r : Rel m S H) : Ext m m S S H H := ⟨Nat.le_refl _, fun _ _ => rfl, Keep.refl H, rfl, r, fun _ _ h _ => h, fun n h1 h2 => absurd h2 (Nat.not_lt_of_le h1)⟩
theorem Ext.trans (a : Ext m m' S S' H H') (b : Ext m' m2 S' S2 H' H2) : Ext m m2 S S2 H H2 :=
  ⟨Nat.le_trans a.len b.len, fun n h => (b.ag n (Nat.lt_of_lt_of_le h a.len)).trans (a.ag n h), a.keep.trans b.keep, b.bs.trans a.bs, b.rel,
    fun c o h hn => b.oth c o (a.oth c o h hn) fun n hl e => (by
      by_cases z : n < S.len
      · exact hn n z ((a.ag n z).symm.trans e)
      · have := a.new n (Nat.le_of_not_lt z) hl
        rw [e, h] at this
        cases this),
    fun n h1 h2 => by
      by_cases z : n < S'.len
      · rw [b.ag n z]; exact a.new n h1 z
      · have hb := b.new n (Nat.le_of_not_lt z) h2
        cases hc : H (m2 n) with
        | none => rfl
        | some o =>
          by_cases y : ∃ j, j < S.len ∧ m j = m2 n
          · obtain ⟨j, hj, ej⟩ := y
            obtain ⟨u, hu⟩ := a.rel.alive (Nat.lt_of_lt_of_le hj a.len)
            rw [a.ag j hj, ej, hb] at hu
            cases hu
          · have := a.oth _ o hc fun j hj ej => y ⟨j, hj, ej⟩
            rw [hb] at this
            cases this⟩

mutual
theorem RD.mono' {k k' : Nat} (hk : k ≤ k') (ha : ∀ n, n < k → m' n = m n) (e : Keep H H') : ∀ (d : D) (v : V), RD m k H d v → RD m' k' H' d v
  | .non, v, h => h
  | .bl _, v, h => h
  | .int _, v, h => h
  | .str _, v, h => h
  | .tup ds, v, h => by
    obtain ⟨a, vs, h1, h2, h3⟩ := h
    exact ⟨a, vs, h1, e.tup _ _ h2, RDs.mono' hk ha e ds vs h3⟩
  | .ref n, v, h => ⟨Nat.lt_of_lt_of_le h.1 hk, by rw [ha n h.1]; exact h.2⟩
theorem RDs.mono' {k k' : Nat} (hk : k ≤ k') (ha : ∀ n, n < k → m' n = m n) (e : Keep H H') : ∀ (ds : List D) (vs : List V), RDs m k H ds vs → RDs m' k' H' ds vs
  | [], vs, h => h
  | d :: ds, vs, h => by
    obtain ⟨v, r, h1, h2, h3⟩ := h
    exact ⟨v, r, h1, RD.mono' hk ha e d v h2, RDs.mono' hk ha e ds r h3⟩
end
theorem RKv.mono' {κ : Type} {kd : κ → D} {k k' : Nat} (hk : k ≤ k') (ha : ∀ n, n < k → m' n = m n) (e : Keep H H') : ∀ (kvs : List (D × D)) (ps : List (κ × V)), RKv m k H kd kvs ps → RKv m' k' H' kd kvs ps
  | [], ps, h => h
  | (a, d) :: r, ps, h => by
    obtain ⟨q, v, ps', h1, h2, h3, h4⟩ := h
    exact ⟨q, v, ps', h1, h2, RD.mono' hk ha e d v h3, RKv.mono' hk ha e r ps' h4⟩
theorem RD.ext {d : D} {v : V} (h : RD m S.len H d v) (e : Ext m m' S S' H H') : RD m' S'.len H' d v := RD.mono' e.len e.ag e.keep d v h
theorem RDs.ext {d : List D} {v : List V} (h : RDs m S.len H d v) (e : Ext m m' S S' H H') : RDs m' S'.len H' d v := RDs.mono' e.len e.ag e.keep d v h
mutual
theorem RD.blw {k : Nat} : ∀ (d : D) (v : V), RD m k H d v → d.blw k = true
  | .non, _, _ => rfl
  | .bl _, _, _ => rfl
  | .int _, _, _ => rfl
  | .str _, _, _ => rfl
  | .tup ds, v, h => by
    obtain ⟨a, vs, _, _, h3⟩ := h
    simp only [D.blw]
    exact RDs.below ds vs h3
  | .ref n, _, h => by
    simp only [D.blw]
    exact Nat.ble_eq_true_of_le h.1
theorem RDs.below {k : Nat} : ∀ (ds : List D) (vs : List V), RDs m k H ds vs → D.blws k ds = true
  | [], _, _ => rfl
  | d :: ds, vs, h => by
    obtain ⟨v, r, _, h2, h3⟩ := h
    simp only [D.blws, RD.blw d v h2, RDs.below ds r h3, Bool.and_self]
end
mutual
theorem below_mono {k k' : Nat} (h : k ≤ k') : ∀ d : D, d.blw k = true → d.blw k' = true
  | .non, _ => rfl
  | .bl _, _ => rfl
  | .int _, _ => rfl
  | .str _, _ => rfl
  | .tup ds, q => by
    simp only [D.blw] at q ⊢
    exact belows_mono h ds q
  | .ref n, q => by
    simp only [D.blw] at q ⊢
    have := Nat.le_of_ble_eq_true q
    exact Nat.ble_eq_true_of_le (by omega)
theorem belows_mono {k k' : Nat} (h : k ≤ k') : ∀ ds : List D, D.blws k ds = true → D.blws k' ds = true
  | [], _ => rfl
  | d :: ds, q => by
    simp only [D.blws, Bool.and_eq_true] at q ⊢
    exact ⟨below_mono h d q.1, belows_mono h ds q.2⟩
end
theorem pairs_mono {k k' : Nat} (h : k ≤ k') : ∀ ds : List (D × D), pairsBelow k ds = true → pairsBelow k' ds = true
  | [], _ => rfl
  | (a, b) :: ds, q => by
    simp only [pairsBelow, Bool.and_eq_true] at q ⊢
    exact ⟨⟨below_mono h a q.1.1, below_mono h b q.1.2⟩, pairs_mono h ds q.2⟩
theorem O.blw_mono {k k' : Nat} (h : k ≤ k') (o : O) (q : o.blw k = true) : o.blw k' = true := by
  cases o with
  | lst xs => exact belows_mono h xs q
  | frz xs => exact belows_mono h xs q
  | dct kvs => exact pairs_mono h kvs q
  | dctT kvs => exact pairs_mono h kvs q
  | set xs => rfl
theorem kD_below (k : Nat) (q : Key) : (kD q).blw k = true := by cases q <;> rfl
theorem kDs_below (k : Nat) : ∀ qs : List Key, D.blws k (qs.map kD) = true
  | [] => rfl
  | q :: qs => by simp only [List.map_cons, D.blws, kD_below, kDs_below k qs, Bool.and_self]
theorem kT_below (k : Nat) (qs : List Key) : (kT qs).blw k = true := by simp only [kT, D.blw]; exact kDs_below k qs
theorem RKv.below {κ : Type} {kd : κ → D} {k : Nat} (hb : ∀ q, (kd q).blw k = true) : ∀ (kvs : List (D × D)) (ps : List (κ × V)), RKv m k H kd kvs ps → pairsBelow k kvs = true
  | [], _, _ => rfl
  | (a, d) :: r, ps, h => by
    obtain ⟨q, v, ps', _, h2, h3, h4⟩ := h
    simp only [pairsBelow, Bool.and_eq_true]
    exact ⟨⟨by rw [h2]; exact hb q, RD.blw d v h3⟩, RKv.below hb r ps' h4⟩
theorem OOk.below {k : Nat} {a : Addr} {o : O} (h : OOk m k H a o) : o.blw k = true := by
  cases o with
  | lst xs => obtain ⟨vs, _, h⟩ := h; exact RDs.below _ _ h
  | frz xs => obtain ⟨vs, _, _, h⟩ := h; exact RDs.below _ _ h
  | dct kvs => obtain ⟨vs, _, h⟩ := h; exact RKv.below (kD_below _) _ _ h
  | dctT kvs => obtain ⟨vs, _, h⟩ := h; exact RKv.below (kT_below _) _ _ h
  | set xs => rfl
theorem OOk.live {k : Nat} {a : Addr} {o : O} (h : OOk m k H a o) : ∃ u, H a = some u := by
  cases o with
  | lst xs => obtain ⟨vs, h, _⟩ := h; exact ⟨_, h⟩
  | frz xs => obtain ⟨vs, _, h, _⟩ := h; exact ⟨_, h⟩
  | dct kvs => obtain ⟨vs, h, _⟩ := h; exact ⟨_, h⟩
  | dctT kvs => obtain ⟨vs, h, _⟩ := h; exact ⟨_, h⟩
  | set xs => exact ⟨_, h⟩
theorem Rel.live (r : Rel m S H) {n : Nat} (h : n < S.len) : ∃ u, H (m n) = some u := (r.obj n _ (List.getElem?_eq_getElem h)).live

/-! ### a new object -/
def Sto.add (S : Sto) (o : O) : Sto := ⟨S.objs ++ [o], S.bs, S.dirty⟩
theorem Sto.add_len (S : Sto) (o : O) : (S.add o).len = S.len + 1 := by simp [Sto.add, Sto.len]
def withAt (m : Nat → Addr) (n : Nat) (p : Addr) : Nat → Addr := fun i => if i = n then p else m i
theorem withAt_same (m : Nat → Addr) (n : Nat) (p : Addr) : withAt m n p n = p := by simp [withAt]
theorem withAt_ne (m : Nat → Addr) (n : Nat) (p : Addr) {i : Nat} (h : i ≠ n) : withAt m n p i = m i := by simp [withAt, h]
theorem OOk.mono' {k k' : Nat} (hk : k ≤ k') (ha : ∀ n, n < k → m' n = m n) (e : Keep H H') {a a' : Addr} {o : O} (h : OOk m k H a o) (hh : H' a' = H a) : OOk m' k' H' a' o := by
  cases o with
  | lst xs => obtain ⟨vs, h1, h2⟩ := h; exact ⟨vs, hh.trans h1, RDs.mono' hk ha e _ _ h2⟩
  | frz xs => obtain ⟨vs, o, h1, h2⟩ := h; exact ⟨vs, o, hh.trans h1, RDs.mono' hk ha e _ _ h2⟩
  | dct kvs => obtain ⟨vs, h1, h2⟩ := h; exact ⟨vs, hh.trans h1, RKv.mono' hk ha e _ _ h2⟩
  | dctT kvs => obtain ⟨vs, h1, h2⟩ := h; exact ⟨vs, hh.trans h1, RKv.mono' hk ha e _ _ h2⟩
  | set xs => exact hh.trans h
/-- a new object at p -/
theorem Ext.add (r : Rel m S H) {p : Addr} {o : O} {ho : HO} (hp : H p = none) (ok : OOk m S.len (upd H p ho) p o) : Ext m (withAt m S.len p) S (S.add o) H (upd H p ho) := by
  have ag : ∀ n, n < S.len → withAt m S.len p n = m n := fun n h => withAt_ne _ _ _ (Nat.ne_of_lt h)
  have kp : Keep H (upd H p ho) := Keep.new hp
  have ne : ∀ n, n < S.len → m n ≠ p := fun n h e => by obtain ⟨u, q⟩ := r.live h; rw [e, hp] at q; cases q
  refine ⟨by rw [Sto.add_len]; exact Nat.le_succ _, ag, kp, rfl, ⟨fun n o' e => ?_, fun i j hi hj e => ?_, fun hd b hb n o' hn e => ?_, r.top, fun b hb => Nat.le_trans (r.lens b hb) (by rw [Sto.add_len]; exact Nat.le_succ _)⟩, fun a o' e _ => ?_, fun n h1 h2 => ?_⟩
  · rw [Sto.add_len]
    by_cases h : n < S.len
    · have e' : S.objs[n]? = some o' := by rw [← e]; simp [Sto.add, List.getElem?_append_left h]
      rw [ag n h]
      exact (r.obj n o' e').mono' (Nat.le_succ _) ag kp (upd_ne (ne n h))
    · have hn : n = S.len := by
        have h1 : n < (S.add o).len := (List.getElem?_eq_some_iff.mp e).1
        rw [Sto.add_len] at h1
        omega
      subst hn
      have e' : o = o' := by simpa [Sto.add] using e
      subst e'
      rw [withAt_same]
      exact ok.mono' (Nat.le_succ _) ag (Keep.refl _) rfl
  · rw [Sto.add_len] at hi hj
    by_cases h1 : i < S.len
    · by_cases h2 : j < S.len
      · rw [ag i h1, ag j h2] at e; exact r.inj i j h1 h2 e
      · have : j = S.len := by omega
        subst this
        rw [ag i h1, withAt_same] at e
        exact absurd e (ne i h1)
    · have : i = S.len := by omega
      subst this
      by_cases h2 : j < S.len
      · rw [ag j h2, withAt_same] at e
        exact absurd e.symm (ne j h2)
      · omega
  · have h : n < S.len := Nat.lt_of_lt_of_le hn (r.lens b hb)
    have e' : S.objs[n]? = some o' := by rw [← e]; simp [Sto.add, List.getElem?_append_left h]
    exact r.low hd b hb n o' hn e'
  · rw [upd_ne]
    · exact e
    · intro z; rw [z, hp] at e; cases e
  · rw [Sto.add_len] at h2
    have : n = S.len := by omega
    subst this
    rw [withAt_same]
    exact hp
/-! ### a store into an object -/
/-- dirty: a thing of an elder frame gets something with a number in it -/
def Sto.esc (S : Sto) (n : Nat) (ok : Bool) : Bool := match ok with
  | true => S.dirty
  | false => S.dirty || Nat.blt n (S.bs.headD 0)
def Sto.put (S : Sto) (n : Nat) (o : O) (ok : Bool) : Sto := ⟨S.objs.set n o, S.bs, S.esc n ok⟩
theorem Sto.put_len (S : Sto) (n : Nat) (o : O) (ok : Bool) : (S.put n o ok).len = S.len := by simp [Sto.put, Sto.len]
theorem esc_ok {S : Sto} {n : Nat} {ok : Bool} (h : S.esc n ok = false) : S.dirty = false ∧ (ok = false → S.bs.headD 0 ≤ n) := by
  unfold Sto.esc at h
  cases ok with
  | true => exact ⟨h, fun z => (nomatch z)⟩
  | false =>
    obtain ⟨h1, h2⟩ := Bool.or_eq_false_iff.mp h
    refine ⟨h1, fun _ => ?_⟩
    by_cases z : n < S.bs.headD 0
    · rw [show Nat.blt n (S.bs.headD 0) = true from Nat.ble_eq_true_of_le z] at h2; cases h2
    · omega
theorem Ext.put (r : Rel m S H) {n : Nat} {o o0 : O} {ho ho0 : HO} {ok : Bool} (h1 : S.objs[n]? = some o0) (h0 : H (m n) = some ho0) (mu : Mut (some ho0)) (hok : OOk m S.len (upd H (m n) ho) (m n) o) (hb : ok = true → ∀ b, o0.blw b = true → o.blw b = true) :
    Ext m m S (S.put n o ok) H (upd H (m n) ho) := by
  have hn : n < S.len := (List.getElem?_eq_some_iff.mp h1).1
  have kp : Keep H (upd H (m n) ho) := ⟨fun a xs e => by
      rw [upd_ne]
      · exact e
      · rintro rfl; rw [h0] at e; cases e; exact mu, fun a o' u e => by
      rw [upd_ne]
      · exact e
      · rintro rfl; rw [h0] at e; cases e; exact mu⟩
  refine ⟨by rw [Sto.put_len]; exact Nat.le_refl _, fun _ _ => rfl, kp, rfl, ⟨fun i o' e => ?_, fun i j hi hj e => ?_, fun hd b hbs i o' hi e => ?_, r.top, fun b hb => by rw [Sto.put_len]; exact r.lens b hb⟩, fun a o' e hn' => by rw [upd_ne (Ne.symm (hn' n hn))]; exact e, fun i h1 h2 => absurd h2 (by rw [Sto.put_len]; exact Nat.not_lt_of_le h1)⟩
  · rw [Sto.put_len]
    by_cases h : i = n
    · subst h
      have e' : o = o' := by
        have : (S.objs.set i o)[i]? = some o' := e
        rw [List.getElem?_set_self hn] at this
        exact Option.some.inj this
      subst e'
      exact hok
    · have e' : S.objs[i]? = some o' := by
        have : (S.objs.set n o)[i]? = some o' := e
        rw [List.getElem?_set_ne (Ne.symm h)] at this
        exact this
      have hi : i < S.len := (List.getElem?_eq_some_iff.mp e').1
      exact (r.obj i o' e').mono' (Nat.le_refl _) (fun _ _ => rfl) kp (upd_ne fun z => h (r.inj i n hi hn z))
  · rw [Sto.put_len] at hi hj; exact r.inj i j hi hj e
  · obtain ⟨d1, d2⟩ := esc_ok hd
    by_cases h : i = n
    · subst h
      have e' : o = o' := by
        have : (S.objs.set i o)[i]? = some o' := e
        rw [List.getElem?_set_self hn] at this
        exact Option.some.inj this
      subst e'
      cases ok with
      | true => exact hb rfl b (r.low d1 b hbs i o0 hi h1)
      | false => exact absurd (Nat.lt_of_lt_of_le hi (r.top b hbs)) (Nat.not_lt_of_le (d2 rfl))
    · have e' : S.objs[i]? = some o' := by
        have : (S.objs.set n o)[i]? = some o' := e
        rw [List.getElem?_set_ne (Ne.symm h)] at this
        exact this
      exact r.low d1 b hbs i o' hi e'
end

/-! ### readings -/
inductive Res (α : Type) where
  | ok (a : α) (S : Sto)
  | bad
abbrev En := List (Option D)
structure REnv (m : Nat → Addr) (k : Nat) (H : Hp) (ρ : En) (σ : L2.St) : Prop where
  len : ρ.length = σ.length
  get : ∀ (i : Nat) d, ρ[i]? = some (some d) → ∃ v, σ[i]? = some (some v) ∧ RD m k H d v
theorem REnv.ext {m m' : Nat → Addr} {S S' : Sto} {H H' : Hp} {ρ : En} {σ : L2.St} (h : REnv m S.len H ρ σ) (e : Ext m m' S S' H H') : REnv m' S'.len H' ρ σ := ⟨h.len, fun i d q => by
  obtain ⟨v, h1, h2⟩ := h.get i d q
  exact ⟨v, h1, h2.ext e⟩⟩
abbrev Ev := En → Sto → Res D
abbrev EvA := En → Sto → Res (List D)
def rdE (f : Ev) : TE := fun σ H Q => ∃ m S ρ d S', Rel m S H ∧ REnv m S.len H ρ σ ∧ f ρ S = .ok d S' ∧ ∀ m' H' v, Ext m m' S S' H H' → RD m' S'.len H' d v → Q v H'
def rdT (f : Ev) : TT := fun σ H Q => ∃ m S ρ b S', Rel m S H ∧ REnv m S.len H ρ σ ∧ f ρ S = .ok (.bl b) S' ∧ ∀ m' H', Ext m m' S S' H H' → Q b H'
def rdA (f : EvA) : TA := fun σ H Q => ∃ m S ρ d S', Rel m S H ∧ REnv m S.len H ρ σ ∧ f ρ S = .ok d S' ∧ ∀ m' H' v, Ext m m' S S' H H' → RDs m' S'.len H' d v → Q v H'
/-- an operation upon values -/
def rd1 (g : D → Sto → Res D) : V → Hp → VK → Prop := fun x H Q => ∃ m S d1 d S', Rel m S H ∧ RD m S.len H d1 x ∧ g d1 S = .ok d S' ∧ ∀ m' H' v, Ext m m' S S' H H' → RD m' S'.len H' d v → Q v H'
def rd2 (g : D → D → Sto → Res D) : R2 := fun x y H Q => ∃ m S d1 d2 d S', Rel m S H ∧ RD m S.len H d1 x ∧ RD m S.len H d2 y ∧ g d1 d2 S = .ok d S' ∧ ∀ m' H' v, Ext m m' S S' H H' → RD m' S'.len H' d v → Q v H'
def rdN (g : List D → Sto → Res D) : List V → Hp → VK → Prop := fun xs H Q => ∃ m S ds d S', Rel m S H ∧ RDs m S.len H ds xs ∧ g ds S = .ok d S' ∧ ∀ m' H' v, Ext m m' S S' H H' → RD m' S'.len H' d v → Q v H'

section
variable {X : Cx} {e a b : Expr} {t t' : TE} {f g : Ev}
theorem PE.of (h : PE X e t) (i : ∀ σ H Q, t' σ H Q → t σ H Q) : PE X e t' := ⟨fun pins s σ H Q I q => h.run pins s σ H Q I (i σ H Q q)⟩
theorem PT.of {t t' : TT} (h : PT X e t) (i : ∀ σ H Q, t' σ H Q → t σ H Q) : PT X e t' := ⟨fun pins s σ H Q I q => h.run pins s σ H Q I (i σ H Q q)⟩
theorem PW.of {t t' : TT} (h : PW X e t) (i : ∀ σ H Q, t' σ H Q → t σ H Q) : PW X e t' := ⟨fun wh pins s σ H Q I q => h.run wh pins s σ H Q I (i σ H Q q)⟩
theorem PA.of {es : List Expr} {t t' : TA} (h : PA X es t) (i : ∀ σ H Q, t' σ H Q → t σ H Q) : PA X es t' := ⟨fun pos pins s σ H Q I q => h.run pos pins s σ H Q I (i σ H Q q)⟩
theorem OpR.of {fn : Value → Value → Sem Value} {r r' : R2} (h : OpR X fn r) (i : ∀ x y H Q, r' x y H Q → r x y H Q) : OpR X fn r' := fun pins s σ H x y v u Q I rx ry q => h pins s σ H x y v u Q I rx ry (i x y H Q q)
theorem CallR.of {fn : Value} {r r' : List V → Hp → VK → Prop} (h : CallR X fn r) (i : ∀ x H Q, r' x H Q → r x H Q) : CallR X fn r' := fun pins s σ H x v Q I rx q => h pins s σ H x v Q I rx (i x H Q q)

/-! ### the evaluator's joints -/
def ev2 (g : D → D → Sto → Res D) (fa fb : Ev) : Ev := fun ρ S => match fa ρ S with
  | .ok x S1 => match fb ρ S1 with
    | .ok y S2 => g x y S2
    | .bad => .bad
  | .bad => .bad
def ev1 (g : D → Sto → Res D) (fa : Ev) : Ev := fun ρ S => match fa ρ S with
  | .ok x S1 => g x S1
  | .bad => .bad
theorem ev2_ok {gg : D → D → Sto → Res D} {fa fb : Ev} {ρ : En} {S S' : Sto} {d : D} (h : ev2 gg fa fb ρ S = .ok d S') : ∃ x S1 y S2, fa ρ S = .ok x S1 ∧ fb ρ S1 = .ok y S2 ∧ gg x y S2 = .ok d S' := by
  unfold ev2 at h
  cases h1 : fa ρ S with
  | bad => rw [h1] at h; cases h
  | ok x S1 =>
    rw [h1] at h
    dsimp only at h
    cases h2 : fb ρ S1 with
    | bad => rw [h2] at h; cases h
    | ok y S2 => rw [h2] at h; exact ⟨x, S1, y, S2, rfl, h2, h⟩
theorem ev1_ok {gg : D → Sto → Res D} {fa : Ev} {ρ : En} {S S' : Sto} {d : D} (h : ev1 gg fa ρ S = .ok d S') : ∃ x S1, fa ρ S = .ok x S1 ∧ gg x S1 = .ok d S' := by
  unfold ev1 at h
  cases h1 : fa ρ S with
  | bad => rw [h1] at h; cases h
  | ok x S1 => rw [h1] at h; exact ⟨x, S1, rfl, h⟩
/-- two readings in a row, then an operation -/
theorem rd2_seq {gg : D → D → Sto → Res D} {fa fb : Ev} {σ : L2.St} {H : Hp} {Q : VK} (h : rdE (ev2 gg fa fb) σ H Q) : rdE fa σ H fun x H1 => rdE fb σ H1 fun y H2 => rd2 gg x y H2 Q := by
  obtain ⟨m, S, ρ, d, S', R, E, e, q⟩ := h
  obtain ⟨x, S1, y, S2, h1, h2, h3⟩ := ev2_ok e
  exact ⟨m, S, ρ, x, S1, R, E, h1, fun m1 H1 v1 X1 r1 => ⟨m1, S1, ρ, y, S2, X1.rel, E.ext X1, h2, fun m2 H2 v2 X2 r2 => ⟨m2, S2, x, y, d, S', X2.rel, r1.ext X2, r2, h3, fun m3 H3 v3 X3 r3 => q m3 H3 v3 (X1.trans (X2.trans X3)) r3⟩⟩⟩
theorem rd1_seq {gg : D → Sto → Res D} {fa : Ev} {σ : L2.St} {H : Hp} {Q : VK} (h : rdE (ev1 gg fa) σ H Q) : rdE fa σ H fun x H1 => rd1 gg x H1 Q := by
  obtain ⟨m, S, ρ, d, S', R, E, e, q⟩ := h
  obtain ⟨x, S1, h1, h3⟩ := ev1_ok e
  exact ⟨m, S, ρ, x, S1, R, E, h1, fun m1 H1 v1 X1 r1 => ⟨m1, S1, x, d, S', X1.rel, r1, h3, fun m3 H3 v3 X3 r3 => q m3 H3 v3 (X1.trans X3) r3⟩⟩
theorem pev_bin {op : Operator} {pos : Pos} {gg : D → D → Sto → Res D} {fa fb : Ev} (ho : OpR X (binaryOp op) (rd2 gg)) (ha : PE X a (rdE fa)) (hb : PE X b (rdE fb)) : PE X (.BinOp a op b pos) (rdE (ev2 gg fa fb)) :=
  PE.of (pe_op ho ha hb) fun _ _ _ h => rd2_seq h
theorem pev_cmp {op : CmpOp} {pos : Pos} {gg : D → D → Sto → Res D} {fa fb : Ev} (ho : OpR X (compareOp op) (rd2 gg)) (ha : PE X a (rdE fa)) (hb : PE X b (rdE fb)) (hm : behindInMarks op b = false) : PE X (.Compare a [op] [b] pos) (rdE (ev2 gg fa fb)) :=
  PE.of (pe_cmpR ho ha hb hm) fun _ _ _ h => rd2_seq h
theorem rdT_of {f : Ev} {σ : L2.St} {H : Hp} {Q : Bool → Hp → Prop} (h : rdT f σ H Q) : rdE f σ H fun x H1 => ∃ c, x = .bl c ∧ Q c H1 := by
  obtain ⟨m, S, ρ, b, S', R, E, e, q⟩ := h
  exact ⟨m, S, ρ, _, S', R, E, e, fun m1 H1 v1 X1 r1 => ⟨b, r1, q m1 H1 X1⟩⟩
theorem ptv_cmp {op : CmpOp} {pos : Pos} {gg : D → D → Sto → Res D} {fa fb : Ev} (ho : OpR X (compareOp op) (rd2 gg)) (ha : PE X a (rdE fa)) (hb : PE X b (rdE fb)) (hm : behindInMarks op b = false) : PT X (.Compare a [op] [b] pos) (rdT (ev2 gg fa fb)) :=
  PT.of (pt_cmpR ho ha hb hm) fun _ _ _ h => rd2_seq (rdT_of h)
theorem ptv_val {f : Ev} (h : PE X e (rdE f)) (he : ∀ whole, isTrue e X.env whole = (do let v ← whole; standAt e.pos; holding [v] (truthy v))) : PT X e (rdT f) :=
  PT.of (pt_val h he) fun _ _ _ h => rdT_of h

/-! ### constants, names -/
def evC (d : D) : Ev := fun _ S => .ok d S
def evV (i : Nat) : Ev := fun ρ S => match ρ[i]? with
  | some (some d) => .ok d S
  | _ => .bad
theorem rdC {d : D} {σ : L2.St} {H : Hp} {Q : VK} {v : V} (h : rdE (evC d) σ H Q) (hv : ∀ m k H, RD m k H d v) : Q v H := by
  obtain ⟨m, S, ρ, d', S', R, E, e, q⟩ := h
  cases e
  exact q m H v (Ext.refl R) (hv _ _ _)
theorem pev_int {i : Int} {j : Nat} {pos : Pos} : PE X (.Constant (.int i) j pos) (rdE (evC (.int i))) := PE.of pe_int fun _ _ _ h => rdC h fun _ _ _ => rfl
theorem pev_bl {i : Bool} {j : Nat} {pos : Pos} : PE X (.Constant (.bool i) j pos) (rdE (evC (.bl i))) := PE.of pe_bl fun _ _ _ h => rdC h fun _ _ _ => rfl
theorem pev_non {j : Nat} {pos : Pos} : PE X (.Constant .none j pos) (rdE (evC .non)) := PE.of pe_non fun _ _ _ h => rdC h fun _ _ _ => rfl
theorem pev_str {x : Str} {j : Nat} {pos : Pos} : PE X (.Constant (.str x) j pos) (rdE (evC (.str x))) := PE.of pe_str fun _ _ _ h => rdC h fun _ _ _ => rfl
theorem pev_var {i : Nat} {x : Str} {pos : Pos} (hN : X.N[i]? = some x) (hv : Vis X.env.scope x) (hd : (x == ("__debug__" : Str)) = false) (hcd : (x == ("__classdict__" : Str)) = false) : PE X (.Name x pos) (rdE (evV i)) :=
  PE.of (pe_var hN hv hd hcd) fun σ H Q h => by
    obtain ⟨m, S, ρ, d, S', R, E, e, q⟩ := h
    unfold evV at e
    split at e
    · rename_i d' hd'
      cases e
      obtain ⟨v, h1, h2⟩ := E.get i d hd'
      exact ⟨v, h1, q m H v (Ext.refl R) h2⟩
    · cases e
theorem pev_glob {x : Str} {d : D} {v : V} {u : Value} {pos : Pos} (hg : Gl X x) (hm : X.mg x = some u) (r : RelV v u) (hv : ∀ m k H, RD m k H d v) (hd : (x == ("__debug__" : Str)) = false) : PE X (.Name x pos) (rdE (evC d)) :=
  PE.of (pe_glob hg hm r hd) fun _ _ _ h => rdC h hv
end
end Sw

/-! Eng2: operations upon values. -/
namespace Sw
open PySem PySem.Spec PyProof.Rows L2

def Sto.list? (S : Sto) (n : Nat) : Option (List D) := match S.objs[n]? with
  | some (.lst xs) => some xs
  | some (.frz xs) => some xs
  | _ => none
section
variable {m : Nat → Addr} {S : Sto} {H : Hp}
theorem RDs.length {k : Nat} : ∀ {ds : List D} {vs : List V}, RDs m k H ds vs → ds.length = vs.length
  | [], vs, h => by rw [show vs = [] from h]; rfl
  | d :: ds, vs, h => by
    obtain ⟨v, r, rfl, _, h3⟩ := h
    simp [h3.length]
theorem RDs.append {k : Nat} : ∀ {ds es : List D} {vs ws : List V}, RDs m k H ds vs → RDs m k H es ws → RDs m k H (ds ++ es) (vs ++ ws)
  | [], es, vs, ws, h, h' => by rw [show vs = [] from h]; exact h'
  | d :: ds, es, vs, ws, h, h' => by
    obtain ⟨v, r, rfl, h2, h3⟩ := h
    exact ⟨v, r ++ ws, rfl, h2, h3.append h'⟩
theorem RDs.one {k : Nat} {d : D} {v : V} (h : RD m k H d v) : RDs m k H [d] [v] := ⟨v, [], rfl, h, rfl⟩
theorem RDs.get {k : Nat} : ∀ {ds : List D} {vs : List V} {i : Nat} {d : D}, RDs m k H ds vs → ds[i]? = some d → ∃ v, vs[i]? = some v ∧ RD m k H d v
  | [], _, _, _, _, e => by simp at e
  | d :: ds, vs, 0, x, h, e => by
    obtain ⟨v, r, rfl, h2, h3⟩ := h
    simp at e
    subst e
    exact ⟨v, rfl, h2⟩
  | d :: ds, vs, i + 1, x, h, e => by
    obtain ⟨v, r, rfl, h2, h3⟩ := h
    simp at e
    obtain ⟨w, h4, h5⟩ := RDs.get h3 e
    exact ⟨w, by simpa using h4, h5⟩
theorem RDs.take {k : Nat} : ∀ {ds : List D} {vs : List V} (n : Nat), RDs m k H ds vs → RDs m k H (ds.take n) (vs.take n)
  | [], vs, n, h => by rw [show vs = [] from h]; simp [RDs]
  | d :: ds, vs, 0, h => by simp [RDs]
  | d :: ds, vs, n + 1, h => by
    obtain ⟨v, r, rfl, h2, h3⟩ := h
    exact ⟨v, r.take n, rfl, h2, h3.take n⟩
theorem RDs.drop {k : Nat} : ∀ {ds : List D} {vs : List V} (n : Nat), RDs m k H ds vs → RDs m k H (ds.drop n) (vs.drop n)
  | [], vs, n, h => by rw [show vs = [] from h]; simp [RDs]
  | d :: ds, vs, 0, h => h
  | d :: ds, vs, n + 1, h => by
    obtain ⟨v, r, rfl, h2, h3⟩ := h
    exact h3.drop n
theorem RDs.reverse {k : Nat} : ∀ {ds : List D} {vs : List V}, RDs m k H ds vs → RDs m k H ds.reverse vs.reverse
  | [], vs, h => by rw [show vs = [] from h]; rfl
  | d :: ds, vs, h => by
    obtain ⟨v, r, rfl, h2, h3⟩ := h
    simp only [List.reverse_cons]
    exact h3.reverse.append (.one h2)
/-- a list that is read -/
theorem Rel.sqL {K : Frg} (r : Rel m S H) {n : Nat} {xs : List D} (h : S.list? n = some xs) : ∃ vs, SqL K H (m n) vs ∧ RDs m S.len H xs vs ∧ (H (m n) = some (.lst vs) ∨ ∃ o, H (m n) = some (.frz o (.lst vs))) := by
  unfold Sto.list? at h
  cases e : S.objs[n]? with
  | none => rw [e] at h; cases h
  | some o =>
    rw [e] at h
    have q := r.obj n o e
    cases o with
    | lst ys => cases h; obtain ⟨vs, h1, h2⟩ := q; exact ⟨vs, .inl (.inl h1), h2, .inl h1⟩
    | frz ys => cases h; obtain ⟨vs, o, h1, h2⟩ := q; exact ⟨vs, .inl (.inr ⟨o, h1⟩), h2, .inr ⟨o, h1⟩⟩
    | dct kvs => cases h
    | dctT kvs => cases h
    | set xs => cases h
/-- a new tuple -/
theorem Ext.tup (r : Rel m S H) {p : Addr} {o : HO} (hp : H p = none) : Ext m m S S H (upd H p o) := by
  have kp : Keep H (upd H p o) := Keep.new hp
  have ne : ∀ n, n < S.len → m n ≠ p := fun n h e => by obtain ⟨u, q⟩ := r.live h; rw [e, hp] at q; cases q
  exact ⟨Nat.le_refl _, fun _ _ => rfl, kp, rfl, ⟨fun n o' e => (r.obj n o' e).mono' (Nat.le_refl _) (fun _ _ => rfl) kp (upd_ne (ne n (List.getElem?_eq_some_iff.mp e).1)), r.inj, r.low, r.top, r.lens⟩, fun a o' e _ => (by
    rw [upd_ne]
    · exact e
    · intro z; rw [z, hp] at e; cases e), fun n h1 h2 => absurd h2 (Nat.not_lt_of_le h1)⟩
theorem RD.newTup (r : Rel m S H) {p : Addr} {ds : List D} {vs : List V} (hp : H p = none) (h : RDs m S.len H ds vs) : RD m S.len (upd H p (.tup vs)) (.tup ds) (.ref p) :=
  ⟨p, vs, rfl, upd_same, RDs.mono' (Nat.le_refl _) (fun _ _ => rfl) (Keep.new hp) _ _ h⟩
/-- what follows a new tuple -/
theorem goTup {Q : VK} (r : Rel m S H) {ds : List D} {vs : List V} (h : RDs m S.len H ds vs) (q : ∀ m' H' v, Ext m m' S S H H' → RD m' S.len H' (.tup ds) v → Q v H') : ∀ p, H p = none → Q (.ref p) (upd H p (.tup vs)) :=
  fun p hp => q m _ _ (Ext.tup r hp) (RD.newTup r hp h)
/-- what follows a new list -/
theorem goLst {Q : VK} (r : Rel m S H) {ds : List D} {vs : List V} (h : RDs m S.len H ds vs) (q : ∀ m' H' v, Ext m m' S (S.add (.lst ds)) H H' → RD m' (S.add (.lst ds)).len H' (.ref S.len) v → Q v H') : ∀ p, H p = none → Q (.ref p) (upd H p (.lst vs)) :=
  fun p hp => q (withAt m S.len p) _ _ (Ext.add r hp ⟨vs, upd_same, RDs.mono' (Nat.le_refl _) (fun _ _ => rfl) (Keep.new hp) _ _ h⟩) ⟨by rw [Sto.add_len]; exact Nat.lt_succ_self _, by rw [withAt_same]⟩
end

def fits (n : Nat) : Bool := Nat.ble n 16777216
theorem fits_le {n : Nat} (h : fits n = true) : n ≤ sizeLine := Nat.le_of_ble_eq_true h
def small (i : Int) : Bool := decide (-18446744073709551616 < i) && decide (i < 18446744073709551616)

/-! ### arithmetic -/
def newL (S : Sto) (xs : List D) : Res D := .ok (.ref S.len) (S.add (.lst xs))
def addD : D → D → Sto → Res D
  | .int i, .int j, S => .ok (.int (i + j)) S
  | .str a, .str b, S => match fits (a.length + b.length) with
    | true => .ok (.str (a ++ b)) S
    | false => .bad
  | .tup xs, .tup ys, S => match fits (xs.length + ys.length) with
    | true => .ok (.tup (xs ++ ys)) S
    | false => .bad
  | .ref n, .ref k, S => match S.objs[n]?, S.objs[k]? with
    | some (.lst xs), some (.lst ys) => match fits (xs.length + ys.length) with
      | true => newL S (xs ++ ys)
      | false => .bad
    | _, _ => .bad
  | _, _, _ => .bad
def subD : D → D → Sto → Res D
  | .int i, .int j, S => .ok (.int (i - j)) S
  | _, _, _ => .bad
def mulD : D → D → Sto → Res D
  | .int i, .int j, S => match small i || small j with
    | true => .ok (.int (i * j)) S
    | false => .bad
  | _, _, _ => .bad
def fdivD : D → D → Sto → Res D
  | .int i, .int j, S => match decide (0 < j) && decide (j < 1073741824) with
    | true => .ok (.int (i / j)) S
    | false => .bad
  | _, _, _ => .bad
def modD : D → D → Sto → Res D
  | .int i, .int j, S => match decide (0 < j) with
    | true => .ok (.int (i % j)) S
    | false => .bad
  | _, _, _ => .bad
section
variable {X : Cx}
/-- an operation that leaves the store -/
theorem rdPure {m : Nat → Addr} {S : Sto} {H : Hp} {d : D} {v : V} {Q : VK} (R : Rel m S H) (q : ∀ m' H' v, Ext m m' S S H H' → RD m' S.len H' d v → Q v H') (r : RD m S.len H d v) : Q v H := q m H v (Ext.refl R) r
theorem opv_sub : OpR X (binaryOp .Sub) (rd2 subD) := OpR.of op_sub fun x y H Q h => by
  obtain ⟨m, S, d1, d2, d, S', R, r1, r2, e, q⟩ := h
  unfold subD at e
  split at e
  · cases e; exact ⟨_, _, r1, r2, rdPure R q rfl⟩
  · cases e
theorem small_ok {i : Int} (h : small i = true) : -(2 ^ 64) < i ∧ i < 2 ^ 64 := by
  unfold small at h
  simp only [Bool.and_eq_true, decide_eq_true_eq] at h
  constructor
  · have : (-(2 ^ 64) : Int) = -18446744073709551616 := by decide
    omega
  · have : ((2 ^ 64) : Int) = 18446744073709551616 := by decide
    omega
theorem opv_mul : OpR X (binaryOp .Mult) (rd2 mulD) := OpR.of op_mul fun x y H Q h => by
  obtain ⟨m, S, d1, d2, d, S', R, r1, r2, e, q⟩ := h
  unfold mulD at e
  split at e
  · split at e
    · rename_i hs
      cases e
      refine ⟨_, _, r1, r2, ?_, rdPure R q rfl⟩
      rcases Bool.or_eq_true_iff.mp hs with z | z
      · exact .inl (small_ok z)
      · exact .inr (small_ok z)
    · cases e
  · cases e
theorem opv_fdiv : OpR X (binaryOp .FloorDiv) (rd2 fdivD) := OpR.of op_fdiv fun x y H Q h => by
  obtain ⟨m, S, d1, d2, d, S', R, r1, r2, e, q⟩ := h
  unfold fdivD at e
  split at e
  · split at e
    · rename_i hs
      cases e
      simp only [Bool.and_eq_true, decide_eq_true_eq] at hs
      exact ⟨_, _, r1, r2, hs, rdPure R q rfl⟩
    · cases e
  · cases e
theorem opv_mod : OpR X (binaryOp .Mod) (rd2 modD) := OpR.of op_mod fun x y H Q h => by
  obtain ⟨m, S, d1, d2, d, S', R, r1, r2, e, q⟩ := h
  unfold modD at e
  split at e
  · split at e
    · rename_i hs
      cases e
      simp only [decide_eq_true_eq] at hs
      exact ⟨_, _, r1, r2, hs, rdPure R q rfl⟩
    · cases e
  · cases e
theorem opv_add : OpR X (binaryOp .Add) (rd2 addD) := OpR.of (OpR.or op_add (OpR.or op_add_str (OpR.or op_catA op_cat))) fun x y H Q h => by
  obtain ⟨m, S, d1, d2, d, S', R, r1, r2, e, q⟩ := h
  unfold addD at e
  split at e
  · cases e; exact .inl ⟨_, _, r1, r2, rdPure R q rfl⟩
  · split at e
    · rename_i hs
      cases e
      exact .inr (.inl ⟨_, _, r1, r2, fits_le hs, rdPure R q rfl⟩)
    · cases e
  · split at e
    · rename_i xs ys S hs
      cases e
      obtain ⟨a, vs, e1, s1, q1⟩ := r1
      obtain ⟨b, ws, e2, s2, q2⟩ := r2
      refine .inr (.inr (.inl ⟨a, b, vs, ws, e1, e2, .of s1, .of s2, ?_, fun z => ?_, fun z z' => ?_, fun z z' => ?_⟩))
      · rw [← q1.length, ← q2.length]; exact fits_le hs
      · subst z
        have : xs = [] := List.eq_nil_of_length_eq_zero (by rw [q1.length]; rfl)
        subst this
        exact rdPure R q ⟨b, ws, rfl, s2, q2⟩
      · subst z'
        have : ys = [] := List.eq_nil_of_length_eq_zero (by rw [q2.length]; rfl)
        subst this
        exact rdPure R q ⟨a, vs, rfl, s1, by rw [List.append_nil]; exact q1⟩
      · exact goTup R (q1.append q2) q
    · cases e
  · rename_i n k S
    split at e
    · rename_i xs ys h1 h2
      split at e
      · rename_i hs
        cases e
        obtain ⟨vs, a1, q1⟩ := R.obj _ _ h1
        obtain ⟨ws, a2, q2⟩ := R.obj _ _ h2
        refine .inr (.inr (.inr ⟨_, _, vs, ws, r1.2, r2.2, a1, a2, ?_, goLst R (q1.append q2) q⟩))
        rw [← q1.length, ← q2.length]; exact fits_le hs
      · cases e
    · cases e
  · cases e

/-! ### comparisons -/
def ltI (p : Int → Int → Bool) : D → D → Sto → Res D
  | .int i, .int j, S => .ok (.bl (p i j)) S
  | _, _, _ => .bad
theorem opv_cmpI {op : CmpOp} {p : Int → Int → Bool} (h : OpR X (compareOp op) (rI0 fun i j => .bl (p i j))) : OpR X (compareOp op) (rd2 (ltI p)) := OpR.of h fun x y H Q h => by
  obtain ⟨m, S, d1, d2, d, S', R, r1, r2, e, q⟩ := h
  unfold ltI at e
  split at e
  · cases e; exact ⟨_, _, r1, r2, rdPure R q rfl⟩
  · cases e

mutual
def resW (r : Nat → Option PyData) : D → Option PyData
  | .non => some .none
  | .bl b => some (.bool b)
  | .int i => some (.int i)
  | .str x => some (.str x)
  | .tup xs => match resWs r xs with
    | some ds => some (.tuple ds)
    | none => none
  | .ref n => r n
def resWs (r : Nat → Option PyData) : List D → Option (List PyData)
  | [] => some []
  | x :: xs => match resW r x with
    | some d => match resWs r xs with
      | some ds => some (d :: ds)
      | none => none
    | none => none
end
def resR (S : Sto) : Nat → Nat → Option PyData
  | 0, _ => none
  | k + 1, n => match S.list? n with
    | some xs => match resWs (resR S k) xs with
      | some ds => some (.list ds)
      | none => none
    | none => none
def res (S : Sto) (d : D) : Option PyData := resW (resR S 6) d
section
variable {K : Frg} {m : Nat → Addr} {S : Sto} {H : Hp}
mutual
theorem resW_dp {r : Nat → Option PyData} (hr : ∀ n p, r n = some p → n < S.len → Dp K H (.ref (m n)) p ∧ p.plain = true) : ∀ (d : D) (v : V) (p : PyData), RD m S.len H d v → resW r d = some p → Dp K H v p ∧ p.plain = true
  | .non, v, p, h, e => by simp only [resW] at e; cases e; rw [show v = _ from h]; exact ⟨.non, rfl⟩
  | .bl b, v, p, h, e => by simp only [resW] at e; cases e; rw [show v = _ from h]; exact ⟨.bl _, rfl⟩
  | .int b, v, p, h, e => by simp only [resW] at e; cases e; rw [show v = _ from h]; exact ⟨.int _, rfl⟩
  | .str b, v, p, h, e => by simp only [resW] at e; cases e; rw [show v = _ from h]; exact ⟨.str _, rfl⟩
  | .tup xs, v, p, h, e => by
    simp only [resW] at e
    obtain ⟨a, vs, rfl, s, q⟩ := h
    cases e1 : resWs r xs with
    | none => rw [e1] at e; cases e
    | some ds =>
      rw [e1] at e
      cases e
      obtain ⟨h1, h2⟩ := resWs_dp hr xs vs ds q e1
      exact ⟨.tup (.of s) h1, by simp only [PyData.plain]; exact h2⟩
  | .ref n, v, p, h, e => by
    simp only [resW] at e
    rw [h.2]
    exact hr n p e h.1
theorem resWs_dp {r : Nat → Option PyData} (hr : ∀ n p, r n = some p → n < S.len → Dp K H (.ref (m n)) p ∧ p.plain = true) : ∀ (ds : List D) (vs : List V) (ps : List PyData), RDs m S.len H ds vs → resWs r ds = some ps → DpAll K H vs ps ∧ PyData.plainAll ps = true
  | [], vs, ps, h, e => by simp only [resWs] at e; cases e; rw [show vs = [] from h]; exact ⟨.nil, rfl⟩
  | d :: ds, vs, ps, h, e => by
    simp only [resWs] at e
    obtain ⟨v, r', rfl, h2, h3⟩ := h
    cases e1 : resW r d with
    | none => rw [e1] at e; cases e
    | some p =>
      rw [e1] at e
      dsimp only at e
      cases e2 : resWs r ds with
      | none => rw [e2] at e; cases e
      | some qs =>
        rw [e2] at e
        cases e
        obtain ⟨a1, a2⟩ := resW_dp hr d v p h2 e1
        obtain ⟨b1, b2⟩ := resWs_dp hr ds r' qs h3 e2
        exact ⟨.cons a1 b1, by simp only [PyData.plainAll, a2, b2, Bool.and_self]⟩
end
theorem resR_dp (R : Rel m S H) : ∀ (k n : Nat) (p : PyData), resR S k n = some p → n < S.len → Dp K H (.ref (m n)) p ∧ p.plain = true
  | 0, _, _, h, _ => by simp only [resR] at h; cases h
  | k + 1, n, p, h, hn => by
    simp only [resR] at h
    cases e : S.list? n with
    | none => rw [e] at h; cases h
    | some xs =>
      rw [e] at h
      dsimp only at h
      obtain ⟨vs, h1, h2, _⟩ := R.sqL e
      cases e1 : resWs (resR S k) xs with
      | none => rw [e1] at h; cases h
      | some ds =>
        rw [e1] at h
        cases h
        obtain ⟨a1, a2⟩ := resWs_dp (fun n p => resR_dp R k n p) xs vs ds h2 e1
        exact ⟨.lst h1 a1, by simp only [PyData.plain]; exact a2⟩
theorem res_dp (R : Rel m S H) {d : D} {v : V} {p : PyData} (h : RD m S.len H d v) (e : res S d = some p) : Dp K H v p ∧ p.plain = true := resW_dp (fun n p => resR_dp R 6 n p) d v p h e
end
theorem dec_beq {α : Type} [DecidableEq α] (a b : α) : decide (a = b) = (a == b) := by by_cases h : a = b <;> simp [h]
/-- == upon data -/
def eqv? (S : Sto) (x y : D) : Option Bool := match x, y with
  | .int i, .int j => some (decide (i = j))
  | .non, .int _ => some false
  | .int _, .non => some false
  | .non, .non => some true
  | .str a, .str b => some (decide (a = b))
  | x, y => match res S x with
    | some p => match res S y with
      | some q => match Nat.ble p.depth 60 with
        | true => some (PyData.eqv p q)
        | false => none
      | none => none
    | none => none
def eqD (x y : D) (S : Sto) : Res D := match eqv? S x y with
  | some b => .ok (.bl b) S
  | none => .bad
def neD (x y : D) (S : Sto) : Res D := match eqv? S x y with
  | some b => .ok (.bl (!b)) S
  | none => .bad
theorem eqv_wit {pins : List (Addr × Obj)} {s : Shared} {σ : L2.St} {m : Nat → Addr} {S : Sto} {H : Hp} (I : Inv X pins σ H s) (R : Rel m S H) {x y : D} {xv yv : V} {u w : Value} {b : Bool} (hx : RD m S.len H x xv) (hy : RD m S.len H y yv) (rx : RelV xv u) (ry : RelV yv w) (e : eqv? S x y = some b) :
    ∃ p q as bs, Reads s.heap u p as ∧ Reads s.heap w q bs ∧ p.plain = true ∧ q.plain = true ∧ p.depth ≤ 60 ∧ b = PyData.eqv p q := by
  unfold eqv? at e
  split at e
  · cases e
    rw [show xv = _ from hx] at rx; rw [show yv = _ from hy] at ry
    obtain ⟨t, rfl⟩ := rx; obtain ⟨t', rfl⟩ := ry
    exact ⟨_, _, _, _, .int _ _, .int _ _, rfl, rfl, by simp [PyData.depth], by simp only [PyData.eqv]; try exact dec_beq _ _⟩
  · cases e
    rw [show xv = _ from hx] at rx; rw [show yv = _ from hy] at ry
    cases rx; obtain ⟨t', rfl⟩ := ry
    exact ⟨_, _, _, _, .none, .int _ _, rfl, rfl, by simp [PyData.depth], by simp only [PyData.eqv]; try exact dec_beq _ _⟩
  · cases e
    rw [show xv = _ from hx] at rx; rw [show yv = _ from hy] at ry
    obtain ⟨t, rfl⟩ := rx; cases ry
    exact ⟨_, _, _, _, .int _ _, .none, rfl, rfl, by simp [PyData.depth], by simp only [PyData.eqv]; try exact dec_beq _ _⟩
  · cases e
    rw [show xv = _ from hx] at rx; rw [show yv = _ from hy] at ry
    cases rx; cases ry
    exact ⟨_, _, _, _, .none, .none, rfl, rfl, by simp [PyData.depth], by simp only [PyData.eqv]; try exact dec_beq _ _⟩
  · cases e
    rw [show xv = _ from hx] at rx; rw [show yv = _ from hy] at ry
    obtain ⟨t, rfl⟩ := rx; obtain ⟨t', rfl⟩ := ry
    exact ⟨_, _, _, _, .str _ _, .str _ _, rfl, rfl, by simp [PyData.depth], by simp only [PyData.eqv]; try exact dec_beq _ _⟩
  · split at e
    · rename_i p hp
      split at e
      · rename_i q hq
        split at e
        · rename_i hd
          cases e
          obtain ⟨d1, p1⟩ := res_dp R hx hp
          obtain ⟨d2, p2⟩ := res_dp R hy hq
          obtain ⟨as, r1⟩ := Dp.reads I p xv u d1 rx
          obtain ⟨bs, r2⟩ := Dp.reads I q yv w d2 ry
          exact ⟨p, q, as, bs, r1, r2, p1, p2, Nat.le_of_ble_eq_true hd, rfl⟩
        · cases e
      · cases e
    · cases e
theorem opv_eq (hu : X.A.units + 64 < cLine) : OpR X (compareOp .Eq) (rd2 eqD) := by
  intro pins s σ H x y v u Q I rx ry h
  obtain ⟨m, S, d1, d2, d, S', R, r1, r2, e, q⟩ := h
  unfold eqD at e
  split at e
  · rename_i b hb
    cases e
    obtain ⟨p, q', as, bs, a1, a2, a3, a4, a5, a6⟩ := eqv_wit I R r1 r2 rx ry hb
    refine SeqAt.eq_plain a1 a2 a3 a4 (by have := Nat.min_le_left p.depth q'.depth; omega) ?_
    rw [← a6]
    exact ⟨.bl b, H, I, rfl, rdPure R q rfl⟩
  · cases e
theorem opv_ne (hu : X.A.units + 64 < cLine) : OpR X (compareOp .NotEq) (rd2 neD) := by
  intro pins s σ H x y v u Q I rx ry h
  obtain ⟨m, S, d1, d2, d, S', R, r1, r2, e, q⟩ := h
  unfold neD at e
  split at e
  · rename_i b hb
    cases e
    obtain ⟨p, q', as, bs, a1, a2, a3, a4, a5, a6⟩ := eqv_wit I R r1 r2 rx ry hb
    refine SeqAt.ne_plain a1 a2 a3 a4 (by have := Nat.min_le_left p.depth q'.depth; omega) ?_
    rw [← a6]
    exact ⟨.bl (!b), H, I, rfl, rdPure R q rfl⟩
  · cases e
/-- x is y: None, truths -/
def isD : D → D → Sto → Res D
  | .non, .non, S => .ok (.bl true) S
  | .bl a, .bl b, S => .ok (.bl (decide (a = b))) S
  | .int _, .non, S => .ok (.bl false) S
  | .bl _, .non, S => .ok (.bl false) S
  | .str _, .non, S => .ok (.bl false) S
  | .tup _, .non, S => .ok (.bl false) S
  | .ref _, .non, S => .ok (.bl false) S
  | _, _, _ => .bad
def isNotD (x y : D) (S : Sto) : Res D := match isD x y S with
  | .ok (.bl b) S' => .ok (.bl (!b)) S'
  | _ => .bad
theorem isD_wit {m : Nat → Addr} {S S' : Sto} {H : Hp} {d1 d2 d : D} {x y : V} (r1 : RD m S.len H d1 x) (r2 : RD m S.len H d2 y) (e : isD d1 d2 S = .ok d S') : S' = S ∧ ((y = .non ∧ d = .bl (decide (x = .non))) ∨ ∃ a b, x = .bl a ∧ y = .bl b ∧ d = .bl (decide (a = b))) := by
  unfold isD at e
  split at e
  · cases e; exact ⟨rfl, .inl ⟨r2, by rw [show x = .non from r1]; rfl⟩⟩
  · cases e; exact ⟨rfl, .inr ⟨_, _, r1, r2, rfl⟩⟩
  · cases e; exact ⟨rfl, .inl ⟨r2, by rw [show x = _ from r1]; rfl⟩⟩
  · cases e; exact ⟨rfl, .inl ⟨r2, by rw [show x = _ from r1]; rfl⟩⟩
  · cases e; exact ⟨rfl, .inl ⟨r2, by rw [show x = _ from r1]; rfl⟩⟩
  · cases e; obtain ⟨a, vs, rfl, _⟩ := r1; exact ⟨rfl, .inl ⟨r2, rfl⟩⟩
  · cases e; rw [r1.2]; exact ⟨rfl, .inl ⟨r2, rfl⟩⟩
  · cases e
theorem opv_is : OpR X (compareOp .Is) (rd2 isD) := OpR.of (OpR.or op_isN op_isBl) fun x y H Q h => by
  obtain ⟨m, S, d1, d2, d, S', R, r1, r2, e, q⟩ := h
  obtain ⟨rfl, z | ⟨a, b, z1, z2, z3⟩⟩ := isD_wit r1 r2 e
  · obtain ⟨z1, rfl⟩ := z
    exact .inl ⟨z1, rdPure R q rfl⟩
  · subst z3
    exact .inr ⟨a, b, z1, z2, rdPure R q rfl⟩
theorem opv_isNot : OpR X (compareOp .IsNot) (rd2 isNotD) := OpR.of (OpR.or op_notN op_notBl) fun x y H Q h => by
  obtain ⟨m, S, d1, d2, d, S', R, r1, r2, e, q⟩ := h
  unfold isNotD at e
  split at e
  · rename_i b S2 hb
    cases e
    obtain ⟨rfl, z | ⟨a, b', z1, z2, z3⟩⟩ := isD_wit r1 r2 hb
    · obtain ⟨z1, z2⟩ := z
      cases z2
      exact .inl ⟨z1, rdPure R q rfl⟩
    · cases z3
      exact .inr ⟨a, b', z1, z2, rdPure R q rfl⟩
  · cases e
end
end Sw

/-! Eng3: keys, in, subscripts, slices, len, isinstance. -/
namespace Sw
open PySem PySem.Spec PyProof.Rows L2

/-! ### keys -/
def keyOf : D → Option Key
  | .int i => some (.inl i)
  | .str x => some (.inr x)
  | _ => none
def keysOf : List D → Option (List Key)
  | [] => some []
  | x :: xs => match keyOf x with
    | some k => match keysOf xs with
      | some ks => some (k :: ks)
      | none => none
    | none => none
def tkeyOf : D → Option (List Key)
  | .tup xs => keysOf xs
  | _ => none
theorem keyOf_ok {d : D} {q : Key} (h : keyOf d = some q) : d = kD q := by
  cases d <;> simp [keyOf] at h <;> subst h <;> rfl
theorem keyOf_kD (q : Key) : keyOf (kD q) = some q := by cases q <;> rfl
theorem keysOf_ok : ∀ {ds : List D} {qs : List Key}, keysOf ds = some qs → ds = qs.map kD
  | [], qs, h => by simp only [keysOf] at h; cases h; rfl
  | x :: xs, qs, h => by
    simp only [keysOf] at h
    cases e1 : keyOf x with
    | none => rw [e1] at h; cases h
    | some k =>
      rw [e1] at h
      dsimp only at h
      cases e2 : keysOf xs with
      | none => rw [e2] at h; cases h
      | some ks =>
        rw [e2] at h
        cases h
        rw [keyOf_ok e1, keysOf_ok e2]
        rfl
theorem keysOf_kD : ∀ qs : List Key, keysOf (qs.map kD) = some qs
  | [] => rfl
  | q :: qs => by simp only [List.map_cons, keysOf, keyOf_kD, keysOf_kD qs]
theorem tkeyOf_ok {d : D} {q : List Key} (h : tkeyOf d = some q) : d = kT q := by
  cases d <;> simp only [tkeyOf] at h <;> try cases h
  rw [keysOf_ok h]; rfl
theorem tkeyOf_kT (q : List Key) : tkeyOf (kT q) = some q := keysOf_kD q
/-- look-up by a key -/
def dLook {κ : Type} [DecidableEq κ] (ko : D → Option κ) : List (D × D) → κ → Option D
  | [], _ => none
  | (a, d) :: r, q => match ko a with
    | some q' => match decide (q' = q) with
      | true => some d
      | false => dLook ko r q
    | none => dLook ko r q
def dRep {κ : Type} [DecidableEq κ] (ko : D → Option κ) (q : κ) (v : D) : List (D × D) → List (D × D)
  | [] => []
  | (a, d) :: r => match ko a with
    | some q' => match decide (q' = q) with
      | true => (a, v) :: dRep ko q v r
      | false => (a, d) :: dRep ko q v r
    | none => (a, d) :: dRep ko q v r
def dPut {κ : Type} [DecidableEq κ] (ko : D → Option κ) (kvs : List (D × D)) (q : κ) (kd v : D) : List (D × D) := match dLook ko kvs q with
  | some _ => dRep ko q v kvs
  | none => kvs ++ [(kd, v)]
section
variable {m : Nat → Addr} {S : Sto} {H : Hp} {κ : Type} [DecidableEq κ] {ko : D → Option κ} {kd : κ → D}
theorem dLook_ok {k : Nat} (hk : ∀ q, ko (kd q) = some q) : ∀ {kvs : List (D × D)} {ps : List (κ × V)} {q : κ}, RKv m k H kd kvs ps → (∀ d, dLook ko kvs q = some d → ∃ v, valV ps q = some v ∧ RD m k H d v) ∧ (dLook ko kvs q = none → valV ps q = none)
  | [], ps, q, h => by rw [show ps = [] from h]; exact ⟨fun d e => (by simp [dLook] at e), fun _ => rfl⟩
  | (a, d) :: r, ps, q, h => by
    obtain ⟨q', v, ps', rfl, rfl, h3, h4⟩ := h
    simp only [dLook, hk]
    by_cases e : q' = q
    · subst e
      simp only [decide_true]
      exact ⟨fun d' e' => ⟨v, by simp [valV], by cases e'; exact h3⟩, fun e' => (nomatch e')⟩
    · simp only [decide_eq_false e]
      have ih := dLook_ok hk (q := q) h4
      have ev : valV ((q', v) :: ps') q = valV ps' q := by simp [valV, List.find?_cons, e]
      rw [ev]
      exact ih
theorem RKv.append {k : Nat} : ∀ {kvs ls : List (D × D)} {ps qs : List (κ × V)}, RKv m k H kd kvs ps → RKv m k H kd ls qs → RKv m k H kd (kvs ++ ls) (ps ++ qs)
  | [], ls, ps, qs, h, h' => by rw [show ps = [] from h]; exact h'
  | (a, d) :: r, ls, ps, qs, h, h' => by
    obtain ⟨q', v, ps', rfl, h2, h3, h4⟩ := h
    exact ⟨q', v, ps' ++ qs, rfl, h2, h3, RKv.append h4 h'⟩
theorem RKv.length {k : Nat} : ∀ {kvs : List (D × D)} {ps : List (κ × V)}, RKv m k H kd kvs ps → kvs.length = ps.length
  | [], ps, h => by rw [show ps = [] from h]; rfl
  | (a, d) :: r, ps, h => by
    obtain ⟨q', v, ps', rfl, h2, h3, h4⟩ := h
    simp [RKv.length h4]
theorem dRep_ok {k : Nat} (hk : ∀ q, ko (kd q) = some q) {q : κ} {d : D} {v : V} (hd : RD m k H d v) : ∀ {kvs : List (D × D)} {ps : List (κ × V)}, RKv m k H kd kvs ps → RKv m k H kd (dRep ko q d kvs) (ps.map fun kv => if kv.1 = q then (kv.1, v) else kv)
  | [], ps, h => by rw [show ps = [] from h]; rfl
  | (a, d') :: r, ps, h => by
    obtain ⟨q', v', ps', rfl, rfl, h3, h4⟩ := h
    simp only [dRep, hk]
    by_cases e : q' = q
    · subst e
      simp only [decide_true]
      exact ⟨q', v, _, by simp, rfl, hd, dRep_ok hk hd h4⟩
    · simp only [decide_eq_false e]
      exact ⟨q', v', _, by simp [e], rfl, h3, dRep_ok hk hd h4⟩
theorem dPut_ok {k : Nat} (hk : ∀ q, ko (kd q) = some q) {kvs : List (D × D)} {ps : List (κ × V)} {q : κ} {d : D} {v : V} (h : RKv m k H kd kvs ps) (hd : RD m k H d v) : RKv m k H kd (dPut ko kvs q (kd q) d) (putK ps q v) := by
  obtain ⟨h1, h2⟩ := dLook_ok hk (q := q) h
  unfold dPut putK
  rw [valV_any]
  cases e : dLook ko kvs q with
  | none =>
    rw [h2 e]
    exact RKv.append h ⟨q, v, [], rfl, rfl, hd, rfl⟩
  | some d0 =>
    obtain ⟨v0, e0, _⟩ := h1 d0 e
    rw [e0]
    exact dRep_ok hk hd h
end
theorem RD.kD {m : Nat → Addr} {k : Nat} {H : Hp} {q : Key} {v : V} (h : RD m k H (kD q) v) : v = kV q := by cases q <;> exact h
theorem RDs.kDs {m : Nat → Addr} {k : Nat} {H : Hp} : ∀ {qs : List Key} {vs : List V}, RDs m k H (qs.map Sw.kD) vs → vs = qs.map kV
  | [], vs, h => h
  | q :: qs, vs, h => by
    obtain ⟨v, r, rfl, h2, h3⟩ := h
    rw [RD.kD h2, RDs.kDs h3]
    rfl
theorem RD.kT {m : Nat → Addr} {k : Nat} {H : Hp} {q : List Key} {v : V} (h : RD m k H (kT q) v) : ∃ b, v = .ref b ∧ H b = some (.tup (q.map kV)) := by
  obtain ⟨a, vs, h1, h2, h3⟩ := h
  rw [RDs.kDs h3] at h2
  exact ⟨a, h1, h2⟩
/-- look-up in the dict of a number -/
def Sto.get? (S : Sto) (n : Nat) (x : D) : Option (Option D) := match S.objs[n]? with
  | some (.dct kvs) => match keyOf x with
    | some q => some (dLook keyOf kvs q)
    | none => none
  | some (.dctT kvs) => match tkeyOf x with
    | some q => some (dLook tkeyOf kvs q)
    | none => none
  | _ => none
theorem Rel.get {m : Nat → Addr} {S : Sto} {H : Hp} (R : Rel m S H) {n : Nat} {x : D} {v : V} {o : Option D} (hx : RD m S.len H x v) (h : S.get? n x = some o) :
    (∃ w, DGet H (m n) v w ∧ (∀ d, o = some d → ∃ z, w = some z ∧ RD m S.len H d z) ∧ (o = none → w = none)) := by
  unfold Sto.get? at h
  cases e : S.objs[n]? with
  | none => rw [e] at h; cases h
  | some ob =>
    rw [e] at h
    have q := R.obj n ob e
    cases ob with
    | lst _ => cases h
    | frz _ => cases h
    | set _ => cases h
    | dct kvs =>
      obtain ⟨ps, h1, h2⟩ := q
      dsimp only at h
      cases ek : keyOf x with
      | none => rw [ek] at h; cases h
      | some q =>
        rw [ek] at h
        cases h
        rw [keyOf_ok ek] at hx
        rw [RD.kD hx]
        exact ⟨_, DGet.k h1, fun d e => by obtain ⟨z, z1, z2⟩ := (dLook_ok keyOf_kD h2).1 d e; exact ⟨z, z1, z2⟩, fun e => (dLook_ok keyOf_kD h2).2 e⟩
    | dctT kvs =>
      obtain ⟨ps, h1, h2⟩ := q
      dsimp only at h
      cases ek : tkeyOf x with
      | none => rw [ek] at h; cases h
      | some q =>
        rw [ek] at h
        cases h
        rw [tkeyOf_ok ek] at hx
        obtain ⟨b, rfl, hb⟩ := RD.kT hx
        exact ⟨_, DGet.t h1 hb, fun d e => by obtain ⟨z, z1, z2⟩ := (dLook_ok tkeyOf_kT h2).1 d e; exact ⟨z, z1, z2⟩, fun e => (dLook_ok tkeyOf_kT h2).2 e⟩

/-! ### in -/
def inAny (S : Sto) (x : D) (ys : List D) : Option Bool := match res S x with
  | some p => match resWs (resR S 6) ys with
    | some qs => match Nat.ble p.depth 60 with
      | true => some (qs.any fun y => PyData.eqv y p)
      | false => none
    | none => none
  | none => none
def in? (S : Sto) (x y : D) : Option Bool := match y with
  | .tup ys => inAny S x ys
  | .ref n => match S.list? n with
    | some ys => inAny S x ys
    | none => match S.get? n x with
      | some o => some o.isSome
      | none => none
  | _ => none
def inD (x y : D) (S : Sto) : Res D := match in? S x y with
  | some b => .ok (.bl b) S
  | none => .bad
def notInD (x y : D) (S : Sto) : Res D := match in? S x y with
  | some b => .ok (.bl (!b)) S
  | none => .bad
section
variable {X : Cx}
theorem inAny_ok {S : Sto} {x : D} {ys : List D} {b : Bool} (h : inAny S x ys = some b) : ∃ p qs, res S x = some p ∧ resWs (resR S 6) ys = some qs ∧ p.depth ≤ 60 ∧ b = qs.any fun y => PyData.eqv y p := by
  unfold inAny at h
  split at h
  · rename_i p hp
    split at h
    · rename_i qs hq
      split at h
      · rename_i hd
        cases h
        exact ⟨p, qs, hp, hq, Nat.le_of_ble_eq_true hd, rfl⟩
      · cases h
    · cases h
  · cases h
theorem in_wit {pins : List (Addr × Obj)} {s : Shared} {σ : L2.St} {m : Nat → Addr} {S : Sto} {H : Hp} (hu : X.A.units + 64 < cLine) (I : Inv X pins σ H s) (R : Rel m S H) {x y : D} {xv yv : V} {u w : Value} {b : Bool} (hx : RD m S.len H x xv) (hy : RD m S.len H y yv) (rx : RelV xv u) (ry : RelV yv w) (e : in? S x y = some b) {E : Value → Shared → Prop} :
    (∀ Q : Value → Shared → Prop, (∀ s', Inv X pins σ H s' → Q (.bool b) s') → wpAny (model X.prog X.w) X.A (compareOp .In u w) Q E s) ∧ (∀ Q : Value → Shared → Prop, (∀ s', Inv X pins σ H s' → Q (.bool (!b)) s') → wpAny (model X.prog X.w) X.A (compareOp .NotIn u w) Q E s) := by
  unfold in? at e
  split at e
  · rename_i ys
    obtain ⟨p, qs, h1, h2, h3, rfl⟩ := inAny_ok e
    obtain ⟨d1, p1⟩ := res_dp (K := X.K) R hx h1
    obtain ⟨a, vs, rfl, ha, q⟩ := hy
    obtain ⟨d2, p2⟩ := resWs_dp (K := X.K) (fun n p => resR_dp R 6 n p) ys vs qs q h2
    obtain ⟨as, r1⟩ := Dp.reads I p xv u d1 rx
    obtain ⟨bs, r2⟩ := Dp.reads I (.tuple qs) (.ref a) w (.tup (.of ha) d2) ry
    have hm := Nat.min_le_right (PyData.depthAll qs) p.depth
    exact ⟨fun Q hQ => SeqAt.in_tuple_data r2 r1 p2 p1 (by omega) (hQ s I), fun Q hQ => SeqAt.notIn_tuple_data r2 r1 p2 p1 (by omega) (hQ s I)⟩
  · rename_i n
    split at e
    · rename_i ys hl
      obtain ⟨p, qs, h1, h2, h3, rfl⟩ := inAny_ok e
      obtain ⟨d1, p1⟩ := res_dp (K := X.K) R hx h1
      obtain ⟨vs, hs, q, _⟩ := R.sqL (K := X.K) hl
      obtain ⟨d2, p2⟩ := resWs_dp (K := X.K) (fun n p => resR_dp R 6 n p) ys vs qs q h2
      obtain ⟨as, r1⟩ := Dp.reads I p xv u d1 rx
      obtain ⟨bs, r2⟩ := Dp.reads I (.list qs) yv w (by rw [hy.2]; exact .lst hs d2) ry
      have hm := Nat.min_le_right (PyData.depthAll qs) p.depth
      exact ⟨fun Q hQ => SeqAt.in_list_data r2 r1 p2 p1 (by omega) (hQ s I), fun Q hQ => SeqAt.notIn_list_data r2 r1 p2 p1 (by omega) (hQ s I)⟩
    · split at e
      · rename_i o ho
        cases e
        obtain ⟨w', g, h1, h2⟩ := R.get hx ho
        have eo : w'.isSome = o.isSome := by
          cases o with
          | none => rw [h2 rfl]; rfl
          | some d => obtain ⟨z, hz, _⟩ := h1 d rfl; rw [hz]; rfl
        rw [hy.2] at ry
        obtain rfl : w = .ref (m n) := ry
        rw [← eo]
        exact ⟨fun Q hQ => d_in (by omega) I g rx hQ, fun Q hQ => d_notIn (by omega) I g rx hQ⟩
      · cases e
  · cases e
theorem opv_in (hu : X.A.units + 64 < cLine) : OpR X (compareOp .In) (rd2 inD) := by
  intro pins s σ H x y v u Q I rx ry h
  obtain ⟨m, S, d1, d2, d, S', R, r1, r2, e, q⟩ := h
  unfold inD at e
  split at e
  · rename_i b hb
    cases e
    exact (in_wit hu I R r1 r2 rx ry hb).1 _ fun s' I' => ⟨.bl b, H, I', rfl, rdPure R q rfl⟩
  · cases e
theorem opv_notIn (hu : X.A.units + 64 < cLine) : OpR X (compareOp .NotIn) (rd2 notInD) := by
  intro pins s σ H x y v u Q I rx ry h
  obtain ⟨m, S, d1, d2, d, S', R, r1, r2, e, q⟩ := h
  unfold notInD at e
  split at e
  · rename_i b hb
    cases e
    exact (in_wit hu I R r1 r2 rx ry hb).2 _ fun s' I' => ⟨.bl (!b), H, I', rfl, rdPure R q rfl⟩
  · cases e

/-! ### subscripts -/
def ixD (x y : D) (S : Sto) : Res D := match x with
  | .tup xs => match y with
    | .int i => match atI xs i with
      | some d => .ok d S
      | none => .bad
    | _ => .bad
  | .str z => match y with
    | .int i => match fits z.length with
      | true => match atI z.cps.toList i with
        | some c => .ok (.str ⟨#[c]⟩) S
        | none => .bad
      | false => .bad
    | _ => .bad
  | .ref n => match S.list? n with
    | some xs => match y with
      | .int i => match atI xs i with
        | some d => .ok d S
        | none => .bad
      | _ => .bad
    | none => match S.get? n y with
      | some (some d) => .ok d S
      | _ => .bad
  | _ => .bad
theorem atI_rd {m : Nat → Addr} {k : Nat} {H : Hp} {ds : List D} {vs : List V} {i : Int} {d : D} (h : RDs m k H ds vs) (e : atI ds i = some d) : ∃ v, atI vs i = some v ∧ RD m k H d v := by
  unfold atI at e ⊢
  rw [← h.length]
  cases q : ixN ds.length i with
  | none => rw [q] at e; cases e
  | some j =>
    rw [q] at e
    exact h.get e
def rDG (H0 : Unit) : R2 := fun x y H Q => ∃ a v, x = .ref a ∧ DGet H a y (some v) ∧ Q v H
theorem ix_dict (hu : X.A.units + 1 < cLine) : IxR X (rDG ()) := by
  intro value slice pins s σ H x y v u Q I rx ry h hs
  obtain ⟨a, z, rfl, g, q⟩ := h
  obtain rfl : v = .ref a := rx
  exact PyProof.Rows.tail_any (dict_typeIs I g) PySem.F.slot_dict_getitem.lookup (d_getItem hu I g ry fun w' s3 I3 rw' => ⟨z, H, I3, rw', q⟩) hs
theorem ixv (hu : X.A.units + 1 < cLine) : IxR X (rd2 ixD) := by
  intro value slice pins s σ H x y v u Q I rx ry h hs
  refine (IxR.or ix_seq (ix_dict hu)) value slice pins s σ H x y v u Q I rx ry ?_ hs
  obtain ⟨m, S, d1, d2, d, S', R, r1, r2, e, q⟩ := h
  unfold ixD at e
  split at e
  · rename_i xs
    split at e
    · rename_i i
      split at e
      · rename_i d0 hd
        cases e
        obtain ⟨a, vs, rfl, ha, qs⟩ := r1
        obtain ⟨w, hw, rw'⟩ := atI_rd qs hd
        exact .inl (.inr (.inl ⟨a, vs, i, w, rfl, r2, .of ha, hw, rdPure R q rw'⟩))
      · cases e
    · cases e
  · rename_i z
    split at e
    · rename_i i
      split at e
      · rename_i hf
        split at e
        · rename_i c hc
          cases e
          exact .inl (.inr (.inr ⟨z, i, c, r1, r2, fits_le hf, hc, rdPure R q rfl⟩))
        · cases e
      · cases e
    · cases e
  · rename_i n
    split at e
    · rename_i xs hl
      split at e
      · rename_i i
        split at e
        · rename_i d0 hd
          cases e
          obtain ⟨vs, hsq, qs, _⟩ := R.sqL (K := X.K) hl
          obtain ⟨w, hw, rw'⟩ := atI_rd qs hd
          exact .inl (.inl ⟨_, vs, i, w, r1.2, r2, hsq, hw, rdPure R q rw'⟩)
        · cases e
      · cases e
    · split at e
      · rename_i d0 hd
        cases e
        obtain ⟨w, g, h1, _⟩ := R.get r2 hd
        obtain ⟨z, rfl, hz⟩ := h1 _ rfl
        exact .inr ⟨_, z, r1.2, g, rdPure R q hz⟩
      · cases e
  · cases e
theorem pev_ix {a b : Expr} {fa fb : Ev} {pos : Pos} (hu : X.A.units + 1 < cLine) (ha : PE X a (rdE fa)) (hb : PE X b (rdE fb)) (hs : PlainIx b) : PE X (.Subscript a b pos) (rdE (ev2 ixD fa fb)) :=
  PE.of (pe_ix (ixv hu) ha hb hs) fun _ _ _ h => rd2_seq h
end
end Sw

/-! Eng4: displays, tests, slices, built-ins, methods. -/
namespace Sw
open PySem PySem.Spec PyProof.Rows L2

/-! ### arguments -/
def evNil : EvA := fun _ S => .ok [] S
def evCons (f : Ev) (g : EvA) : EvA := fun ρ S => match f ρ S with
  | .ok x S1 => match g ρ S1 with
    | .ok xs S2 => .ok (x :: xs) S2
    | .bad => .bad
  | .bad => .bad
def evStar (f : Ev) (g : EvA) : EvA := fun ρ S => match f ρ S with
  | .ok x S1 => match g ρ S1 with
    | .ok xs S2 => match x with
      | .tup ys => .ok (ys ++ xs) S2
      | .ref n => match S1.list? n with
        | some ys => .ok (ys ++ xs) S2
        | none => .bad
      | _ => .bad
    | .bad => .bad
  | .bad => .bad
def evN (g : List D → Sto → Res D) (fa : EvA) : Ev := fun ρ S => match fa ρ S with
  | .ok xs S1 => g xs S1
  | .bad => .bad
section
variable {X : Cx} {e a b c : Expr} {es : List Expr} {f fa fb fc : Ev} {g : EvA} {pos : Pos}
theorem pav_nil : PA X [] (rdA evNil) := PA.of pa_nil fun σ H Q h => by
  obtain ⟨m, S, ρ, d, S', R, E, e, q⟩ := h
  cases e
  exact q m H [] (Ext.refl R) rfl
theorem pav_cons (he : PE X e (rdE f)) (hes : PA X es (rdA g)) (hs : starEach (e :: es) X.env = (false, eval e X.env) :: starEach es X.env) : PA X (e :: es) (rdA (evCons f g)) := PA.of (pa_cons he hes hs) fun σ H Q h => by
  obtain ⟨m, S, ρ, d, S', R, E, e, q⟩ := h
  unfold evCons at e
  split at e
  · rename_i x S1 h1
    split at e
    · rename_i xs S2 h2
      cases e
      exact ⟨m, S, ρ, x, S1, R, E, h1, fun m1 H1 v1 X1 r1 => ⟨m1, S1, ρ, xs, S', X1.rel, E.ext X1, h2, fun m2 H2 v2 X2 r2 => q m2 H2 _ (X1.trans X2) ⟨v1, v2, rfl, r1.ext X2, r2⟩⟩⟩
    · cases e
  · cases e
theorem pav_star {p : Pos} (he : PE X e (rdE f)) (hes : PA X es (rdA g)) : PA X (.Starred e p :: es) (rdA (evStar f g)) := PA.of (StX.pa_star he hes) fun σ H Q h => by
  obtain ⟨m, S, ρ, d, S', R, E, e, q⟩ := h
  unfold evStar at e
  split at e
  · rename_i x S1 h1
    split at e
    · rename_i xs S2 h2
      refine ⟨m, S, ρ, x, S1, R, E, h1, fun m1 H1 v1 X1 r1 => ?_⟩
      split at e
      · rename_i ys
        cases e
        obtain ⟨a, vs, rfl, ha, qs⟩ := r1
        exact ⟨a, vs, rfl, .inl (.of ha), m1, S1, ρ, xs, S', X1.rel, E.ext X1, h2, fun m2 H2 v2 X2 r2 => q m2 H2 _ (X1.trans X2) ((qs.ext X2).append r2)⟩
      · rename_i n
        split at e
        · rename_i ys hl
          cases e
          obtain ⟨vs, hsq, qs, _⟩ := X1.rel.sqL (K := X.K) hl
          exact ⟨_, vs, r1.2, .inr hsq, m1, S1, ρ, xs, S', X1.rel, E.ext X1, h2, fun m2 H2 v2 X2 r2 => q m2 H2 _ (X1.trans X2) ((qs.ext X2).append r2)⟩
        · cases e
      · cases e
    · cases e
  · cases e
theorem rdN_seq {gg : List D → Sto → Res D} {σ : L2.St} {H : Hp} {Q : VK} (h : rdE (evN gg g) σ H Q) : rdA g σ H fun xs H1 => rdN gg xs H1 Q := by
  obtain ⟨m, S, ρ, d, S', R, E, e, q⟩ := h
  unfold evN at e
  split at e
  · rename_i xs S1 h1
    exact ⟨m, S, ρ, xs, S1, R, E, h1, fun m1 H1 v1 X1 r1 => ⟨m1, S1, xs, d, S', X1.rel, r1, e, fun m3 H3 v3 X3 r3 => q m3 H3 v3 (X1.trans X3) r3⟩⟩
  · cases e

/-! ### displays -/
def tupN (xs : List D) (S : Sto) : Res D := match fits xs.length with
  | true => .ok (.tup xs) S
  | false => .bad
def lstN (xs : List D) (S : Sto) : Res D := match fits xs.length with
  | true => newL S xs
  | false => .bad
theorem pev_tup {k : Nat} (h : PA X es (rdA g)) : PE X (.Tuple es k pos) (rdE (evN tupN g)) := PE.of (pe_tup h) fun σ H Q h => by
  obtain ⟨m, S, ρ, d, S', R, E, e, q⟩ := rdN_seq h
  refine ⟨m, S, ρ, d, S', R, E, e, fun m1 H1 v1 X1 r1 => ?_⟩
  obtain ⟨m2, S2, ds, d2, S3, R2, r2, e2, q2⟩ := q m1 H1 v1 X1 r1
  unfold tupN at e2
  split at e2
  · rename_i hf
    cases e2
    exact ⟨by rw [← r2.length]; exact fits_le hf, goTup R2 r2 q2⟩
  · cases e2
theorem pev_lst (h : PA X es (rdA g)) : PE X (.List es pos) (rdE (evN lstN g)) := PE.of (pe_lst h) fun σ H Q h => by
  obtain ⟨m, S, ρ, d, S', R, E, e, q⟩ := rdN_seq h
  refine ⟨m, S, ρ, d, S', R, E, e, fun m1 H1 v1 X1 r1 => ?_⟩
  obtain ⟨m2, S2, ds, d2, S3, R2, r2, e2, q2⟩ := q m1 H1 v1 X1 r1
  unfold lstN at e2
  split at e2
  · rename_i hf
    cases e2
    exact ⟨by rw [← r2.length]; exact fits_le hf, goLst R2 r2 q2⟩
  · cases e2
def dNewK : Ev := fun _ S => .ok (.ref S.len) (S.add (.dct []))
def dNewT : Ev := fun _ S => .ok (.ref S.len) (S.add (.dctT []))
theorem goNew {m : Nat → Addr} {S : Sto} {H : Hp} {o : O} {ho : HO} {Q : VK} (r : Rel m S H) (ok : ∀ p, H p = none → OOk m S.len (upd H p ho) p o) (q : ∀ m' H' v, Ext m m' S (S.add o) H H' → RD m' (S.add o).len H' (.ref S.len) v → Q v H') : ∀ p, H p = none → Q (.ref p) (upd H p ho) :=
  fun p hp => q (withAt m S.len p) _ _ (Ext.add r hp (ok p hp)) ⟨by rw [Sto.add_len]; exact Nat.lt_succ_self _, by rw [withAt_same]⟩
theorem pev_dnewK : PE X (.Dict [] [] pos) (rdE dNewK) := PE.of pe_dnewK fun σ H Q h => by
  obtain ⟨m, S, ρ, d, S', R, E, e, q⟩ := h
  cases e
  exact goNew (o := .dct []) R (fun p hp => ⟨[], upd_same, rfl⟩) q
theorem pev_dnewT : PE X (.Dict [] [] pos) (rdE dNewT) := PE.of pe_dnewT fun σ H Q h => by
  obtain ⟨m, S, ρ, d, S', R, E, e, q⟩ := h
  cases e
  exact goNew (o := .dctT []) R (fun p hp => ⟨[], upd_same, rfl⟩) q

/-! ### and, or, not, if -/
/-- a test, then what follows -/
def evB (f : Ev) (k : Bool → Ev) : Ev := fun ρ S => match f ρ S with
  | .ok (.bl b) S1 => k b ρ S1
  | _ => .bad
def kAnd (fb : Ev) : Bool → Ev
  | true => fb
  | false => evC (.bl false)
def kOr (fb : Ev) : Bool → Ev
  | true => evC (.bl true)
  | false => fb
def kIf (fa fb : Ev) : Bool → Ev
  | true => fa
  | false => fb
def evAnd (fa fb : Ev) : Ev := evB fa (kAnd fb)
def evOr (fa fb : Ev) : Ev := evB fa (kOr fb)
def evIf (fc fa fb : Ev) : Ev := evB fc (kIf fa fb)
def notD : D → Sto → Res D
  | .bl b, S => .ok (.bl (!b)) S
  | _, _ => .bad
theorem bool_seq {f : Ev} {ρ : En} {S S' : Sto} {d : D} {k : Bool → Ev} (h : evB f k ρ S = Res.ok d S') : ∃ b S1, f ρ S = .ok (.bl b) S1 ∧ k b ρ S1 = .ok d S' := by
  unfold evB at h
  split at h
  · rename_i b S1 h1; exact ⟨b, S1, h1, h⟩
  · cases h
theorem rdE_bool {f : Ev} {k : Bool → Ev} {σ : L2.St} {H : Hp} {Q : VK} (h : rdE (evB f k) σ H Q) : rdT f σ H fun b H1 => rdE (k b) σ H1 Q := by
  obtain ⟨m, S, ρ, d, S', R, E, e, q⟩ := h
  obtain ⟨b, S1, h1, h2⟩ := bool_seq e
  exact ⟨m, S, ρ, b, S1, R, E, h1, fun m1 H1 X1 => ⟨m1, S1, ρ, d, S', X1.rel, E.ext X1, h2, fun m2 H2 v2 X2 r2 => q m2 H2 v2 (X1.trans X2) r2⟩⟩
theorem rdT_bool {f : Ev} {k : Bool → Ev} {σ : L2.St} {H : Hp} {Q : Bool → Hp → Prop} (h : rdT (evB f k) σ H Q) : rdT f σ H fun b H1 => rdT (k b) σ H1 Q := by
  obtain ⟨m, S, ρ, d, S', R, E, e, q⟩ := h
  obtain ⟨b, S1, h1, h2⟩ := bool_seq e
  exact ⟨m, S, ρ, b, S1, R, E, h1, fun m1 H1 X1 => ⟨m1, S1, ρ, d, S', X1.rel, E.ext X1, h2, fun m2 H2 X2 => q m2 H2 (X1.trans X2)⟩⟩
theorem rdT_C {b : Bool} {σ : L2.St} {H : Hp} {Q : Bool → Hp → Prop} (h : rdT (evC (.bl b)) σ H Q) : Q b H := by
  obtain ⟨m, S, ρ, d, S', R, E, e, q⟩ := h
  cases e
  exact q m H (Ext.refl R)
variable {rest : List Expr}
theorem pev_one {op : BoolOp} (h : PE X a (rdE fa)) : PE X (.BoolOp op [a] pos) (rdE fa) := pe_one h
theorem pev_and (ha : PE X a (rdE fa)) (hb : PE X (.BoolOp .And (b :: rest) pos) (rdE fb)) : PE X (.BoolOp .And (a :: b :: rest) pos) (rdE (evAnd fa fb)) := PE.of (pe_and ha hb) fun σ H Q h => by
  obtain ⟨m, S, ρ, d, S', R, E, e, q⟩ := rdE_bool h
  refine ⟨m, S, ρ, _, S', R, E, e, fun m1 H1 v1 X1 r1 => ⟨d, r1, ?_⟩⟩
  have := q m1 H1 X1
  cases d with
  | true => exact this
  | false => exact rdC this fun _ _ _ => rfl
theorem pev_or (ha : PE X a (rdE fa)) (hb : PE X (.BoolOp .Or (b :: rest) pos) (rdE fb)) : PE X (.BoolOp .Or (a :: b :: rest) pos) (rdE (evOr fa fb)) := PE.of (pe_or ha hb) fun σ H Q h => by
  obtain ⟨m, S, ρ, d, S', R, E, e, q⟩ := rdE_bool h
  refine ⟨m, S, ρ, _, S', R, E, e, fun m1 H1 v1 X1 r1 => ⟨d, r1, ?_⟩⟩
  have := q m1 H1 X1
  cases d with
  | true => exact rdC this fun _ _ _ => rfl
  | false => exact this
theorem pwv_and1 (h : PT X a (rdT fa)) : PW X (.BoolOp .And [a] pos) (rdT fa) := pw_and1 h
theorem pwv_or1 (h : PT X a (rdT fa)) : PW X (.BoolOp .Or [a] pos) (rdT fa) := pw_or1 h
theorem pwv_and (ha : PT X a (rdT fa)) (hb : PW X (.BoolOp .And (b :: rest) pos) (rdT fb)) : PW X (.BoolOp .And (a :: b :: rest) pos) (rdT (evAnd fa fb)) := PW.of (pw_and ha hb) fun σ H Q h => by
  obtain ⟨m, S, ρ, d, S', R, E, e, q⟩ := rdT_bool h
  refine ⟨m, S, ρ, d, S', R, E, e, fun m1 H1 X1 => ?_⟩
  have := q m1 H1 X1
  cases d with
  | true => exact this
  | false => exact rdT_C this
theorem pwv_or (ha : PT X a (rdT fa)) (hb : PW X (.BoolOp .Or (b :: rest) pos) (rdT fb)) : PW X (.BoolOp .Or (a :: b :: rest) pos) (rdT (evOr fa fb)) := PW.of (pw_or ha hb) fun σ H Q h => by
  obtain ⟨m, S, ρ, d, S', R, E, e, q⟩ := rdT_bool h
  refine ⟨m, S, ρ, d, S', R, E, e, fun m1 H1 X1 => ?_⟩
  have := q m1 H1 X1
  cases d with
  | true => exact rdT_C this
  | false => exact this
theorem pev_not (ha : PE X a (rdE fa)) : PE X (.UnaryOp .Not a pos) (rdE (ev1 notD fa)) := PE.of (pe_not ha) fun σ H Q h => by
  obtain ⟨m, S, ρ, d, S', R, E, e, q⟩ := rd1_seq h
  refine ⟨m, S, ρ, d, S', R, E, e, fun m1 H1 v1 X1 r1 => ?_⟩
  obtain ⟨m2, S2, d1, d2, S3, R2, r2, e2, q2⟩ := q m1 H1 v1 X1 r1
  unfold notD at e2
  split at e2
  · rename_i bb
    cases e2
    exact ⟨bb, r2, rdPure R2 q2 rfl⟩
  · cases e2
theorem ptv_not (ha : PT X a (rdT fa)) : PT X (.UnaryOp .Not a pos) (rdT (ev1 notD fa)) := PT.of (pt_not ha) fun σ H Q h => by
  obtain ⟨m, S, ρ, b, S', R, E, e, q⟩ := h
  obtain ⟨x, S1, h1, h2⟩ := ev1_ok e
  unfold notD at h2
  split at h2
  · rename_i bb
    cases h2
    exact ⟨m, S, ρ, bb, _, R, E, h1, fun m1 H1 X1 => q m1 H1 X1⟩
  · cases h2
theorem pev_if (hc : PT X c (rdT fc)) (ha : PE X a (rdE fa)) (hb : PE X b (rdE fb)) : PE X (.IfExp c a b pos) (rdE (evIf fc fa fb)) := PE.of (pe_ifExp hc ha hb) fun σ H Q h => by
  obtain ⟨m, S, ρ, d, S', R, E, e, q⟩ := rdE_bool h
  refine ⟨m, S, ρ, d, S', R, E, e, fun m1 H1 X1 => ?_⟩
  have := q m1 H1 X1
  cases d with
  | true => exact this
  | false => exact this

/-! ### chains -/
def evChain (g h : D → D → Sto → Res D) (fa fb fc : Ev) : Ev := fun ρ S => match fa ρ S with
  | .ok x S1 => match fb ρ S1 with
    | .ok y S2 => match g x y S2 with
      | .ok (.bl true) S3 => match fc ρ S3 with
        | .ok z S4 => h y z S4
        | .bad => .bad
      | .ok (.bl false) S3 => .ok (.bl false) S3
      | _ => .bad
    | .bad => .bad
  | .bad => .bad
theorem rd_chain {gg hh : D → D → Sto → Res D} {σ : L2.St} {H : Hp} {Q : VK} (h : rdE (evChain gg hh fa fb fc) σ H Q) : tChain (rd2 gg) (rd2 hh) (rdE fa) (rdE fb) (rdE fc) σ H Q := by
  obtain ⟨m, S, ρ, d, S', R, E, e, q⟩ := h
  unfold evChain at e
  split at e
  · rename_i x S1 h1
    split at e
    · rename_i y S2 h2
      refine ⟨m, S, ρ, x, S1, R, E, h1, fun m1 H1 v1 X1 r1 => ⟨m1, S1, ρ, y, S2, X1.rel, E.ext X1, h2, fun m2 H2 v2 X2 r2 => ?_⟩⟩
      split at e
      · rename_i S3 h3
        refine ⟨m2, S2, x, y, _, S3, X2.rel, r1.ext X2, r2, h3, fun m3 H3 v3 X3 r3 => ⟨true, r3, ?_⟩⟩
        rw [if_pos rfl]
        split at e
        · rename_i z S4 h4
          exact ⟨m3, S3, ρ, z, S4, X3.rel, (E.ext (X1.trans (X2.trans X3))), h4, fun m4 H4 v4 X4 r4 => ⟨m4, S4, y, z, d, S', X4.rel, r2.ext (X3.trans X4), r4, e, fun m5 H5 v5 X5 r5 => q m5 H5 v5 (X1.trans (X2.trans (X3.trans (X4.trans X5)))) r5⟩⟩
        · cases e
      · rename_i S3 h3
        cases e
        refine ⟨m2, S2, x, y, _, S', X2.rel, r1.ext X2, r2, h3, fun m3 H3 v3 X3 r3 => ⟨false, r3, ?_⟩⟩
        rw [if_neg Bool.false_ne_true]
        exact q m3 H3 _ (X1.trans (X2.trans X3)) rfl
      · cases e
    · cases e
  · cases e
theorem pev_chain {op op' : CmpOp} {gg hh : D → D → Sto → Res D} (ho : OpR X (compareOp op) (rd2 gg)) (ho' : OpR X (compareOp op') (rd2 hh)) (ha : PE X a (rdE fa)) (hb : PE X b (rdE fb)) (hc : PE X c (rdE fc)) (hm : lastMarks [op, op'] [b, c] = false) :
    PE X (.Compare a [op, op'] [b, c] pos) (rdE (evChain gg hh fa fb fc)) := PE.of (pe_chain ho ho' ha hb hc hm) fun _ _ _ h => rd_chain h
theorem ptv_chain {op op' : CmpOp} {gg hh : D → D → Sto → Res D} (ho : OpR X (compareOp op) (rd2 gg)) (ho' : OpR X (compareOp op') (rd2 hh)) (ha : PE X a (rdE fa)) (hb : PE X b (rdE fb)) (hc : PE X c (rdE fc)) (hm : lastMarks [op, op'] [b, c] = false) :
    PT X (.Compare a [op, op'] [b, c] pos) (rdT (evChain gg hh fa fb fc)) := PT.of (pt_chain ho ho' ha hb hc hm) fun _ _ _ h => rd_chain (rdT_of h)

/-! ### -x -/
def negD : D → Sto → Res D
  | .int i, S => .ok (.int (-i)) S
  | _, _ => .bad
theorem pev_neg (ha : PE X a (rdE fa)) : PE X (.UnaryOp .USub a pos) (rdE (ev1 negD fa)) := PE.of (pe_un un_neg ha) fun σ H Q h => by
  obtain ⟨m, S, ρ, d, S', R, E, e, q⟩ := rd1_seq h
  refine ⟨m, S, ρ, d, S', R, E, e, fun m1 H1 v1 X1 r1 => ?_⟩
  obtain ⟨m2, S2, d1, d2, S3, R2, r2, e2, q2⟩ := q m1 H1 v1 X1 r1
  unfold negD at e2
  split at e2
  · cases e2; exact ⟨_, r2, rdPure R2 q2 rfl⟩
  · cases e2

/-! ### slices -/
def cutL {α : Type} (xs : List α) (lo hi : Option Int) : List α := (xs.drop (HT.sIx xs.length 0 lo)).take (HT.sIx xs.length xs.length hi - HT.sIx xs.length 0 lo)
def slD (x : D) (lo hi : Option Int) (S : Sto) : Res D := match x with
  | .tup xs => .ok (.tup (cutL xs lo hi)) S
  | .str z => match fits z.length with
    | true => .ok (.str (cutS z lo hi)) S
    | false => .bad
  | .ref n => match S.list? n with
    | some xs => newL S (cutL xs lo hi)
    | none => .bad
  | _ => .bad
/-- a part of a slice -/
def evPart : Option Ev → En → Sto → Res (Option Int)
  | none, _, S => .ok none S
  | some f, ρ, S => match f ρ S with
    | .ok (.int i) S1 => .ok (some i) S1
    | _ => .bad
def evSl (f : Ev) (lo hi : Option Ev) : Ev := fun ρ S => match f ρ S with
  | .ok x S1 => match evPart lo ρ S1 with
    | .ok l S2 => match evPart hi ρ S2 with
      | .ok h S3 => slD x l h S3
      | .bad => .bad
    | .bad => .bad
  | .bad => .bad
theorem RDs.cut {m : Nat → Addr} {k : Nat} {H : Hp} {ds : List D} {vs : List V} (h : RDs m k H ds vs) (lo hi : Option Int) : RDs m k H (cutL ds lo hi) (cutV vs lo hi) := by
  unfold cutL cutV
  rw [h.length]
  exact (h.drop _).take _
theorem cut_whole {α : Type} {xs : List α} {lo hi : Option Int} (h : HT.sIx xs.length 0 lo = 0 ∧ HT.sIx xs.length xs.length hi = xs.length) : cutL xs lo hi = xs := by
  unfold cutL
  rw [h.1, h.2]
  simp
def rdSl : V → Option Int → Option Int → Hp → VK → Prop := fun x lo hi H Q => ∃ m S d1 d S', Rel m S H ∧ RD m S.len H d1 x ∧ slD d1 lo hi S = .ok d S' ∧ ∀ m' H' v, Ext m m' S S' H H' → RD m' S'.len H' d v → Q v H'
theorem slv : SlR X rdSl := by
  intro pins s σ H x v vl vu lo hi sl Q I rx hs pl pu h
  refine (SlR.or sl_list (SlR.or sl_tupA sl_str)) pins s σ H x v vl vu lo hi sl Q I rx hs pl pu ?_
  obtain ⟨m, S, d1, d, S', R, r1, e, q⟩ := h
  unfold slD at e
  split at e
  · rename_i xs
    cases e
    obtain ⟨a, vs, rfl, ha, qs⟩ := r1
    refine .inr (.inl ⟨a, vs, rfl, .of ha, fun hw => ?_, fun hw => goTup R (qs.cut lo hi) q⟩)
    rw [← qs.length] at hw
    rw [cut_whole hw] at q
    exact rdPure R q ⟨a, vs, rfl, ha, qs⟩
  · rename_i z
    split at e
    · rename_i hf
      cases e
      exact .inr (.inr ⟨z, r1, fits_le hf, rdPure R q rfl⟩)
    · cases e
  · rename_i n
    split at e
    · rename_i xs hl
      cases e
      obtain ⟨vs, hsq, qs, _⟩ := R.sqL (K := X.K) hl
      exact .inl ⟨_, vs, r1.2, hsq, goLst R (qs.cut lo hi) q⟩
    · cases e
  · cases e
def rdO (f : Option Ev) : TO := fun σ H Q => ∃ m S ρ d S', Rel m S H ∧ REnv m S.len H ρ σ ∧ evPart f ρ S = .ok d S' ∧ ∀ m' H', Ext m m' S S' H H' → Q d H'
theorem PO.of {lo : Option Expr} {t t' : TO} (h : PO X lo t) (i : ∀ σ H Q, t' σ H Q → t σ H Q) : PO X lo t' := ⟨fun pins s σ H Q I q => h.run pins s σ H Q I (i σ H Q q)⟩
theorem pov_none : PO X none (rdO none) := PO.of po_none fun σ H Q h => by
  obtain ⟨m, S, ρ, d, S', R, E, e, q⟩ := h
  cases e
  exact q m H (Ext.refl R)
theorem pov_some (h : PE X e (rdE f)) : PO X (some e) (rdO (some f)) := PO.of (po_some h) fun σ H Q h => by
  obtain ⟨m, S, ρ, d, S', R, E, e, q⟩ := h
  simp only [evPart] at e
  split at e
  · rename_i i S1 h1
    cases e
    exact ⟨m, S, ρ, _, _, R, E, h1, fun m1 H1 v1 X1 r1 => ⟨i, r1, q m1 H1 X1⟩⟩
  · cases e
theorem pev_slice {lo hi : Option Expr} {fl fh : Option Ev} {p2 : Pos} (he : PE X e (rdE f)) (hl : PO X lo (rdO fl)) (hh : PO X hi (rdO fh)) : PE X (.Subscript e (.Slice lo hi none p2) pos) (rdE (evSl f fl fh)) := PE.of (pe_slice slv he hl hh) fun σ H Q h => by
  obtain ⟨m, S, ρ, d, S', R, E, e, q⟩ := h
  unfold evSl at e
  split at e
  · rename_i x S1 h1
    split at e
    · rename_i l S2 h2
      split at e
      · rename_i hh S3 h3
        exact ⟨m, S, ρ, x, S1, R, E, h1, fun m1 H1 v1 X1 r1 => ⟨m1, S1, ρ, l, S2, X1.rel, E.ext X1, h2, fun m2 H2 X2 => ⟨m2, S2, ρ, hh, S3, X2.rel, E.ext (X1.trans X2), h3, fun m3 H3 X3 => ⟨m3, S3, x, d, S', X3.rel, r1.ext (X2.trans X3), e, fun m4 H4 v4 X4 r4 => q m4 H4 v4 (X1.trans (X2.trans (X3.trans X4))) r4⟩⟩⟩⟩
      · cases e
    · cases e
  · cases e
end
end Sw

/-! Eng5: built-ins and methods. -/
namespace Sw
open PySem PySem.Spec PyProof.Rows L2

theorem CallR.or2 {X : Cx} {f : Value} {r r' : List V → Hp → VK → Prop} (h : CallR X f r) (h' : CallR X f r') : CallR X f (fun xs H Q => r xs H Q ∨ r' xs H Q) := by
  intro pins s σ H xs us Q I rx q
  rcases q with q | q
  · exact h pins s σ H xs us Q I rx q
  · exact h' pins s σ H xs us Q I rx q
theorem RDs.one1 {m : Nat → Addr} {k : Nat} {H : Hp} {d : D} {vs : List V} (h : RDs m k H [d] vs) : ∃ v, vs = [v] ∧ RD m k H d v := by
  obtain ⟨v, r, h1, h2, h3⟩ := h
  rw [show r = [] from h3] at h1
  exact ⟨v, h1, h2⟩
theorem RDs.two {m : Nat → Addr} {k : Nat} {H : Hp} {d e : D} {vs : List V} (h : RDs m k H [d, e] vs) : ∃ v w, vs = [v, w] ∧ RD m k H d v ∧ RD m k H e w := by
  obtain ⟨v, r, h1, h2, h3⟩ := h
  obtain ⟨w, rfl, h5⟩ := h3.one1
  exact ⟨v, w, h1, h2, h5⟩

/-! ### len -/
def lenN : List D → Sto → Res D
  | [.tup xs], S => .ok (.int xs.length) S
  | [.str z], S => match fits z.length with
    | true => .ok (.int z.length) S
    | false => .bad
  | [.ref n], S => match S.objs[n]? with
    | some (.lst xs) => .ok (.int xs.length) S
    | some (.frz xs) => .ok (.int xs.length) S
    | some (.dct kvs) => .ok (.int kvs.length) S
    | some (.dctT kvs) => .ok (.int kvs.length) S
    | _ => .bad
  | _, _ => .bad
section
variable {X : Cx}
theorem crv_len : CallR X (.builtin "len") (rdN lenN) := CallR.of (CallR.or2 call_len_seq (CallR.or2 call_len_str (CallR.or2 call_lenD call_len_dT))) fun xs H Q h => by
  obtain ⟨m, S, ds, d, S', R, r, e, q⟩ := h
  unfold lenN at e
  split at e
  · cases e
    obtain ⟨v, rfl, a, vs, rfl, ha, qs⟩ := r.one1
    exact .inl ⟨a, vs, rfl, .inr (.of ha), by rw [← qs.length]; exact rdPure R q rfl⟩
  · split at e
    · rename_i hf
      cases e
      obtain ⟨v, rfl, hv⟩ := r.one1
      exact .inr (.inl ⟨_, by rw [show v = _ from hv], fits_le hf, rdPure R q rfl⟩)
    · cases e
  · rename_i n S
    obtain ⟨v, rfl, hn, rfl⟩ := r.one1
    split at e
    · rename_i ys ho
      cases e
      obtain ⟨vs, h1, h2⟩ := R.obj _ _ ho
      exact .inl ⟨_, vs, rfl, .inl (.of h1), by rw [← h2.length]; exact rdPure R q rfl⟩
    · rename_i ys ho
      cases e
      obtain ⟨vs, o, h1, h2⟩ := R.obj _ _ ho
      exact .inl ⟨_, vs, rfl, .inl (.inl (.inr ⟨o, h1⟩)), by rw [← h2.length]; exact rdPure R q rfl⟩
    · rename_i ys ho
      cases e
      obtain ⟨vs, h1, h2⟩ := R.obj _ _ ho
      exact .inr (.inr (.inl ⟨_, vs, rfl, h1, by rw [← h2.length]; exact rdPure R q rfl⟩))
    · rename_i ys ho
      cases e
      obtain ⟨vs, h1, h2⟩ := R.obj _ _ ho
      exact .inr (.inr (.inr ⟨_, vs, rfl, h1, by rw [← h2.length]; exact rdPure R q rfl⟩))
    · cases e
  · cases e

/-! ### int, min, max -/
def intN : List D → Sto → Res D
  | [.int i], S => .ok (.int i) S
  | [.bl b], S => .ok (.int (if b then 1 else 0)) S
  | _, _ => .bad
theorem crv_int : CallR X (.type "int") (rdN intN) := CallR.of call_int1 fun xs H Q h => by
  obtain ⟨m, S, ds, d, S', R, r, e, q⟩ := h
  unfold intN at e
  split at e
  · cases e
    obtain ⟨v, rfl, hv⟩ := r.one1
    exact .inl ⟨_, by rw [show v = _ from hv], rdPure R q rfl⟩
  · cases e
    obtain ⟨v, rfl, hv⟩ := r.one1
    exact .inr ⟨_, by rw [show v = _ from hv], rdPure R q rfl⟩
  · cases e
def minN : List D → Sto → Res D
  | [.int i, .int j], S => .ok (.int (if j < i then j else i)) S
  | _, _ => .bad
def maxN : List D → Sto → Res D
  | [.int i, .int j], S => .ok (.int (if j > i then j else i)) S
  | _, _ => .bad
theorem crv_min (hc : X.calm = true) : CallR X (.builtin "min") (rdN minN) := CallR.of (call_min2 hc) fun xs H Q h => by
  obtain ⟨m, S, ds, d, S', R, r, e, q⟩ := h
  unfold minN at e
  split at e
  · cases e
    obtain ⟨v, w, rfl, hv, hw⟩ := r.two
    exact ⟨_, _, by rw [show v = _ from hv, show w = _ from hw], rdPure R q rfl⟩
  · cases e
theorem crv_max (hc : X.calm = true) : CallR X (.builtin "max") (rdN maxN) := CallR.of (call_max2 hc) fun xs H Q h => by
  obtain ⟨m, S, ds, d, S', R, r, e, q⟩ := h
  unfold maxN at e
  split at e
  · cases e
    obtain ⟨v, w, rfl, hv, hw⟩ := r.two
    exact ⟨_, _, by rw [show v = _ from hv, show w = _ from hw], rdPure R q rfl⟩
  · cases e

/-! ### all, any, sum -/
def blsOf : List D → Option (List Bool)
  | [] => some []
  | .bl b :: r => match blsOf r with
    | some bs => some (b :: bs)
    | none => none
  | _ :: _ => none
def intsOf : List D → Option (List Int)
  | [] => some []
  | .int b :: r => match intsOf r with
    | some bs => some (b :: bs)
    | none => none
  | _ :: _ => none
theorem blsOf_ok {m : Nat → Addr} {k : Nat} {H : Hp} : ∀ {ds : List D} {vs : List V} {bs : List Bool}, RDs m k H ds vs → blsOf ds = some bs → vs = bs.map V.bl
  | [], vs, bs, h, e => by simp only [blsOf] at e; cases e; exact h
  | d :: ds, vs, bs, h, e => by
    obtain ⟨v, r, rfl, h2, h3⟩ := h
    cases d <;> simp only [blsOf] at e <;> try cases e
    rename_i b
    cases e1 : blsOf ds with
    | none => rw [e1] at e; cases e
    | some cs =>
      rw [e1] at e
      cases e
      rw [show v = _ from h2, blsOf_ok h3 e1]
      rfl
theorem intsOf_ok {m : Nat → Addr} {k : Nat} {H : Hp} : ∀ {ds : List D} {vs : List V} {bs : List Int}, RDs m k H ds vs → intsOf ds = some bs → vs = bs.map V.int
  | [], vs, bs, h, e => by simp only [intsOf] at e; cases e; exact h
  | d :: ds, vs, bs, h, e => by
    obtain ⟨v, r, rfl, h2, h3⟩ := h
    cases d <;> simp only [intsOf] at e <;> try cases e
    rename_i b
    cases e1 : intsOf ds with
    | none => rw [e1] at e; cases e
    | some cs =>
      rw [e1] at e
      cases e
      rw [show v = _ from h2, intsOf_ok h3 e1]
      rfl
/-- a fold over a list's truths -/
def blN (p : List Bool → Bool) : List D → Sto → Res D
  | [.ref n], S => match S.list? n with
    | some xs => match blsOf xs with
      | some bs => .ok (.bl (p bs)) S
      | none => .bad
    | none => .bad
  | _, _ => .bad
def sumN : List D → Sto → Res D
  | [.ref n], S => match S.list? n with
    | some xs => match intsOf xs with
      | some ns => .ok (.int ns.sum) S
      | none => .bad
    | none => .bad
  | _, _ => .bad
theorem crv_bl {id : String} {p : List Bool → Bool} (hr : CallR X (.builtin id) (fun vs H Q => ∃ (a : Addr) (bs : List Bool), vs = [V.ref a] ∧ SqL X.K H a (bs.map V.bl) ∧ Q (.bl (p bs)) H)) : CallR X (.builtin id) (rdN (blN p)) := CallR.of hr fun xs H Q h => by
  obtain ⟨m, S, ds, d, S', R, r, e, q⟩ := h
  unfold blN at e
  split at e
  · obtain ⟨v, rfl, hn, rfl⟩ := r.one1
    split at e
    · rename_i ys hl
      split at e
      · rename_i bs hb
        cases e
        obtain ⟨vs, h1, h2, _⟩ := R.sqL (K := X.K) hl
        rw [blsOf_ok h2 hb] at h1
        exact ⟨_, bs, rfl, h1, rdPure R q rfl⟩
      · cases e
    · cases e
  · cases e
theorem crv_all (hc : X.calm = true) : CallR X (.builtin "all") (rdN (blN fun bs => bs.all id)) := crv_bl (cr_all hc)
theorem crv_any (hc : X.calm = true) : CallR X (.builtin "any") (rdN (blN fun bs => bs.any id)) := crv_bl (cr_any hc)
theorem crv_sum (hc : X.calm = true) : CallR X (.builtin "sum") (rdN sumN) := CallR.of (cr_sum hc) fun xs H Q h => by
  obtain ⟨m, S, ds, d, S', R, r, e, q⟩ := h
  unfold sumN at e
  split at e
  · obtain ⟨v, rfl, hn, rfl⟩ := r.one1
    split at e
    · rename_i ys hl
      split at e
      · rename_i bs hb
        cases e
        obtain ⟨vs, h1, h2, _⟩ := R.sqL (K := X.K) hl
        rw [intsOf_ok h2 hb] at h1
        exact ⟨_, bs, rfl, h1, rdPure R q rfl⟩
      · cases e
    · cases e
  · cases e

/-! ### tuple, list -/
def tupleN : List D → Sto → Res D
  | [.tup xs], S => .ok (.tup xs) S
  | [.ref n], S => match S.list? n with
    | some xs => .ok (.tup xs) S
    | none => .bad
  | _, _ => .bad
def listN : List D → Sto → Res D
  | [.tup xs], S => newL S xs
  | [.ref n], S => match S.list? n with
    | some xs => newL S xs
    | none => .bad
  | _, _ => .bad
theorem crv_tuple : CallR X (.type "tuple") (rdN tupleN) := CallR.of call_tuple_of fun xs H Q h => by
  obtain ⟨m, S, ds, d, S', R, r, e, q⟩ := h
  unfold tupleN at e
  split at e
  · cases e
    obtain ⟨v, rfl, a, vs, rfl, ha, qs⟩ := r.one1
    exact ⟨a, vs, rfl, .inr ⟨.of ha, rdPure R q ⟨a, vs, rfl, ha, qs⟩⟩⟩
  · obtain ⟨v, rfl, hn, rfl⟩ := r.one1
    split at e
    · rename_i ys hl
      cases e
      obtain ⟨vs, h1, h2, _⟩ := R.sqL (K := X.K) hl
      exact ⟨_, vs, rfl, .inl ⟨h1, goTup R h2 q⟩⟩
    · cases e
  · cases e
theorem crv_list : CallR X (.type "list") (rdN listN) := CallR.of call_list_of fun xs H Q h => by
  obtain ⟨m, S, ds, d, S', R, r, e, q⟩ := h
  unfold listN at e
  split at e
  · cases e
    obtain ⟨v, rfl, a, vs, rfl, ha, qs⟩ := r.one1
    exact ⟨a, vs, rfl, .inr (.of ha), goLst R qs q⟩
  · obtain ⟨v, rfl, hn, rfl⟩ := r.one1
    split at e
    · rename_i ys hl
      cases e
      obtain ⟨vs, h1, h2, _⟩ := R.sqL (K := X.K) hl
      exact ⟨_, vs, rfl, .inl h1, goLst R h2 q⟩
    · cases e
  · cases e

/-! ### isinstance -/
inductive Tn where
  | non | bool | int | str | tuple | list | dict
def Tn.name : Tn → String
  | .non => "NoneType"
  | .bool => "bool"
  | .int => "int"
  | .str => "str"
  | .tuple => "tuple"
  | .list => "list"
  | .dict => "dict"
/-- the type of a thing -/
def tyOf (S : Sto) : D → Option Tn
  | .non => some .non
  | .bl _ => some .bool
  | .int _ => some .int
  | .str _ => some .str
  | .tup _ => some .tuple
  | .ref n => match S.objs[n]? with
    | some (.lst _) => some .list
    | some (.frz _) => some .list
    | some (.dct _) => some .dict
    | some (.dctT _) => some .dict
    | _ => none
def isSub : Tn → Tn → Bool
  | .non, .non => true
  | .bool, .bool => true
  | .bool, .int => true
  | .int, .int => true
  | .str, .str => true
  | .tuple, .tuple => true
  | .list, .list => true
  | .dict, .dict => true
  | _, _ => false
theorem kit_sub (t T : Tn) : kitB t.name T.name = some (isSub t T) := by
  cases t <;> cases T <;> decide +kernel
def isiD (Ts : List Tn) (x : D) (S : Sto) : Res D := match tyOf S x with
  | some t => .ok (.bl (Ts.any fun T => isSub t T)) S
  | none => .bad
theorem tyOf_ok {K : Frg} {m : Nat → Addr} {S : Sto} {H : Hp} (R : Rel m S H) {d : D} {v : V} {t : Tn} (h : RD m S.len H d v) (e : tyOf S d = some t) : TyX K H v (.type t.name) := by
  cases d with
  | non => cases e; rw [show v = _ from h]; exact .base .non
  | bl b => cases e; rw [show v = _ from h]; exact .base (.bl b)
  | int b => cases e; rw [show v = _ from h]; exact .base (.int b)
  | str b => cases e; rw [show v = _ from h]; exact .base (.str b)
  | tup xs => cases e; obtain ⟨a, vs, rfl, ha, _⟩ := h; exact .base (.tup ha)
  | ref n =>
    simp only [tyOf] at e
    rw [h.2]
    split at e
    · rename_i ho; cases e; obtain ⟨vs, h1, _⟩ := R.obj _ _ ho; exact .base (.lst h1)
    · rename_i ho; cases e; obtain ⟨vs, o, h1, _⟩ := R.obj _ _ ho; exact .base (.frz h1)
    · rename_i ho; cases e; obtain ⟨vs, h1, _⟩ := R.obj _ _ ho; exact .base (.dK h1)
    · rename_i ho; cases e; obtain ⟨vs, h1, _⟩ := R.obj _ _ ho; exact .base (.dT h1)
    · cases e
end
end Sw

/-! Eng6: calls of built-ins, isinstance, methods. -/
namespace Sw
open PySem PySem.Spec PyProof.Rows L2
section
variable {X : Cx} {e o a : Expr} {es : List Expr} {f fo fa : Ev} {g : EvA} {pos p apos cpos : Pos} {x : Str} {gg : List D → Sto → Res D}
theorem pev_callB {id : String} (hc : CallR X (.builtin id) (rdN gg)) (hg : Gl X x) (hm : X.mg x = none) (hv : bootBuiltins x = some (.builtin id)) (ha : PA X (e :: es) (rdA g)) (hn : x ≠ "__name__") (hdb : (x == ("__debug__" : Str)) = false)
    (he : starEach (e :: es) X.env = (false, eval e X.env) :: starEach es X.env) (hpl : (backTo pos (starEach es X.env)).any (·.1) = false) : PE X (.Call (.Name x p) (e :: es) [] pos) (rdE (evN gg g)) :=
  PE.of (pe_callB hc hg hm hv ha hn hdb he hpl) fun _ _ _ h => rdN_seq h
theorem pev_callTy {T : String} (hc : CallR X (.type T) (rdN gg)) (hg : Gl X x) (hm : X.mg x = none) (hv : bootBuiltins x = some (.type T)) (ha : PA X (e :: es) (rdA g)) (hn : x ≠ "__name__") (hdb : (x == ("__debug__" : Str)) = false)
    (he : starEach (e :: es) X.env = (false, eval e X.env) :: starEach es X.env) (hpl : (backTo pos (starEach es X.env)).any (·.1) = false) : PE X (.Call (.Name x p) (e :: es) [] pos) (rdE (evN gg g)) :=
  PE.of (pe_callTy hc hg hm hv ha hn hdb he hpl) fun _ _ _ h => rdN_seq h

/-! ### isinstance(a, T), isinstance(a, (T, U)) -/
theorem pev_isi {T : Tn} {y : Str} {p1 p2 : Pos} (ha : PE X a (rdE fa)) (hg : Gl X "isinstance") (hm : X.mg "isinstance" = none) (hg1 : Gl X y) (hm1 : X.mg y = none) (hv1 : bootBuiltins y = some (.type T.name)) (hn1 : y ≠ "__name__") (hd1 : (y == ("__debug__" : Str)) = false)
    (hs : starEach [a, .Name y p1] X.env = (false, eval a X.env) :: starEach [.Name y p1] X.env) : PE X (.Call (.Name "isinstance" p) [a, .Name y p1] [] pos) (rdE (ev1 (isiD [T]) fa)) :=
  PE.of (pe_callB call_isi hg hm boot_isinstance (pa_cons ha (pa_cons (pe_bltn (v := .ty T.name) hg1 hm1 hv1 rfl hn1 hd1) pa_nil) hs) (by decide) (by decide) hs (by rfl)) fun σ H Q h => by
    obtain ⟨m, S, ρ, d, S', R, E, e, q⟩ := rd1_seq h
    refine ⟨m, S, ρ, d, S', R, E, e, fun m1 H1 v1 X1 r1 => ?_⟩
    obtain ⟨m2, S2, d1, d2, S3, R2, r2, e2, q2⟩ := q m1 H1 v1 X1 r1
    unfold isiD at e2
    split at e2
    · rename_i t ht
      cases e2
      exact ⟨v1, .ty T.name, _, _, isSub t T, rfl, .ty _, tyOf_ok R2 r2 ht, kit_ty (kit_sub t T), by simpa using rdPure R2 q2 rfl⟩
    · cases e2
theorem pev_isi2 {T U : Tn} {y z : Str} {p1 p2 p3 : Pos} {k : Nat} (ha : PE X a (rdE fa)) (hg : Gl X "isinstance") (hm : X.mg "isinstance" = none) (hg1 : Gl X y) (hm1 : X.mg y = none) (hv1 : bootBuiltins y = some (.type T.name)) (hn1 : y ≠ "__name__") (hd1 : (y == ("__debug__" : Str)) = false)
    (hg2 : Gl X z) (hm2 : X.mg z = none) (hv2 : bootBuiltins z = some (.type U.name)) (hn2 : z ≠ "__name__") (hd2 : (z == ("__debug__" : Str)) = false)
    (hs : ∀ es, starEach (a :: es) X.env = (false, eval a X.env) :: starEach es X.env) : PE X (.Call (.Name "isinstance" p) [a, .Tuple [.Name y p1, .Name z p2] k p3] [] pos) (rdE (ev1 (isiD [T, U]) fa)) :=
  PE.of (pe_callB call_isiT hg hm boot_isinstance (pa_cons ha (pa_cons (pe_tup (pa_cons (pe_bltn (v := .ty T.name) hg1 hm1 hv1 rfl hn1 hd1) (pa_cons (pe_bltn (v := .ty U.name) hg2 hm2 hv2 rfl hn2 hd2) pa_nil))) pa_nil) (hs _)) (by decide) (by decide) (hs _) (by rfl)) fun σ H Q h => by
    obtain ⟨m, S, ρ, d, S', R, E, e, q⟩ := rd1_seq h
    refine ⟨m, S, ρ, d, S', R, E, e, fun m1 H1 v1 X1 r1 => ?_⟩
    obtain ⟨m2, S2, d1, d2, S3, R2, r2, e2, q2⟩ := q m1 H1 v1 X1 r1
    unfold isiD at e2
    split at e2
    · rename_i t ht
      cases e2
      refine ⟨by show 2 ≤ sizeLine; decide, fun tp htp => ?_⟩
      have X2 := Ext.tup (o := .tup [.ty T.name, .ty U.name]) R2 htp
      refine ⟨v1, tp, _, _, [.type T.name, .type U.name], isSub t T || isSub t U, rfl, upd_same, .cons (.ty _) (.cons (.ty _) .nil), tyOf_ok X2.rel (r2.ext X2) ht, ?_, q2 m2 _ _ X2 (by simp [RD])⟩
      unfold PySem.W.kitAny
      rw [kit_ty (kit_sub t T)]
      cases isSub t T with
      | true => rfl
      | false =>
        unfold PySem.W.kitAny
        rw [kit_ty (kit_sub t U)]
        cases isSub t U <;> rfl
    · cases e2

/-! ### methods -/
def evM (k : O → Bool) (gg : Nat → List D → Sto → Res D) (fo : Ev) (fa : EvA) : Ev := fun ρ S => match fo ρ S with
  | .ok (.ref n) S1 => match S1.objs[n]? with
    | some ob => match k ob with
      | true => match fa ρ S1 with
        | .ok xs S2 => gg n xs S2
        | .bad => .bad
      | false => .bad
    | none => .bad
  | _ => .bad
def isLst : O → Bool
  | .lst _ => true
  | .frz _ => true
  | _ => false
def isDct : O → Bool
  | .dct _ => true
  | .dctT _ => true
  | _ => false
def rdM (gg : Nat → List D → Sto → Res D) : V → List V → Hp → VK → Prop := fun x xs H Q => ∃ m S n ds d S', Rel m S H ∧ RD m S.len H (.ref n) x ∧ RDs m S.len H ds xs ∧ gg n ds S = .ok d S' ∧ ∀ m' H' v, Ext m m' S S' H H' → RD m' S'.len H' d v → Q v H'
theorem evM_ok {k : O → Bool} {gm : Nat → List D → Sto → Res D} {ρ : En} {S S' : Sto} {d : D} (h : evM k gm fo g ρ S = .ok d S') : ∃ n S1 ob xs S2, fo ρ S = .ok (.ref n) S1 ∧ S1.objs[n]? = some ob ∧ k ob = true ∧ g ρ S1 = .ok xs S2 ∧ gm n xs S2 = .ok d S' := by
  unfold evM at h
  split at h
  · rename_i n S1 h1
    split at h
    · rename_i ob h2
      split at h
      · rename_i h3
        split at h
        · rename_i xs S2 h4
          exact ⟨n, S1, ob, xs, S2, h1, h2, h3, h4, h⟩
        · cases h
      · cases h
    · cases h
  · cases h
theorem rdM_seq {K : Frg} {k : O → Bool} {T : String} {gm : Nat → List D → Sto → Res D} {σ : L2.St} {H : Hp} {Q : VK} (hT : ∀ m S H n ob, Rel m S H → S.objs[n]? = some ob → k ob = true → tyV K T (.ref (m n)) H) (h : rdE (evM k gm fo g) σ H Q) :
    rdE fo σ H fun x H1 => tyV K T x H1 ∧ rdA g σ H1 fun xs H2 => rdM gm x xs H2 Q := by
  obtain ⟨m, S, ρ, d, S', R, E, e, q⟩ := h
  obtain ⟨n, S1, ob, xs, S2, h1, h2, h3, h4, h5⟩ := evM_ok e
  refine ⟨m, S, ρ, _, S1, R, E, h1, fun m1 H1 v1 X1 r1 => ⟨by rw [r1.2]; exact hT m1 S1 H1 n ob X1.rel h2 h3, ?_⟩⟩
  exact ⟨m1, S1, ρ, xs, S2, X1.rel, E.ext X1, h4, fun m2 H2 v2 X2 r2 => ⟨m2, S2, n, xs, d, S', X2.rel, RD.ext r1 X2, r2, h5, fun m3 H3 v3 X3 r3 => q m3 H3 v3 (X1.trans (X2.trans X3)) r3⟩⟩
theorem tyV_lst {K : Frg} (m : Nat → Addr) (S : Sto) (H : Hp) (n : Nat) (ob : O) (R : Rel m S H) (h : S.objs[n]? = some ob) (k : isLst ob = true) : tyV K "list" (.ref (m n)) H := by
  have q := R.obj n ob h
  cases ob with
  | lst xs => obtain ⟨vs, h1, _⟩ := q; exact .inl ⟨rfl, vs, .of h1⟩
  | frz xs => obtain ⟨vs, o, h1, _⟩ := q; exact .inl ⟨rfl, vs, .inl (.inr ⟨o, h1⟩)⟩
  | dct _ => cases k
  | dctT _ => cases k
  | set _ => cases k
theorem MtR.of {id : String} {r r' : V → List V → Hp → VK → Prop} (h : MtR X id r) (i : ∀ x xs H Q, r' x xs H Q → r x xs H Q) : MtR X id r' := fun pins s σ H x xs v us Q I rx rs q => h pins s σ H x xs v us Q I rx rs (i x xs H Q q)

/-! the operations -/
def appM (n : Nat) : List D → Sto → Res D
  | [d], S => match S.objs[n]? with
    | some (.lst xs) => match fits (xs.length + 1) with
      | true => .ok .non (S.put n (.lst (xs ++ [d])) (d.blw 0))
      | false => .bad
    | _ => .bad
  | _, _ => .bad
def popM (n : Nat) : List D → Sto → Res D
  | [], S => match S.objs[n]? with
    | some (.lst xs) => match xs[xs.length - 1]? with
      | some y => .ok y (S.put n (.lst xs.dropLast) true)
      | none => .bad
    | _ => .bad
  | [.int i], S => match S.objs[n]? with
    | some (.lst xs) => match decide (-(2 ^ 63) ≤ i) && decide (i < 2 ^ 63) with
      | true => match seqIndex? i xs.length with
        | some k => match xs[k]? with
          | some y => .ok y (S.put n (.lst (xs.eraseIdx k)) true)
          | none => .bad
        | none => .bad
      | false => .bad
    | _ => .bad
  | _, _ => .bad
theorem blws_append {k : Nat} : ∀ {xs ys : List D}, D.blws k (xs ++ ys) = (D.blws k xs && D.blws k ys)
  | [], ys => by simp [D.blws]
  | x :: xs, ys => by simp only [List.cons_append, D.blws, blws_append (xs := xs), Bool.and_assoc]
theorem blws_erase {k : Nat} : ∀ (xs : List D) (i : Nat), D.blws k xs = true → D.blws k (xs.eraseIdx i) = true
  | [], i, h => h
  | x :: xs, 0, h => by
    simp only [D.blws, Bool.and_eq_true] at h
    exact h.2
  | x :: xs, i + 1, h => by
    simp only [D.blws, Bool.and_eq_true, List.eraseIdx_cons_succ] at h ⊢
    exact ⟨h.1, blws_erase xs i h.2⟩
theorem RDs.erase {m : Nat → Addr} {k : Nat} {H : Hp} : ∀ {ds : List D} {vs : List V} (i : Nat), RDs m k H ds vs → RDs m k H (ds.eraseIdx i) (vs.eraseIdx i)
  | [], vs, i, h => by rw [show vs = [] from h]; rfl
  | d :: ds, vs, 0, h => by
    obtain ⟨v, r, rfl, h2, h3⟩ := h
    exact h3
  | d :: ds, vs, i + 1, h => by
    obtain ⟨v, r, rfl, h2, h3⟩ := h
    exact ⟨v, r.eraseIdx i, rfl, h2, h3.erase i⟩
theorem dropLast_erase {α : Type} : ∀ xs : List α, xs.dropLast = xs.eraseIdx (xs.length - 1)
  | [] => rfl
  | [x] => rfl
  | x :: y :: r => by
    have := dropLast_erase (y :: r)
    simp only [List.dropLast_cons₂, this, List.length_cons]
    rfl
/-- behind a list's change -/
theorem goPut {m : Nat → Addr} {S : Sto} {H : Hp} (R : Rel m S H) {n : Nat} {xs ys : List D} {vs ws : List V} {ok : Bool} (ho : S.objs[n]? = some (.lst xs)) (h1 : H (m n) = some (.lst vs)) (hy : RDs m S.len H ys ws) (hb : ok = true → ∀ b, D.blws b xs = true → D.blws b ys = true) :
    Ext m m S (S.put n (.lst ys) ok) H (upd H (m n) (.lst ws)) := by
  have kp : Keep H (upd H (m n) (.lst ws)) := ⟨fun a zs e => (by
      rw [upd_ne]
      · exact e
      · rintro rfl; rw [h1] at e; cases e), fun a o' u e => (by
      rw [upd_ne]
      · exact e
      · rintro rfl; rw [h1] at e; cases e)⟩
  exact Ext.put R ho h1 True.intro ⟨ws, upd_same, RDs.mono' (Nat.le_refl _) (fun _ _ => rfl) kp _ _ hy⟩ hb
theorem mtv_app : MtR X "list.append" (rdM appM) := MtR.of mt_append fun x xs H Q h => by
  obtain ⟨m, S, n, ds, d, S', R, r, rs, e, q⟩ := h
  unfold appM at e
  split at e
  · rename_i d0
    obtain ⟨v, rfl, hv⟩ := rs.one1
    split at e
    · rename_i ys ho
      split at e
      · rename_i hf
        cases e
        obtain ⟨vs, h1, h2⟩ := R.obj _ _ ho
        have X1 := goPut (ok := d0.blw 0) R ho h1 (h2.append (.one hv)) (fun z b hb => by rw [blws_append, hb]; simp only [D.blws, below_mono (Nat.zero_le b) _ z, Bool.and_self])
        refine ⟨m n, vs, v, r.2, rfl, h1, ?_, q m _ _ X1 rfl⟩
        have := fits_le hf
        rw [h2.length] at this
        omega
      · cases e
    · cases e
  · cases e
theorem mtv_pop : MtR X "list.pop" (rdM popM) := MtR.of (MtR.or mt_pop mt_popAt) fun x xs H Q h => by
  obtain ⟨m, S, n, ds, d, S', R, r, rs, e, q⟩ := h
  unfold popM at e
  split at e
  · split at e
    · rename_i ys ho
      split at e
      · rename_i y hy
        cases e
        obtain ⟨vs, h1, h2⟩ := R.obj _ _ ho
        have X1 := goPut (ok := true) R ho h1 (h2.erase (ys.length - 1)) (fun z b hb => blws_erase _ _ hb)
        rw [← dropLast_erase, h2.length, ← dropLast_erase] at X1
        rw [h2.length] at hy
        obtain ⟨w, hw, rw'⟩ := h2.get hy
        exact .inl ⟨m n, vs, w, r.2, rs, h1, hw, q m _ _ X1 (RD.ext rw' X1)⟩
      · cases e
    · cases e
  · rename_i i
    obtain ⟨v, rfl, hv⟩ := rs.one1
    split at e
    · rename_i ys ho
      split at e
      · rename_i hb
        split at e
        · rename_i k hk
          split at e
          · rename_i y hy
            cases e
            simp only [Bool.and_eq_true, decide_eq_true_eq] at hb
            obtain ⟨vs, h1, h2⟩ := R.obj _ _ ho
            have X1 := goPut (ok := true) R ho h1 (h2.erase k) (fun z b hb => blws_erase _ _ hb)
            obtain ⟨w, hw, rw'⟩ := h2.get hy
            exact .inr ⟨m n, vs, i, k, w, r.2, by rw [show v = _ from hv], h1, hb.1, hb.2, by rw [← h2.length]; exact hk, hw, q m _ _ X1 (RD.ext rw' X1)⟩
          · cases e
        · cases e
      · cases e
    · cases e
  · cases e
end
end Sw

/-! Eng7: statements. -/
namespace Sw
open PySem PySem.Spec PyProof.Rows L2

inductive SR where
  | nx (ρ : En) (S : Sto)
  | rt (d : D) (S : Sto)
  | bk (ρ : En) (S : Sto)
  | ct (ρ : En) (S : Sto)
  | bad
abbrev Sv := En → Sto → SR
def SPost (m : Nat → Addr) (S : Sto) (H : Hp) (D : Ends) : SR → Prop
  | .nx ρ' S' => ∀ m' H' σ', Ext m m' S S' H H' → REnv m' S'.len H' ρ' σ' → D.nx σ' H'
  | .rt d S' => ∀ m' H' v, Ext m m' S S' H H' → RD m' S'.len H' d v → D.rt v H'
  | .bk ρ' S' => ∀ m' H' σ', Ext m m' S S' H H' → REnv m' S'.len H' ρ' σ' → D.bk σ' H'
  | .ct ρ' S' => ∀ m' H' σ', Ext m m' S S' H H' → REnv m' S'.len H' ρ' σ' → D.ct σ' H'
  | .bad => False
theorem SPost.ext {m m1 : Nat → Addr} {S S1 : Sto} {H H1 : Hp} {D : Ends} (X1 : Ext m m1 S S1 H H1) : ∀ {r : SR}, SPost m S H D r → SPost m1 S1 H1 D r
  | .nx _ _, h => fun m' H' σ' X2 e => h m' H' σ' (X1.trans X2) e
  | .rt _ _, h => fun m' H' σ' X2 e => h m' H' σ' (X1.trans X2) e
  | .bk _ _, h => fun m' H' σ' X2 e => h m' H' σ' (X1.trans X2) e
  | .ct _ _, h => fun m' H' σ' X2 e => h m' H' σ' (X1.trans X2) e
  | .bad, h => h
def rdS (f : Sv) : TS := fun D σ H => ∃ m S ρ, Rel m S H ∧ REnv m S.len H ρ σ ∧ SPost m S H D (f ρ S)
section
variable {X : Cx} {st : Stmt} {rest : List Stmt} {f g : Sv} {e a b c : Expr} {fe fc : Ev} {pos : Pos}
theorem PS.of {t t' : TS} (h : PS X st t) (i : ∀ D σ H, t' D σ H → t D σ H) : PS X st t' := ⟨fun pins s σ H D I q => h.run pins s σ H D I (i D σ H q)⟩
theorem PSs.of {t t' : TS} (h : PSs X rest t) (i : ∀ D σ H, t' D σ H → t D σ H) : PSs X rest t' := ⟨fun pins s σ H D I q => h.run pins s σ H D I (i D σ H q)⟩
def svNext : Sv := fun ρ S => .nx ρ S
def svSeq (f g : Sv) : Sv := fun ρ S => match f ρ S with
  | .nx ρ1 S1 => g ρ1 S1
  | r => r
theorem psv_nil : PSs X [] (rdS svNext) := PSs.of pss_nil fun D σ H h => by
  obtain ⟨m, S, ρ, R, E, q⟩ := h
  exact q m H σ (Ext.refl R) E
theorem psv_cons (h1 : PS X st (rdS f)) (h2 : PSs X rest (rdS g)) : PSs X (st :: rest) (rdS (svSeq f g)) := PSs.of (pss_cons h1 h2) fun D σ H h => by
  obtain ⟨m, S, ρ, R, E, q⟩ := h
  refine ⟨m, S, ρ, R, E, ?_⟩
  unfold svSeq at q
  cases e : f ρ S with
  | nx ρ1 S1 =>
    rw [e] at q
    exact fun m1 H1 σ1 X1 E1 => ⟨m1, S1, ρ1, X1.rel, E1, SPost.ext X1 q⟩
  | rt d S1 => rw [e] at q; exact q
  | bk ρ1 S1 => rw [e] at q; exact q
  | ct ρ1 S1 => rw [e] at q; exact q
  | bad => rw [e] at q; exact q
theorem psv_pass : PS X (.Pass pos) (rdS svNext) := PS.of ps_pass fun D σ H h => by
  obtain ⟨m, S, ρ, R, E, q⟩ := h
  exact q m H σ (Ext.refl R) E
theorem psv_break : PS X (.Break pos) (rdS fun ρ S => .bk ρ S) := PS.of ps_break fun D σ H h => by
  obtain ⟨m, S, ρ, R, E, q⟩ := h
  exact q m H σ (Ext.refl R) E
theorem psv_cont : PS X (.Continue pos) (rdS fun ρ S => .ct ρ S) := PS.of ps_continue fun D σ H h => by
  obtain ⟨m, S, ρ, R, E, q⟩ := h
  exact q m H σ (Ext.refl R) E
/-- what cannot be taken -/
theorem psv_bad : PS X st (rdS fun _ _ => .bad) := PS.of ps_never fun D σ H h => by
  obtain ⟨m, S, ρ, R, E, q⟩ := h
  exact q
def svExpr (f : Ev) : Sv := fun ρ S => match f ρ S with
  | .ok _ S1 => .nx ρ S1
  | .bad => .bad
def svRet (f : Ev) : Sv := fun ρ S => match f ρ S with
  | .ok d S1 => .rt d S1
  | .bad => .bad
theorem psv_expr (he : PE X e (rdE fe)) (hs : swapsWith e none pos.line X.env = pure false) : PS X (.Expr e pos) (rdS (svExpr fe)) := PS.of (ps_expr he hs) fun D σ H h => by
  obtain ⟨m, S, ρ, R, E, q⟩ := h
  unfold svExpr at q
  cases h1 : fe ρ S with
  | bad => rw [h1] at q; exact q.elim
  | ok d S1 =>
    rw [h1] at q
    exact ⟨m, S, ρ, d, S1, R, E, h1, fun m1 H1 v1 X1 r1 => q m1 H1 σ X1 (E.ext X1)⟩
theorem psv_ret (he : PE X e (rdE fe)) : PS X (.Return (some e) pos) (rdS (svRet fe)) := PS.of (ps_ret he) fun D σ H h => by
  obtain ⟨m, S, ρ, R, E, q⟩ := h
  unfold svRet at q
  cases h1 : fe ρ S with
  | bad => rw [h1] at q; exact q.elim
  | ok d S1 =>
    rw [h1] at q
    exact ⟨m, S, ρ, d, S1, R, E, h1, fun m1 H1 v1 X1 r1 => q m1 H1 v1 X1 r1⟩
def svIf (c : Ev) (f g : Sv) : Sv := fun ρ S => match c ρ S with
  | .ok (.bl b) S1 => match b with
    | true => f ρ S1
    | false => g ρ S1
  | _ => .bad
theorem psv_if {A B : List Stmt} (hc : PT X c (rdT fc)) (ha : PSs X A (rdS f)) (hb : PSs X B (rdS g)) : PS X (.If c A B pos) (rdS (svIf fc f g)) := PS.of (ps_if hc ha hb) fun D σ H h => by
  obtain ⟨m, S, ρ, R, E, q⟩ := h
  unfold svIf at q
  split at q
  · rename_i bb S1 h1
    refine ⟨m, S, ρ, bb, S1, R, E, h1, fun m1 H1 X1 => ?_⟩
    cases bb with
    | true => exact ⟨m1, S1, ρ, X1.rel, E.ext X1, SPost.ext X1 q⟩
    | false => exact ⟨m1, S1, ρ, X1.rel, E.ext X1, SPost.ext X1 q⟩
  · exact q.elim

/-! ### targets -/
abbrev Gv := D → En → Sto → Res En
abbrev Gvs := List D → En → Sto → Res En
/-- only some slots are changed -/
structure Chg (vs : List Nat) (σ σ' : L2.St) : Prop where
  len : σ'.length = σ.length
  get : ∀ i, i ∉ vs → σ'[i]? = σ[i]?
theorem Chg.refl (vs : List Nat) (σ : L2.St) : Chg vs σ σ := ⟨rfl, fun _ _ => rfl⟩
theorem Chg.trans {vs : List Nat} {σ σ1 σ2 : L2.St} (a : Chg vs σ σ1) (b : Chg vs σ1 σ2) : Chg vs σ σ2 := ⟨b.len.trans a.len, fun i h => (b.get i h).trans (a.get i h)⟩
theorem Chg.set {vs : List Nat} {σ : L2.St} {i : Nat} (h : i ∈ vs) (o : Option V) : Chg vs σ (σ.set i o) := ⟨by simp, fun j hj => List.getElem?_set_ne (show i ≠ j from fun e => hj (by rw [← e]; exact h))⟩
def rdG (vs : List Nat) (g : Gv) : TG := fun v σ H Q => ∃ m S ρ d ρ' S', Rel m S H ∧ REnv m S.len H ρ σ ∧ RD m S.len H d v ∧ g d ρ S = .ok ρ' S' ∧ ∀ m' H' σ', Ext m m' S S' H H' → REnv m' S'.len H' ρ' σ' → Chg vs σ σ' → Q σ' H'
def rdGs (sl : List Nat) (g : Gvs) : TGs := fun vs σ H Q => ∃ m S ρ ds ρ' S', Rel m S H ∧ REnv m S.len H ρ σ ∧ RDs m S.len H ds vs ∧ g ds ρ S = .ok ρ' S' ∧ ∀ m' H' σ', Ext m m' S S' H H' → REnv m' S'.len H' ρ' σ' → Chg sl σ σ' → Q σ' H'
theorem PG.of {tg : Expr} {t t' : TG} (h : PG X tg t) (i : ∀ v σ H Q, t' v σ H Q → t v σ H Q) : PG X tg t' := ⟨fun pins s σ H v u Q I r q => h.run pins s σ H v u Q I r (i v σ H Q q)⟩
theorem PGs.of {ts : List Expr} {t t' : TGs} (h : PGs X ts t) (i : ∀ v σ H Q, t' v σ H Q → t v σ H Q) : PGs X ts t' := ⟨fun pins s σ H v u Q I r q => h.run pins s σ H v u Q I r (i v σ H Q q)⟩
def gvName (i : Nat) : Gv := fun d ρ S => .ok (ρ.set i (some d)) S
theorem REnv.set {m : Nat → Addr} {k : Nat} {H : Hp} {ρ : En} {σ : L2.St} {d : D} {v : V} (E : REnv m k H ρ σ) (i : Nat) (h : RD m k H d v) : REnv m k H (ρ.set i (some d)) (σ.set i (some v)) := by
  refine ⟨by simp [E.len], fun j d' e => ?_⟩
  by_cases hj : j = i
  · subst hj
    have hl : j < ρ.length := by
      have := (List.getElem?_eq_some_iff.mp e).1
      simpa using this
    rw [List.getElem?_set_self hl] at e
    cases e
    exact ⟨v, by rw [List.getElem?_set_self (by rw [← E.len]; exact hl)], h⟩
  · rw [List.getElem?_set_ne (Ne.symm hj)] at e
    obtain ⟨w, h1, h2⟩ := E.get j d' e
    exact ⟨w, by rw [List.getElem?_set_ne (Ne.symm hj)]; exact h1, h2⟩
theorem pgv_name {sl : List Nat} {i : Nat} {x : Str} (hsl : i ∈ sl) (hN : X.N.Nodup) (hi : X.N[i]? = some x) (hx : Loc X.env.scope x) (hf : X.fn x = true ∨ X.env.scope.names.lookup x = some .local) : PG X (.Name x pos) (rdG sl (gvName i)) := PG.of (pg_name hN hi hx hf) fun v σ H Q h => by
  obtain ⟨m, S, ρ, d, ρ', S', R, E, r, e, q⟩ := h
  cases e
  exact q m H _ (Ext.refl R) (E.set i r) (Chg.set hsl _)
def gvNil : Gvs := fun ds ρ S => match ds with
  | [] => .ok ρ S
  | _ => .bad
def gvCons (g : Gv) (gs : Gvs) : Gvs := fun ds ρ S => match ds with
  | d :: r => match g d ρ S with
    | .ok ρ1 S1 => gs r ρ1 S1
    | .bad => .bad
  | [] => .bad
theorem pgvs_nil {sl : List Nat} : PGs X [] (rdGs sl gvNil) := PGs.of pgs_nil fun v σ H Q h => by
  obtain ⟨m, S, ρ, d, ρ', S', R, E, r, e, q⟩ := h
  unfold gvNil at e
  split at e
  · cases e; exact ⟨r, q m H σ (Ext.refl R) E (Chg.refl _ _)⟩
  · cases e
theorem pgvs_cons {sl : List Nat} {es : List Expr} {gv : Gv} {gs : Gvs} (h1 : PG X e (rdG sl gv)) (h2 : PGs X es (rdGs sl gs)) (hs : (assignEach (e :: es) X.env).map (·.2) = assign e X.env :: (assignEach es X.env).map (·.2)) : PGs X (e :: es) (rdGs sl (gvCons gv gs)) := PGs.of (pgs_cons h1 h2 hs) fun v σ H Q h => by
  obtain ⟨m, S, ρ, ds, ρ', S', R, E, r, e, q⟩ := h
  unfold gvCons at e
  split at e
  · rename_i d ds
    obtain ⟨w, ws, rfl, r1, r2⟩ := r
    split at e
    · rename_i ρ1 S1 h1
      exact ⟨w, ws, rfl, m, S, ρ, d, ρ1, S1, R, E, r1, h1, fun m1 H1 σ1 X1 E1 C1 => ⟨m1, S1, ρ1, ds, ρ', S', X1.rel, E1, r2.ext X1, e, fun m2 H2 σ2 X2 E2 C2 => q m2 H2 σ2 (X1.trans X2) E2 (C1.trans C2)⟩⟩
    · cases e
  · cases e
def gvTup (n : Nat) (gs : Gvs) : Gv := fun d ρ S => match d with
  | .tup ds => match Nat.beq ds.length n with
    | true => gs ds ρ S
    | false => .bad
  | _ => .bad
theorem pgv_tup {sl : List Nat} {es : List Expr} {k n : Nat} {gs : Gvs} (hc : X.calm = true) (h : PGs X es (rdGs sl gs)) (hn : (assignEach es X.env).length = n) (hst : (assignEach es X.env).findIdx? (·.1) = none) : PG X (.Tuple es k pos) (rdG sl (gvTup n gs)) := PG.of (pg_tup hc h hn hst) fun v σ H Q h => by
  obtain ⟨m, S, ρ, d, ρ', S', R, E, r, e, q⟩ := h
  unfold gvTup at e
  split at e
  · rename_i ds
    obtain ⟨a, vs, rfl, ha, qs⟩ := r
    split at e
    · rename_i hl
      refine ⟨a, vs, rfl, .of ha, ?_, m, S, ρ, ds, ρ', S', R, E, qs, e, q⟩
      rw [← qs.length]
      exact Nat.eq_of_beq_eq_true hl
    · cases e
  · cases e
/-- target = value -/
def svAsg (f : Ev) (g : Gv) : Sv := fun ρ S => match f ρ S with
  | .ok d S1 => match g d ρ S1 with
    | .ok ρ1 S2 => .nx ρ1 S2
    | .bad => .bad
  | .bad => .bad
theorem rd_asg {sl : List Nat} {gv : Gv} {D : Ends} {σ : L2.St} {H : Hp} (h : rdS (svAsg fe gv) D σ H) : tAsg (rdE fe) (rdG sl gv) D σ H := by
  obtain ⟨m, S, ρ, R, E, q⟩ := h
  unfold svAsg at q
  cases h1 : fe ρ S with
  | bad => rw [h1] at q; exact q.elim
  | ok d S1 =>
    rw [h1] at q
    dsimp only at q
    refine ⟨m, S, ρ, d, S1, R, E, h1, fun m1 H1 v1 X1 r1 => ?_⟩
    cases h2 : gv d ρ S1 with
    | bad => rw [h2] at q; exact q.elim
    | ok ρ1 S2 =>
      rw [h2] at q
      exact ⟨m1, S1, ρ, d, ρ1, S2, X1.rel, E.ext X1, r1, h2, fun m2 H2 σ2 X2 E2 _ => q m2 H2 σ2 (X1.trans X2) E2⟩
theorem psv_asg {sl : List Nat} {tg : Expr} {gv : Gv} (he : PE X e (rdE fe)) (hg : PG X tg (rdG sl gv)) (hs : swapsWithSole [tg] e pos.line X.env = pure false) (hw : swappedStores [tg] e X.env = pure none) (h1 : (assignEach [tg] X.env).map (·.2) = [assign tg X.env]) : PS X (.Assign [tg] e pos) (rdS (svAsg fe gv)) :=
  PS.of (ps_asg he hg hs hw h1) fun _ _ _ h => rd_asg h
theorem psv_set {i : Nat} {x : Str} {pos' : Pos} (hN : X.N.Nodup) (hi : X.N[i]? = some x) (hx : Loc X.env.scope x) (he : PE X e (rdE fe)) (hs : swapsWith e (some (.Name x pos')) pos.line X.env = pure false) (hf : X.fn x = true ∨ X.env.scope.names.lookup x = some .local) :
    PS X (.Assign [.Name x pos'] e pos) (rdS (svAsg fe (gvName i))) := PS.of (ps_set hN hi hx he hs hf) fun D σ H h => by
  obtain ⟨m, S, ρ, d, S1, R, E, h1, q⟩ := rd_asg (sl := [i]) h
  refine ⟨m, S, ρ, d, S1, R, E, h1, fun m1 H1 v1 X1 r1 => ?_⟩
  obtain ⟨m2, S2, ρ2, d2, ρ', S', R2, E2, r2, e2, q2⟩ := q m1 H1 v1 X1 r1
  cases e2
  exact q2 m2 H1 _ (Ext.refl R2) (E2.set i r2) (Chg.set (List.mem_singleton.mpr rfl) _)
/-- a, b = x, y -/
theorem psv_par {i j : Nat} {x y : Str} {ga : EvA} {px py pt : Pos} {kt k2 : Nat} {pt2 : Pos} (hc : X.calm = true) (hN : X.N.Nodup) (hi : X.N[i]? = some x) (hj : X.N[j]? = some y) (hij : i ≠ j)
    (hx : X.env.scope.names.lookup x = some .local) (hy : X.env.scope.names.lookup y = some .local) (ha : PA X [a, b] (rdA ga))
    (hw : swappedStores [.Tuple [.Name x px, .Name y py] kt pt] (.Tuple [a, b] k2 pt2) X.env = pure (some [x, y])) :
    PS X (.Assign [.Tuple [.Name x px, .Name y py] kt pt] (.Tuple [a, b] k2 pt2) pos) (rdS (svAsg (evN tupN ga) (gvTup 2 (gvCons (gvName i) (gvCons (gvName j) gvNil))))) := PS.of (ps_par hc hN hi hj hij hx hy ha hw rfl) fun D σ H h => by
  obtain ⟨m, S, ρ, R, E, q⟩ := h
  unfold svAsg evN at q
  cases h1 : ga ρ S with
  | bad => rw [h1] at q; exact q.elim
  | ok ds S1 =>
    rw [h1] at q
    refine ⟨m, S, ρ, ds, S1, R, E, h1, fun m1 H1 v1 X1 r1 => ?_⟩
    dsimp only [tupN] at q
    split at q
    · rename_i d S2 h2
      split at h2
      · cases h2
        simp only [gvTup] at q
        split at q
        · rename_i ρ' S' h3
          split at h3
          · rename_i hl
            have hl := Nat.eq_of_beq_eq_true hl
            obtain ⟨d1, d2, rfl⟩ : ∃ d1 d2, ds = [d1, d2] := by
              match ds, hl with
              | [d1, d2], _ => exact ⟨d1, d2, rfl⟩
            obtain ⟨v, w, rfl, hv, hw⟩ := r1.two
            simp only [gvCons, gvName, gvNil] at h3
            cases h3
            exact ⟨v, w, rfl, q m1 H1 _ X1 (((E.ext X1).set i hv).set j hw)⟩
          · cases h3
        · exact q.elim
      · cases h2
    · exact q.elim
theorem psv_par3 {i j l : Nat} {x y z : Str} {ga : EvA} {px py pz pt : Pos} {kt k2 : Nat} {pt2 : Pos} (hc : X.calm = true) (hN : X.N.Nodup) (hi : X.N[i]? = some x) (hj : X.N[j]? = some y) (hl : X.N[l]? = some z) (hij : i ≠ j) (hil : i ≠ l) (hjl : j ≠ l)
    (hx : X.env.scope.names.lookup x = some .local) (hy : X.env.scope.names.lookup y = some .local) (hz : X.env.scope.names.lookup z = some .local) (ha : PA X [a, b, c] (rdA ga))
    (hw : swappedStores [.Tuple [.Name x px, .Name y py, .Name z pz] kt pt] (.Tuple [a, b, c] k2 pt2) X.env = pure (some [x, y, z])) :
    PS X (.Assign [.Tuple [.Name x px, .Name y py, .Name z pz] kt pt] (.Tuple [a, b, c] k2 pt2) pos) (rdS (svAsg (evN tupN ga) (gvTup 3 (gvCons (gvName i) (gvCons (gvName j) (gvCons (gvName l) gvNil)))))) := PS.of (ps_par3 hc hN hi hj hl hij hil hjl hx hy hz ha hw rfl) fun D σ H h => by
  obtain ⟨m, S, ρ, R, E, q⟩ := h
  unfold svAsg evN at q
  cases h1 : ga ρ S with
  | bad => rw [h1] at q; exact q.elim
  | ok ds S1 =>
    rw [h1] at q
    refine ⟨m, S, ρ, ds, S1, R, E, h1, fun m1 H1 v1 X1 r1 => ?_⟩
    dsimp only [tupN] at q
    split at q
    · rename_i d S2 h2
      split at h2
      · cases h2
        simp only [gvTup] at q
        split at q
        · rename_i ρ' S' h3
          split at h3
          · rename_i hl
            have hl := Nat.eq_of_beq_eq_true hl
            obtain ⟨d1, d2, d3, rfl⟩ : ∃ d1 d2 d3, ds = [d1, d2, d3] := by
              match ds, hl with
              | [d1, d2, d3], _ => exact ⟨d1, d2, d3, rfl⟩
            obtain ⟨u, ws, rfl, hu, hws⟩ := r1
            obtain ⟨v, w, rfl, hv, hw⟩ := hws.two
            simp only [gvCons, gvName, gvNil] at h3
            cases h3
            exact ⟨u, v, w, rfl, q m1 H1 _ X1 ((((E.ext X1).set i hu).set j hv).set l hw)⟩
          · cases h3
        · exact q.elim
      · cases h2
    · exact q.elim
end
end Sw

/-! Eng8a: enumerate over a tuple. -/
namespace PySem
open Sem (wp)
open AutoSeq1 (wpAny_loadPart')
set_option maxHeartbeats 1000000 in
theorem Sw_enumerate_newT (l : Addr) (items : Array Value) (n : Nat) (dct : Option Addr) (sl : Array (Option Value)) :
    Meets (Builtin.«enumerate.__new__» ⟨[.type "enumerate", .ref l], []⟩) (fun _ R s => s.heap.get? l = some { cls := .type "tuple", dict := dct, data := .seq items n, slots := sl } ∧
      R (.ok (.ret (.ref (s.heap.push { cls := .type "tuple_iterator", data := .fields #[.ref l, .int 0 0] }).objs.size)))
        { s with heap := (s.heap.push { cls := .type "tuple_iterator", data := .fields #[.ref l, .int 0 0] }).push { cls := .type "enumerate", data := .fields #[.none, .bool false, .ref s.heap.objs.size, rawInt 0, .none, .none] } }) :=
  .of_wp fun prog w A R s h => by
    obtain ⟨hp, g, d, tk, os⟩ := s; obtain ⟨hl, h⟩ := h
    have hsub := sub_enumerate
    have hL : Heap.IsTuple (Shared.heap ⟨hp, g, d, tk, os⟩) l items := ⟨_, hl, rfl, n, rfl⟩
    wp_walk using wpAny_loadPart' hl
    refine wpAny_stack_any fun st => wpAny_pure ?_
    split
    · rename_i c _ _ _ _ _
      cases (c == Value.type "enumerate")
      · wp_walk using wpAny_loadPart' hl, wpAny_pyIter_tuple hL
        exact ⟨_, rfl, h⟩
      · wp_walk using wpAny_loadPart' hl, wpAny_pyIter_tuple hL
        exact ⟨_, rfl, h⟩
    · wp_walk using wpAny_loadPart' hl, wpAny_pyIter_tuple hL
      exact ⟨_, rfl, h⟩
theorem Sw_enumerate_tuple {prog : Program} {w : World} {A : Around} {E : Value → Shared → Prop} {s : Shared} {l : Addr} {items : Array Value} {Q : Value → Shared → Prop} (hL : s.heap.IsTuple l items)
    (h : ∀ h', IsEnum h' (s.heap.objs.size + 1) s.heap.objs.size 0 .none → h'.IsTupleIter s.heap.objs.size l 0 → h'.objs.size = s.heap.objs.size + 2 →
      (∀ b o, s.heap.get? b = some o → h'.get? b = some o) → Q (.ref (s.heap.objs.size + 1)) { s with heap := h' }) :
    wpAny (model prog w) A (call (.type "enumerate") [.ref l]) Q E s := by
  obtain ⟨⟨c, dct, dt, sl⟩, hl, hc, n, hd⟩ := hL
  replace hc : c = .type "tuple" := hc
  replace hd : dt = .seq items n := hd
  subst hc hd
  refine callType_new F.called_enumerate (by decide) (F.typeCall_enumerate_1 _) (F.newCall_enumerate_1 _) (fun obj => F.args_object_init_2 obj _) F.entry_enumerate_new
    (Sw_enumerate_newT l items n dct sl) ⟨hl, ?_⟩
  have hz : (s.heap.push { cls := .type "tuple_iterator", data := .fields #[.ref l, .int 0 0] }).objs.size = s.heap.objs.size + 1 := Heap.size_push ..
  show _ ∧ _
  rw [hz]
  have he : IsEnum ((s.heap.push { cls := .type "tuple_iterator", data := .fields #[.ref l, .int 0 0] }).push { cls := .type "enumerate", data := .fields #[.none, .bool false, .ref s.heap.objs.size, rawInt 0, .none, .none] }) (s.heap.objs.size + 1) s.heap.objs.size 0 .none := by
    have := Heap.get?_push_size (s.heap.push { cls := .type "tuple_iterator", data := .fields #[.ref l, .int 0 0] }) (o := { cls := .type "enumerate", data := .fields #[.none, .bool false, .ref s.heap.objs.size, rawInt 0, .none, .none] }) rfl
    rw [hz] at this; exact this
  refine ⟨⟨_, he, rfl⟩, h _ he ⟨_, Heap.get?_push_of_some _ (Heap.get?_push_size _ rfl), rfl, rfl⟩ (by rw [Heap.size_push, hz]) fun b o x => Heap.get?_push_of_some _ (Heap.get?_push_of_some _ x)⟩
end PySem
namespace Sw
open PySem PySem.Spec PyProof.Rows L2
def IteT (K : PySem.W.Frag) (a : Addr) : It :=
  ⟨fun i H => ∃ (xs : List V) (x : V), H a = some (.tup xs) ∧ xs[i]? = some x, fun i H v H' => ∃ T x, v = .ref T ∧ H T = none ∧ H' = upd H T (.tup [.int (i : Nat), x]) ∧ ∀ xs, H a = some (.tup xs) → xs[i]? = some x, fun i H => ∃ xs : List V, H a = some (.tup xs) ∧ xs.length = i⟩
theorem turn_enumT {P : Program} {w : World} {K : PySem.W.Frag} {elts : List Expr} {kk : Nat} {tpos : Pos} (a e it : Addr) :
    Turn P w K (.Tuple elts kk tpos) (IteT K a) [e, it] e (fun i h => (∃ old, IsEnum h e it ((i : Nat) : Int) old) ∧ h.IsTupleIter it a i ∧ e ≠ it ∧ a ≠ it ∧ e ≠ a) where
  mem := by simp
  obj := fun i h st b hb => by
    obtain ⟨⟨old, he⟩, ⟨o, ho, hc, hd⟩, _⟩ := st
    have e' : b = e ∨ b = it := by simpa using hb
    rcases e' with z | z
    · rw [z]; exact ⟨_, he, fun v q => nomatch q⟩
    · rw [z]; exact ⟨o, ho, fun v q => by rw [hd] at q; cases q⟩
  keep := fun i h h' st k => let ⟨⟨old, he⟩, hi, hne⟩ := st; ⟨⟨old, k e (by simp) _ he⟩, hi.at fun o q => k it (by simp) o q, hne⟩
  item := by
    intro X hP hw hK hc i pins s σ H E I hf st hg
    subst hP hw hK
    obtain ⟨⟨old, he⟩, hit, hne, hai, hea⟩ := st
    obtain ⟨xs, x, hq, hx⟩ := hg
    obtain ⟨its, rv, p, hz⟩ := I.tuple (.of hq)
    obtain ⟨u, hu, ru⟩ := rv.get hx
    have hel : e < s.heap.objs.size := Heap.lt_size he
    have hil : it < s.heap.objs.size := by obtain ⟨_, q, _⟩ := hit; exact Heap.lt_size q
    have hlt : i < its.toArray.size := by
      have := (List.getElem?_eq_some_iff.mp hu).1
      simpa using this
    refine wpAny_pyNext_enum_itemD (Draws.tuple (A := X.A.in1) (show X.A.in1.handled = none from I.ok.hd hc) it a hai its.toArray) he ⟨hit, p⟩ hlt hne (by simp [hne, hea]) fun y h' tk hy ho hit' hT hsz hk => ?_
    have : y = u := by
      have e1 : its[i]? = some y := by simpa using hy
      rw [hu] at e1
      exact (Option.some.inj e1).symm
    subst this
    refine ⟨_, rfl, wpAny_letOwnedTupleGo_enum (s := { s with heap := h', toks := tk + 1 }) ho fun h'' he' sb => ?_⟩
    have hT2 : h''.get? s.heap.objs.size = some { cls := .type "tuple", data := .seq #[.int i tk, y] } := (sb.2 _ (Nat.ne_of_gt hel)).trans hT
    have new : ObjOk X.prog X.w (upd H s.heap.objs.size (.tup [.int (i : Nat), x])) h'' s.heap.objs.size (.tup [.int (i : Nat), x]) :=
      ⟨by show 2 ≤ sizeLine; decide, [.int i tk, y], .cons ⟨_, rfl⟩ (.cons ru .nil), ⟨_, hT2, rfl, _, rfl⟩⟩
    have I1 : Inv X pins σ (upd H s.heap.objs.size (.tup [.int (i : Nat), x])) { s with heap := h'', toks := tk + 1 } :=
      I.turnedNew (ch := [e, it]) (fun b ob hb q => (sb.2 b (fun z => hb (by simp [z]))).trans (hk b ob (fun z => hb (by simp [z])) (fun z => hb (by simp [z])) q)) hf (Nat.le_refl _) new
    refine ⟨.ref s.heap.objs.size, _, I1, rfl, ⟨_, x, rfl, I.hok.fresh (Nat.le_refl _), rfl, fun ys hy => by rw [hq] at hy; cases hy; exact hx⟩, ⟨⟨y, ?_⟩, hit'.1.at fun o q => (sb.2 it (Ne.symm hne)).trans q, hne, hai, hea⟩, fun b hb => ?_⟩
    · have e1 : ((i + 1 : Nat) : Int) = (i : Int) + 1 := by omega
      rw [e1]; exact he'
    · have hb' : b < s.heap.objs.size := by
        have e' : b = e ∨ b = it := by simpa using hb
        rcases e' with z | z
        · rw [z]; exact hel
        · rw [z]; exact hil
      rw [upd_ne (Nat.ne_of_lt hb')]
      exact (hf b hb).1
  done := by
    intro X hP hw hK hc i pins s σ H E I hf st hg
    subst hP hw hK
    obtain ⟨⟨old, he⟩, hit, hne, hai, hea⟩ := st
    obtain ⟨xs, hq, hx⟩ := hg
    obtain ⟨its, rv, p, hz⟩ := I.tuple (.of hq)
    obtain ⟨f0, f1, f2, f3, f4, f5⟩ := hf it (by simp)
    have hl : its.toArray.size = i := by
      have := rv.length
      simp
      omega
    subst hl
    exact wpAny_pyNext_enum_endD (Draws.tuple (A := X.A.in1) (show X.A.in1.handled = none from I.ok.hd hc) it a hai its.toArray) he ⟨hit, p⟩ fun h' eb => ⟨rfl, I.turned (t' := s.toks) (fun b o hb q => eb b o hb q) f0 f1 f3 f4 f5⟩
  self := fun A i s Q E st h => let ⟨⟨_, he⟩, _⟩ := st; wpAny_pyIter_enum he h
def iEnumT (K : PySem.W.Frag) (ta : TA) : TI := fun σ H R => ta σ H fun vs H1 => ∃ a xs, vs = [.ref a] ∧ H1 a = some (.tup xs) ∧ R (IteT K a) H1
theorem pi_enumT {X : Cx} {e : Expr} {ta : TA} {p pos tpos : Pos} {elts : List Expr} {kk : Nat} (hg : Gl X "enumerate") (hm : X.mg "enumerate" = none) (ha : PA X [e] ta) (hs : starEach [e] X.env = [(false, eval e X.env)]) :
    PI X (.Tuple elts kk tpos) (.Call (.Name "enumerate" p) [e] [] pos) (iEnumT X.K ta) := by
  refine ⟨fun pins s σ H R I h => ?_⟩
  refine Call_ (ld_blt I hg hm boot_enumerate (PyProof.Rows.callWith_type1 (thn (ha.run pos pins s σ H _ I h) fun us s1 ⟨vs, H1, I1, r1, q1⟩ => ?_) hs rfl))
  obtain ⟨a, xs, ex, hq, q⟩ := q1
  subst ex
  cases r1 with
  | cons r rr =>
    cases rr
    cases r
    obtain ⟨its, rv, p', hz⟩ := I1.tuple (.of hq)
    have hal : a < s1.heap.objs.size := I1.hok.lt hq
    refine Sw_enumerate_tuple (show s1.heap.IsTuple a its.toArray from p') fun h' he hit hsz hk => wpAny_pyIter_enum he ?_
    have I2 : Inv X pins σ H1 { s1 with heap := h' } := I1.kept (t' := s1.toks) hk
    refine ⟨s1.heap.objs.size + 1, [s1.heap.objs.size + 1, s1.heap.objs.size], _, _, H1, rfl, I2, turn_enumT a (s1.heap.objs.size + 1) s1.heap.objs.size, ⟨⟨.none, he⟩, hit, Nat.succ_ne_self _, Nat.ne_of_lt hal, fun z => absurd hal (by rw [← z]; exact Nat.not_lt_of_le (Nat.le_succ _))⟩, fun b hb => ?_, q⟩
    have e' : b = s1.heap.objs.size + 1 ∨ b = s1.heap.objs.size := by simpa using hb
    have hle : s1.heap.objs.size ≤ b := by
      rcases e' with z | z
      · rw [z]; exact Nat.le_add_right _ _
      · rw [z]; exact Nat.le_refl _
    exact I1.fpOk hle (I1.hok.fresh hle)
end Sw

/-! Eng9: loops. -/
namespace Sw
open PySem PySem.Spec PyProof.Rows L2

/-! ### while -/
def svWhile (c : Ev) (f : Sv) : Nat → Sv
  | 0, _, _ => .bad
  | n + 1, ρ, S => match c ρ S with
    | .ok (.bl b) S1 => match b with
      | true => match f ρ S1 with
        | .nx ρ1 S2 => svWhile c f n ρ1 S2
        | .ct ρ1 S2 => svWhile c f n ρ1 S2
        | .bk ρ1 S2 => .nx ρ1 S2
        | .rt d S2 => .rt d S2
        | .bad => .bad
      | false => .nx ρ S1
    | _ => .bad
section
variable {X : Cx} {st : Stmt} {f : Sv} {e c tg iter : Expr} {fc fe : Ev} {pos : Pos} {body : List Stmt}
theorem psv_while {n : Nat} (hp : PassesOwn (model X.prog X.w) X.A X.env X.xe) (hc : PT X c (rdT fc)) (hb : PSs X body (rdS f)) : PS X (.While c body [] pos) (rdS (svWhile fc f n)) := PS.of (ps_while hp hc hb) fun D σ H h => by
  obtain ⟨m, S, ρ, R, E, q⟩ := h
  refine ⟨fun k σ H => ∃ m S ρ, Rel m S H ∧ REnv m S.len H ρ σ ∧ SPost m S H D (svWhile fc f k ρ S), ⟨n, m, S, ρ, R, E, q⟩, ?_⟩
  rintro k σ H ⟨m, S, ρ, R, E, q⟩
  cases k with
  | zero => exact q.elim
  | succ k =>
    simp only [svWhile] at q
    split at q
    · rename_i b S1 h1
      refine ⟨m, S, ρ, b, S1, R, E, h1, fun m1 H1 X1 => ?_⟩
      cases b with
      | false =>
        rw [if_neg Bool.false_ne_true]
        exact q m1 H1 σ X1 (E.ext X1)
      | true =>
        rw [if_pos rfl]
        dsimp only at q
        refine ⟨fun σ H => ∃ m S ρ, Rel m S H ∧ REnv m S.len H ρ σ ∧ SPost m S H D (svWhile fc f k ρ S), fun σ' H' z => ⟨k, Nat.lt_succ_self k, z⟩, m1, S1, ρ, X1.rel, E.ext X1, ?_⟩
        cases h2 : f ρ S1 with
        | nx ρ1 S2 => rw [h2] at q; exact fun m2 H2 σ2 X2 E2 => ⟨m2, S2, ρ1, X2.rel, E2, SPost.ext (X1.trans X2) q⟩
        | ct ρ1 S2 => rw [h2] at q; exact fun m2 H2 σ2 X2 E2 => ⟨m2, S2, ρ1, X2.rel, E2, SPost.ext (X1.trans X2) q⟩
        | bk ρ1 S2 => rw [h2] at q; exact fun m2 H2 σ2 X2 E2 => q m2 H2 σ2 (X1.trans X2) E2
        | rt d S2 => rw [h2] at q; exact fun m2 H2 v2 X2 r2 => q m2 H2 v2 (X1.trans X2) r2
        | bad => rw [h2] at q; exact q
    · exact q.elim

/-! ### what is walked -/
inductive Src where
  | items (ds : List D)
  | live (n : Nat)
  | range (lo : Int) (n : Nat)
  | enumI (ds : List D)
  | enumL (n : Nat)
  | zipI (xs ys : List D)
  | zipL (n k : Nat)
/-- the item of a turn: none: it is no more known; some none: the end -/
def Src.next (S : Sto) (i : Nat) : Src → Option (Option D)
  | .items ds => some ds[i]?
  | .live n => match S.list? n with
    | some xs => some xs[i]?
    | none => none
  | .range lo n => match Nat.blt i n with
    | true => some (some (.int (lo + i)))
    | false => some none
  | .enumI ds => match ds[i]? with
    | some d => some (some (.tup [.int (i : Nat), d]))
    | none => match Nat.beq ds.length i with
      | true => some none
      | false => none
  | .enumL n => match S.list? n with
    | some xs => match xs[i]? with
      | some d => some (some (.tup [.int (i : Nat), d]))
      | none => some none
    | none => none
  | .zipI xs ys => match xs[i]?, ys[i]? with
    | some a, some b => some (some (.tup [a, b]))
    | _, _ => some none
  | .zipL n k => match S.list? n, S.list? k with
    | some xs, some ys => match xs[i]?, ys[i]? with
      | some a, some b => some (some (.tup [a, b]))
      | _, _ => some none
    | _, _ => none
/-- how many turns at most -/
def Src.turns (S : Sto) : Src → Nat
  | .items ds => ds.length
  | .live n => match S.list? n with
    | some xs => xs.length
    | none => 0
  | .range _ n => n
  | .enumI ds => ds.length
  | .enumL n => match S.list? n with
    | some xs => xs.length
    | none => 0
  | .zipI xs _ => xs.length
  | .zipL n _ => match S.list? n with
    | some xs => xs.length
    | none => 0
def ItOk (m0 : Nat → Addr) (S0 : Sto) (H0 : Hp) (src : Src) (J : It) : Prop := ∀ m S H i, Ext m0 m S0 S H0 H →
  (∀ d, src.next S i = some (some d) → J.go i H ∧ ∀ x H', J.yld i H x H' → Ext m m S S H H' ∧ RD m S.len H' d x) ∧ (src.next S i = some none → J.stop i H)
abbrev Iv := En → Sto → Res Src
def rdI (f : Iv) : TI := fun σ H R => ∃ m S ρ src S', Rel m S H ∧ REnv m S.len H ρ σ ∧ f ρ S = .ok src S' ∧ ∀ m' H' J, Ext m m' S S' H H' → ItOk m' S' H' src J → R J H'
theorem PI.of {wi wi' : TI} (h : PI X tg iter wi) (i : ∀ σ H R, wi' σ H R → wi σ H R) : PI X tg iter wi' := ⟨fun pins s σ H R I q => h.run pins s σ H R I (i σ H R q)⟩
theorem PI.or {w1 w2 : TI} (h1 : PI X tg iter w1) (h2 : PI X tg iter w2) : PI X tg iter (fun σ H R => w1 σ H R ∨ w2 σ H R) := ⟨fun pins s σ H R I q => q.elim (h1.run pins s σ H R I) (h2.run pins s σ H R I)⟩

def svFor (src : Src) (g : Gv) (f : Sv) : Nat → Nat → Sv
  | 0, _, _, _ => .bad
  | k + 1, i, ρ, S => match src.next S i with
    | some (some d) => match g d ρ S with
      | .ok ρ1 S1 => match f ρ1 S1 with
        | .nx ρ2 S2 => svFor src g f k (i + 1) ρ2 S2
        | .ct ρ2 S2 => svFor src g f k (i + 1) ρ2 S2
        | .bk ρ2 S2 => .nx ρ2 S2
        | .rt d S2 => .rt d S2
        | .bad => .bad
      | .bad => .bad
    | some none => .nx ρ S
    | none => .bad
def svForI (fi : Iv) (g : Gv) (f : Sv) : Sv := fun ρ S => match fi ρ S with
  | .ok src S1 => svFor src g f (src.turns S1 + 1) 0 ρ S1
  | .bad => .bad
theorem psv_for {sl : List Nat} {fi : Iv} {g : Gv} (hp : PassesOwn (model X.prog X.w) X.A X.env X.xe) (hc : X.calm = true) (hi : PI X tg iter (rdI fi)) (hg : PG X tg (rdG sl g)) (hb : PSs X body (rdS f)) (hs : ∀ x, foldedSetIterable iter X.env x = pure x) : PS X (.For tg iter body [] pos) (rdS (svForI fi g f)) := PS.of (ps_for hp hc hi hg hb hs) fun D σ H h => by
  obtain ⟨m, S, ρ, R, E, q⟩ := h
  unfold svForI at q
  cases h0 : fi ρ S with
  | bad => rw [h0] at q; exact q.elim
  | ok src S0 =>
    rw [h0] at q
    dsimp only at q
    refine ⟨m, S, ρ, src, S0, R, E, h0, fun m0 H0 J X0 OK => ?_⟩
    refine ⟨fun i k σ H => ∃ m S ρ, Ext m0 m S0 S H0 H ∧ REnv m S.len H ρ σ ∧ SPost m S H D (svFor src g f k i ρ S), ⟨_, m0, S0, ρ, Ext.refl X0.rel, E.ext X0, SPost.ext X0 q⟩, ?_⟩
    rintro i k σ H ⟨m, S, ρ, X1, E, q⟩
    cases k with
    | zero => exact q.elim
    | succ k =>
      simp only [svFor] at q
      obtain ⟨ok1, ok2⟩ := OK m S H i X1
      split at q
      · rename_i d hd
        obtain ⟨go, yl⟩ := ok1 d hd
        refine .inr ⟨go, fun σ H => ∃ m S ρ, Ext m0 m S0 S H0 H ∧ REnv m S.len H ρ σ ∧ SPost m S H D (svFor src g f k (i + 1) ρ S), fun σ' H' z => ⟨k, Nat.lt_succ_self k, z⟩, fun x H' y => ?_⟩
        obtain ⟨X2, rx⟩ := yl x H' y
        split at q
        · rename_i ρ1 S1 hg1
          refine ⟨m, S, ρ, d, ρ1, S1, X2.rel, E.ext X2, rx, hg1, fun m3 H3 σ3 X3 E3 _ => ⟨m3, S1, ρ1, X3.rel, E3, ?_⟩⟩
          have X23 := X2.trans X3
          cases h2 : f ρ1 S1 with
          | nx ρ2 S2 => rw [h2] at q; exact fun m4 H4 σ4 X4 E4 => ⟨m4, S2, ρ2, X1.trans (X23.trans X4), E4, SPost.ext (X23.trans X4) q⟩
          | ct ρ2 S2 => rw [h2] at q; exact fun m4 H4 σ4 X4 E4 => ⟨m4, S2, ρ2, X1.trans (X23.trans X4), E4, SPost.ext (X23.trans X4) q⟩
          | bk ρ2 S2 => rw [h2] at q; exact fun m4 H4 σ4 X4 E4 => q m4 H4 σ4 (X23.trans X4) E4
          | rt d S2 => rw [h2] at q; exact fun m4 H4 v4 X4 r4 => q m4 H4 v4 (X23.trans X4) r4
          | bad => rw [h2] at q; exact q
        · exact q.elim
      · rename_i hd
        exact .inl ⟨ok2 hd, q m H σ (Ext.refl X1.rel) E⟩
      · exact q.elim

/-! ### the walked things -/
def ivE (fe : Ev) : Iv := fun ρ S => match fe ρ S with
  | .ok (.tup ds) S1 => .ok (.items ds) S1
  | .ok (.ref n) S1 => match S1.list? n with
    | some _ => .ok (.live n) S1
    | none => .bad
  | _ => .bad
theorem live_sq {K : Frg} {m0 m : Nat → Addr} {S0 S : Sto} {H0 H : Hp} {n : Nat} {xs : List D} (X : Ext m0 m S0 S H0 H) (hn : n < S0.len) (h : S.list? n = some xs) : ∃ vs, SqL K H (m0 n) vs ∧ RDs m S.len H xs vs := by
  obtain ⟨vs, h1, h2, _⟩ := X.rel.sqL (K := K) h
  rw [X.ag n hn] at h1
  exact ⟨vs, h1, h2⟩
theorem itOk_live {K : Frg} {m0 : Nat → Addr} {S0 : Sto} {H0 : Hp} {n : Nat} (hn : n < S0.len) : ItOk m0 S0 H0 (.live n) (Itl K (m0 n)) := fun m S H i X1 => by
  refine ⟨fun d hd => ?_, fun hd => ?_⟩
  · simp only [Src.next] at hd
    split at hd
    · rename_i xs hl
      have hd : xs[i]? = some d := Option.some.inj hd
      obtain ⟨vs, h1, h2⟩ := live_sq (K := K) X1 hn hl
      obtain ⟨v, h3, h4⟩ := h2.get hd
      exact ⟨⟨vs, v, h1, h3⟩, fun x H' y => by
        obtain ⟨rfl, y⟩ := y
        have := y vs h1
        rw [h3] at this
        cases this
        exact ⟨Ext.refl X1.rel, h4⟩⟩
    · cases hd
  · simp only [Src.next] at hd
    split at hd
    · rename_i xs hl
      have hd : xs[i]? = none := Option.some.inj hd
      obtain ⟨vs, h1, h2⟩ := live_sq (K := K) X1 hn hl
      exact ⟨vs, h1, by rw [← h2.length]; exact List.getElem?_eq_none_iff.mp hd⟩
    · cases hd
theorem itOk_items {K : Frg} {m0 : Nat → Addr} {S0 : Sto} {H0 : Hp} {ds : List D} {a : Addr} {vs : List V} (ha : H0 a = some (.tup vs)) (hs : RDs m0 S0.len H0 ds vs) : ItOk m0 S0 H0 (.items ds) (Itt K a) := fun m S H i X1 => by
  have ha1 := X1.keep.tup _ _ ha
  have hs1 := hs.ext X1
  refine ⟨fun d hd => ?_, fun hd => ?_⟩
  · have hd : ds[i]? = some d := Option.some.inj hd
    obtain ⟨v, h3, h4⟩ := hs1.get hd
    exact ⟨⟨vs, v, .of ha1, h3⟩, fun x H' y => by
      obtain ⟨rfl, y⟩ := y
      have := y vs (.of ha1)
      rw [h3] at this
      cases this
      exact ⟨Ext.refl X1.rel, h4⟩⟩
  · have hd : ds[i]? = none := Option.some.inj hd
    exact ⟨vs, .of ha1, by rw [← hs1.length]; exact List.getElem?_eq_none_iff.mp hd⟩
theorem piv_e (he : PE X e (rdE fe)) : PI X tg e (rdI (ivE fe)) := PI.of (PI.or (pi_list he) (pi_tup he)) fun σ H Rr h => by
  obtain ⟨m, S, ρ, src, S', R, E, e0, q⟩ := h
  unfold ivE at e0
  split at e0
  · rename_i ds S1 h1
    cases e0
    exact .inr ⟨m, S, ρ, _, _, R, E, h1, fun m1 H1 v1 X1 r1 => by
      obtain ⟨a, vs, rfl, ha, qs⟩ := r1
      exact ⟨a, rfl, ⟨vs, .of ha⟩, q m1 H1 _ X1 (itOk_items ha qs)⟩⟩
  · rename_i n S1 h1
    split at e0
    · rename_i xs hl
      cases e0
      exact .inl ⟨m, S, ρ, _, _, R, E, h1, fun m1 H1 v1 X1 r1 => by
        obtain ⟨vs, h2, _⟩ := X1.rel.sqL (K := X.K) hl
        exact ⟨_, r1.2, ⟨vs, h2⟩, q m1 H1 _ X1 (itOk_live r1.1)⟩⟩
    · cases e0
  · cases e0
def okR (i : Int) : Bool := decide (-(2 ^ 62) ≤ i) && decide (i < 2 ^ 62)
def ivR1 (g : EvA) : Iv := fun ρ S => match g ρ S with
  | .ok [.int j] S1 => match okR j with
    | true => .ok (.range 0 j.toNat) S1
    | false => .bad
  | _ => .bad
def ivR2 (g : EvA) : Iv := fun ρ S => match g ρ S with
  | .ok [.int i, .int j] S1 => match okR i && okR j with
    | true => .ok (.range i (j - i).toNat) S1
    | false => .bad
  | _ => .bad
theorem itOk_range {m0 : Nat → Addr} {S0 : Sto} {H0 : Hp} {lo : Int} {n : Nat} : ItOk m0 S0 H0 (.range lo n) (Itr lo n) := fun m S H i X1 => by
  refine ⟨fun d hd => ?_, fun hd => ?_⟩
  · simp only [Src.next] at hd
    split at hd
    · rename_i h
      cases hd
      exact ⟨Nat.le_of_ble_eq_true h, fun x H' y => by
        obtain ⟨rfl, rfl⟩ := y
        exact ⟨Ext.refl X1.rel, rfl⟩⟩
    · cases hd
  · simp only [Src.next] at hd
    split at hd
    · cases hd
    · rename_i h
      show n ≤ i
      by_cases z : i < n
      · rw [show Nat.blt i n = true from Nat.ble_eq_true_of_le z] at h; cases h
      · omega
theorem okR_ok {i : Int} (h : okR i = true) : -(2 ^ 62) ≤ i ∧ i < 2 ^ 62 := by
  unfold okR at h
  simp only [Bool.and_eq_true, decide_eq_true_eq] at h
  exact h
theorem piv_range1 {a : Expr} {g : EvA} {p : Pos} (hg : Gl X "range") (hm : X.mg "range" = none) (ha : PA X [a] (rdA g)) (hs : starEach [a] X.env = [(false, eval a X.env)]) : PI X tg (.Call (.Name "range" p) [a] [] pos) (rdI (ivR1 g)) := PI.of (pi_range1 hg hm ha hs) fun σ H Rr h => by
  obtain ⟨m, S, ρ, src, S', R, E, e0, q⟩ := h
  unfold ivR1 at e0
  split at e0
  · rename_i j S1 h1
    split at e0
    · rename_i hj
      cases e0
      exact ⟨m, S, ρ, _, _, R, E, h1, fun m1 H1 v1 X1 r1 => by
        obtain ⟨v, rfl, hv⟩ := r1.one1
        exact ⟨j, by rw [show v = _ from hv], (okR_ok hj).1, (okR_ok hj).2, q m1 H1 _ X1 itOk_range⟩⟩
    · cases e0
  · cases e0
theorem piv_range2 {a b : Expr} {g : EvA} {p : Pos} (hg : Gl X "range") (hm : X.mg "range" = none) (ha : PA X [a, b] (rdA g)) (hs : starEach [a, b] X.env = [(false, eval a X.env), (false, eval b X.env)]) (hs2 : starEach [b] X.env = [(false, eval b X.env)]) : PI X tg (.Call (.Name "range" p) [a, b] [] pos) (rdI (ivR2 g)) := PI.of (pi_range2 hg hm ha hs hs2) fun σ H Rr h => by
  obtain ⟨m, S, ρ, src, S', R, E, e0, q⟩ := h
  unfold ivR2 at e0
  split at e0
  · rename_i i j S1 h1
    split at e0
    · rename_i hj
      cases e0
      obtain ⟨hj1, hj2⟩ := Bool.and_eq_true_iff.mp hj
      exact ⟨m, S, ρ, _, _, R, E, h1, fun m1 H1 v1 X1 r1 => by
        obtain ⟨v, w, rfl, hv, hw⟩ := r1.two
        exact ⟨i, j, by rw [show v = _ from hv, show w = _ from hw], ⟨(okR_ok hj1).1, (okR_ok hj1).2, (okR_ok hj2).1, (okR_ok hj2).2⟩, q m1 H1 _ X1 itOk_range⟩⟩
    · cases e0
  · cases e0
def ivEnum (g : EvA) : Iv := fun ρ S => match g ρ S with
  | .ok [.tup ds] S1 => .ok (.enumI ds) S1
  | .ok [.ref n] S1 => match S1.list? n with
    | some _ => .ok (.enumL n) S1
    | none => .bad
  | _ => .bad
theorem pairRD {m : Nat → Addr} {S : Sto} {H : Hp} (R : Rel m S H) {T : Addr} {d d' : D} {x y : V} (hT : H T = none) (h : RD m S.len H d x) (h' : RD m S.len H d' y) : Ext m m S S H (upd H T (.tup [x, y])) ∧ RD m S.len (upd H T (.tup [x, y])) (.tup [d, d']) (.ref T) :=
  ⟨Ext.tup R hT, RD.newTup R hT ⟨x, [y], rfl, h, y, [], rfl, h', rfl⟩⟩
theorem itOk_enumL {K : Frg} {m0 : Nat → Addr} {S0 : Sto} {H0 : Hp} {n : Nat} (hn : n < S0.len) : ItOk m0 S0 H0 (.enumL n) (Ite K (m0 n)) := fun m S H i X1 => by
  refine ⟨fun d hd => ?_, fun hd => ?_⟩
  · simp only [Src.next] at hd
    split at hd
    · rename_i xs hl
      split at hd
      · rename_i d0 h0
        cases hd
        obtain ⟨vs, h1, h2⟩ := live_sq (K := K) X1 hn hl
        obtain ⟨v, h3, h4⟩ := h2.get h0
        exact ⟨⟨vs, v, h1, h3⟩, fun x H' y => by
          obtain ⟨T, x0, rfl, hT, rfl, y⟩ := y
          have := y vs h1
          rw [h3] at this
          cases this
          exact pairRD X1.rel hT rfl h4⟩
      · cases hd
    · cases hd
  · simp only [Src.next] at hd
    split at hd
    · rename_i xs hl
      split at hd
      · cases hd
      · rename_i h0
        obtain ⟨vs, h1, h2⟩ := live_sq (K := K) X1 hn hl
        exact ⟨vs, h1, by rw [← h2.length]; exact List.getElem?_eq_none_iff.mp h0⟩
    · cases hd
theorem itOk_enumI {K : Frg} {m0 : Nat → Addr} {S0 : Sto} {H0 : Hp} {ds : List D} {a : Addr} {vs : List V} (ha : H0 a = some (.tup vs)) (hs : RDs m0 S0.len H0 ds vs) : ItOk m0 S0 H0 (.enumI ds) (IteT K a) := fun m S H i X1 => by
  have ha1 := X1.keep.tup _ _ ha
  have hs1 := hs.ext X1
  refine ⟨fun d hd => ?_, fun hd => ?_⟩
  · simp only [Src.next] at hd
    split at hd
    · rename_i d0 h0
      cases hd
      obtain ⟨v, h3, h4⟩ := hs1.get h0
      exact ⟨⟨vs, v, ha1, h3⟩, fun x H' y => by
        obtain ⟨T, x0, rfl, hT, rfl, y⟩ := y
        have := y vs ha1
        rw [h3] at this
        cases this
        exact pairRD X1.rel hT rfl h4⟩
    · split at hd
      · cases hd
      · cases hd
  · simp only [Src.next] at hd
    split at hd
    · cases hd
    · split at hd
      · rename_i hb
        exact ⟨vs, ha1, by rw [← hs1.length]; exact Nat.eq_of_beq_eq_true hb⟩
      · cases hd
theorem piv_enum {a : Expr} {g : EvA} {p tpos : Pos} {elts : List Expr} {kk : Nat} (hg : Gl X "enumerate") (hm : X.mg "enumerate" = none) (ha : PA X [a] (rdA g)) (hs : starEach [a] X.env = [(false, eval a X.env)]) : PI X (.Tuple elts kk tpos) (.Call (.Name "enumerate" p) [a] [] pos) (rdI (ivEnum g)) := PI.of (PI.or (pi_enum hg hm ha hs) (pi_enumT hg hm ha hs)) fun σ H Rr h => by
  obtain ⟨m, S, ρ, src, S', R, E, e0, q⟩ := h
  unfold ivEnum at e0
  split at e0
  · rename_i ds S1 h1
    cases e0
    exact .inr ⟨m, S, ρ, _, _, R, E, h1, fun m1 H1 v1 X1 r1 => by
      obtain ⟨v, rfl, a, vs, rfl, ha, qs⟩ := r1.one1
      exact ⟨a, vs, rfl, ha, q m1 H1 _ X1 (itOk_enumI ha qs)⟩⟩
  · rename_i n S1 h1
    split at e0
    · rename_i xs hl
      cases e0
      exact .inl ⟨m, S, ρ, _, _, R, E, h1, fun m1 H1 v1 X1 r1 => by
        obtain ⟨v, rfl, hn, rfl⟩ := r1.one1
        obtain ⟨vs, h2, _⟩ := X1.rel.sqL (K := X.K) hl
        exact ⟨_, vs, rfl, h2, q m1 H1 _ X1 (itOk_enumL hn)⟩⟩
    · cases e0
  · cases e0
def ivZip (g : EvA) : Iv := fun ρ S => match g ρ S with
  | .ok [.tup xs, .tup ys] S1 => .ok (.zipI xs ys) S1
  | .ok [.ref n, .ref k] S1 => match S1.list? n, S1.list? k with
    | some _, some _ => .ok (.zipL n k) S1
    | _, _ => .bad
  | _ => .bad
theorem itOk_zipL {K : Frg} {m0 : Nat → Addr} {S0 : Sto} {H0 : Hp} {n k : Nat} (hn : n < S0.len) (hk : k < S0.len) : ItOk m0 S0 H0 (.zipL n k) (Itz K (m0 n) (m0 k)) := fun m S H i X1 => by
  refine ⟨fun d hd => ?_, fun hd => ?_⟩
  · simp only [Src.next] at hd
    split at hd
    · rename_i xs ys hl hl'
      split at hd
      · rename_i a b h0 h0'
        cases hd
        obtain ⟨vs, h1, h2⟩ := live_sq (K := K) X1 hn hl
        obtain ⟨ws, g1, g2⟩ := live_sq (K := K) X1 hk hl'
        obtain ⟨v, h3, h4⟩ := h2.get h0
        obtain ⟨w, g3, g4⟩ := g2.get h0'
        exact ⟨⟨vs, ws, v, w, h1, g1, h3, g3⟩, fun x H' y => by
          obtain ⟨T, x0, y0, rfl, hT, rfl, y1, y2⟩ := y
          have := y1 vs h1
          rw [h3] at this
          cases this
          have := y2 ws g1
          rw [g3] at this
          cases this
          exact pairRD X1.rel hT h4 g4⟩
      · cases hd
    · cases hd
  · simp only [Src.next] at hd
    split at hd
    · rename_i xs ys hl hl'
      split at hd
      · cases hd
      · rename_i hno
        obtain ⟨vs, h1, h2⟩ := live_sq (K := K) X1 hn hl
        obtain ⟨ws, g1, g2⟩ := live_sq (K := K) X1 hk hl'
        refine ⟨vs, ws, h1, g1, ?_⟩
        rw [← h2.length, ← g2.length]
        by_cases z : i < xs.length
        · by_cases z' : i < ys.length
          · exact (hno _ _ (List.getElem?_eq_getElem z) (List.getElem?_eq_getElem z')).elim
          · exact .inr (by omega)
        · exact .inl (by omega)
    · cases hd
theorem itOk_zipI {K : Frg} {m0 : Nat → Addr} {S0 : Sto} {H0 : Hp} {xs ys : List D} {a b : Addr} {vs ws : List V} (ha : H0 a = some (.tup vs)) (hs : RDs m0 S0.len H0 xs vs) (hb : H0 b = some (.tup ws)) (hs' : RDs m0 S0.len H0 ys ws) : ItOk m0 S0 H0 (.zipI xs ys) (RZ.ItzT K a b) := fun m S H i X1 => by
  have ha1 := X1.keep.tup _ _ ha
  have hs1 := hs.ext X1
  have hb1 := X1.keep.tup _ _ hb
  have hs2 := hs'.ext X1
  refine ⟨fun d hd => ?_, fun hd => ?_⟩
  · simp only [Src.next] at hd
    split at hd
    · rename_i a0 b0 h0 h0'
      cases hd
      obtain ⟨v, h3, h4⟩ := hs1.get h0
      obtain ⟨w, g3, g4⟩ := hs2.get h0'
      exact ⟨⟨vs, ws, v, w, .of ha1, .of hb1, h3, g3⟩, fun x H' y => by
        obtain ⟨T, x0, y0, rfl, hT, rfl, y1, y2⟩ := y
        have := y1 vs (.of ha1)
        rw [h3] at this
        cases this
        have := y2 ws (.of hb1)
        rw [g3] at this
        cases this
        exact pairRD X1.rel hT h4 g4⟩
    · cases hd
  · simp only [Src.next] at hd
    split at hd
    · cases hd
    · rename_i hno
      refine ⟨vs, ws, .of ha1, .of hb1, ?_⟩
      rw [← hs1.length, ← hs2.length]
      by_cases z : i < xs.length
      · by_cases z' : i < ys.length
        · exact (hno _ _ (List.getElem?_eq_getElem z) (List.getElem?_eq_getElem z')).elim
        · exact .inr (by omega)
      · exact .inl (by omega)
theorem piv_zip {a b : Expr} {g : EvA} {p tpos : Pos} {elts : List Expr} {kk : Nat} (hg : Gl X "zip") (hm : X.mg "zip" = none) (ha : PA X [a, b] (rdA g)) (hs : starEach [a, b] X.env = [(false, eval a X.env), (false, eval b X.env)]) (hs2 : starEach [b] X.env = [(false, eval b X.env)]) : PI X (.Tuple elts kk tpos) (.Call (.Name "zip" p) [a, b] [] pos) (rdI (ivZip g)) := PI.of (RZ.pi_zipA hg hm ha (by rw [hs, hs2]) (by rw [hs2]; rfl)) fun σ H Rr h => by
  obtain ⟨m, S, ρ, src, S', R, E, e0, q⟩ := h
  unfold ivZip at e0
  split at e0
  · rename_i xs ys S1 h1
    cases e0
    exact ⟨m, S, ρ, _, _, R, E, h1, fun m1 H1 v1 X1 r1 => by
      obtain ⟨v, w, rfl, ⟨a, vs, rfl, ha, qs⟩, b, ws, rfl, hb, qs'⟩ := r1.two
      exact ⟨a, b, vs, ws, rfl, .inr ⟨.of ha, .of hb, q m1 H1 _ X1 (itOk_zipI ha qs hb qs')⟩⟩⟩
  · rename_i n k S1 h1
    split at e0
    · rename_i xs ys hl hl'
      cases e0
      exact ⟨m, S, ρ, _, _, R, E, h1, fun m1 H1 v1 X1 r1 => by
        obtain ⟨v, w, rfl, ⟨hn, rfl⟩, hk, rfl⟩ := r1.two
        obtain ⟨vs, h2, _⟩ := X1.rel.sqL (K := X.K) hl
        obtain ⟨ws, h3, _⟩ := X1.rel.sqL (K := X.K) hl'
        exact ⟨_, _, vs, ws, rfl, .inl ⟨h2, h3, q m1 H1 _ X1 (itOk_zipL hn hk)⟩⟩⟩
    · cases e0
  · cases e0
end
end Sw

/-! Eng10: list comprehensions. -/
namespace Sw
open PySem PySem.Spec PyProof.Rows L2
def wipeE (ρ : En) : List Nat → En
  | [] => ρ
  | v :: vs => (wipeE ρ vs).set v none
theorem wipeE_length (ρ : En) : ∀ vs : List Nat, (wipeE ρ vs).length = ρ.length
  | [] => rfl
  | v :: vs => by unfold wipeE; rw [List.length_set, wipeE_length ρ vs]
theorem wipeE_some {ρ : En} {i : Nat} {x : D} : ∀ {vs : List Nat}, (wipeE ρ vs)[i]? = some (some x) → ρ[i]? = some (some x) ∧ i ∉ vs
  | [], h => ⟨h, by simp⟩
  | v :: vs, h => by
    unfold wipeE at h
    by_cases hi : v = i
    · subst hi
      by_cases hv : v < (wipeE ρ vs).length
      · rw [List.getElem?_set_self hv] at h; cases h
      · rw [List.getElem?_eq_none (by simpa using hv)] at h; cases h
    · rw [List.getElem?_set_ne hi] at h
      obtain ⟨h1, h2⟩ := wipeE_some h
      exact ⟨h1, by simp only [List.mem_cons, not_or]; exact ⟨fun e => hi e.symm, h2⟩⟩
theorem wipe_get {σ : L2.St} : ∀ {vs : List Nat} {i : Nat}, (wipe σ vs)[i]? = if i ∈ vs then (if i < σ.length then some none else none) else σ[i]?
  | [], i => by simp [wipe]
  | v :: vs, i => by
    unfold wipe
    by_cases hi : v = i
    · subst hi
      by_cases hv : v < σ.length
      · rw [List.getElem?_set_self (by rw [wipe_length]; exact hv)]
        simp [hv]
      · rw [List.getElem?_eq_none (by simp [wipe_length]; omega)]
        simp [hv]
    · rw [List.getElem?_set_ne hi, wipe_get]
      have : (i ∈ v :: vs) ↔ i ∈ vs := by simp [Ne.symm hi]
      simp only [this]
theorem wipe_chg {vs : List Nat} {σ σ' : L2.St} (c : Chg vs (wipe σ vs) σ') : wipe σ' vs = wipe σ vs := by
  apply List.ext_getElem?
  intro i
  rw [wipe_get, wipe_get]
  have hl : σ'.length = σ.length := by rw [c.len, wipe_length]
  by_cases h : i ∈ vs
  · rw [if_pos h, if_pos h, hl]
  · rw [if_neg h, if_neg h, c.get i h, wipe_get, if_neg h]
theorem REnv.wipe {m : Nat → Addr} {k : Nat} {H : Hp} {ρ : En} {σ : L2.St} (E : REnv m k H ρ σ) (vs : List Nat) : REnv m k H (wipeE ρ vs) (L2.wipe σ vs) := by
  refine ⟨by rw [wipeE_length, wipe_length]; exact E.len, fun i d h => ?_⟩
  obtain ⟨h1, h2⟩ := wipeE_some h
  obtain ⟨v, h3, h4⟩ := E.get i d h1
  exact ⟨v, by rw [wipe_get, if_neg h2]; exact h3, h4⟩
/-- the turns of a comprehension whose list has the number n -/
def compL (src : Src) (n : Nat) (g : Gv) (ft fe : Ev) (ρ : En) : Nat → Nat → Sto → Res D
  | 0, _, _ => .bad
  | k + 1, i, S => match src.next S i with
    | some (some d) => match g d ρ S with
      | .ok ρ1 S1 => match ft ρ1 S1 with
        | .ok (.bl b) S2 => match b with
          | true => match fe ρ1 S2 with
            | .ok y S3 => match S3.objs[n]? with
              | some (.lst acc) => match fits (acc.length + 1) with
                | true => compL src n g ft fe ρ k (i + 1) (S3.put n (.lst (acc ++ [y])) (y.blw 0))
                | false => .bad
              | _ => .bad
            | .bad => .bad
          | false => compL src n g ft fe ρ k (i + 1) S2
        | _ => .bad
      | .bad => .bad
    | some none => .ok (.ref n) S
    | none => .bad
def evComp (fi : Iv) (vs : List Nat) (g : Gv) (ft fe : Ev) : Ev := fun ρ S => match fi ρ S with
  | .ok src S1 => compL src S1.len g ft fe (wipeE ρ vs) (src.turns S1 + 1) 0 (S1.add (.lst []))
  | .bad => .bad
section
variable {X : Cx}
theorem ptsv_nil : PTs X [] (rdT (evC (.bl true))) := ⟨fun pins s σ H Q I h => pts_nil.run pins s σ H Q I (rdT_C h)⟩
theorem ptsv_one {c : Expr} {fc : Ev} (h : PT X c (rdT fc)) : PTs X [c] (rdT fc) := pts_one h
theorem rd_comp {fi : Iv} {vs : List Nat} {g : Gv} {ft fe : Ev} {σ : L2.St} {H : Hp} {Q : VK} (h : rdE (evComp fi vs g ft fe) σ H Q) : tLc (rdI fi) (rdG vs g) (rdT ft) (rdE fe) vs σ H Q := by
  obtain ⟨m, S, ρ, d, S', R, E, e, q⟩ := h
  unfold evComp at e
  cases h0 : fi ρ S with
  | bad => rw [h0] at e; cases e
  | ok src S1 =>
    rw [h0] at e
    dsimp only at e
    refine ⟨m, S, ρ, src, S1, R, E, h0, fun m0 H0 J X0 OK L hL => ?_⟩
    have XA : Ext m0 (withAt m0 S1.len L) S1 (S1.add (.lst [])) H0 (upd H0 L (.lst [])) := Ext.add X0.rel hL ⟨[], upd_same, rfl⟩
    have hml : withAt m0 S1.len L S1.len = L := withAt_same ..
    have hln : S1.len < (S1.add (.lst [])).len := by rw [Sto.add_len]; exact Nat.lt_succ_self _
    generalize withAt m0 S1.len L = mA at XA hml
    generalize S1.add (.lst []) = SA at e XA hln
    generalize upd H0 L (.lst []) = HA at XA
    generalize S1.len = n at e hml hln
    refine ⟨fun i k H => ∃ m2 S2, Ext mA m2 SA S2 HA H ∧ ∃ d S', compL src n g ft fe (wipeE ρ vs) k i S2 = .ok d S' ∧ ∀ m' H' v, Ext m2 m' S2 S' H H' → RD m' S'.len H' d v → Q v H', ⟨_, mA, SA, Ext.refl XA.rel, d, S', e, fun m' H' v X' r' => q m' H' v (X0.trans (XA.trans X')) r'⟩, ?_⟩
    rintro i k H ⟨m2, S2, X2, d, S', e, q⟩
    have hm2 : m2 n = L := by rw [X2.ag n hln]; exact hml
    have X02 := X0.trans (XA.trans X2)
    have E2 := E.ext X02
    cases k with
    | zero => cases e
    | succ k =>
      simp only [compL] at e
      obtain ⟨ok1, ok2⟩ := OK m2 S2 H i (XA.trans X2)
      split at e
      · rename_i d0 hd
        obtain ⟨go, yl⟩ := ok1 d0 hd
        refine .inr ⟨go, fun H => ∃ m2 S2, Ext mA m2 SA S2 HA H ∧ ∃ d S', compL src n g ft fe (wipeE ρ vs) k (i + 1) S2 = .ok d S' ∧ ∀ m' H' v, Ext m2 m' S2 S' H H' → RD m' S'.len H' d v → Q v H', fun H' z => ⟨k, Nat.lt_succ_self k, z⟩, fun x H' y => ?_⟩
        obtain ⟨XY, rx⟩ := yl x H' y
        split at e
        · rename_i ρ1 S3 h3
          refine ⟨m2, S2, wipeE ρ vs, d0, ρ1, S3, XY.rel, (E2.ext XY).wipe vs, rx, h3, fun m3 H3 σ3 X3 E3 C3 => ⟨wipe_chg C3, ?_⟩⟩
          split at e
          · rename_i b S4 h4
            refine ⟨m3, S3, ρ1, b, S4, X3.rel, E3, h4, fun m4 H4 X4 => ?_⟩
            have X24 := XY.trans (X3.trans X4)
            cases b with
            | false =>
              dsimp only
              rw [if_neg Bool.false_ne_true]
              exact ⟨m4, S4, X2.trans X24, d, S', e, fun m' H' v X' r' => q m' H' v (X24.trans X') r'⟩
            | true =>
              dsimp only at e ⊢
              rw [if_pos rfl]
              split at e
              · rename_i y0 S5 h5
                refine ⟨m4, S4, ρ1, y0, S5, X4.rel, E3.ext X4, h5, fun m5 H5 v5 X5 r5 => ?_⟩
                split at e
                · rename_i acc ha
                  split at e
                  · rename_i hf
                    have X25 := X24.trans X5
                    have hm5 : m5 n = L := by rw [X25.ag n (Nat.lt_of_lt_of_le hln X2.len)]; exact hm2
                    obtain ⟨ws, hw1, hw2⟩ := X5.rel.obj _ _ ha
                    have X6 := goPut (ok := y0.blw 0) X5.rel ha hw1 (hw2.append (.one r5)) (fun z b hb => by rw [blws_append, hb]; simp only [D.blws, below_mono (Nat.zero_le b) _ z, Bool.and_self])
                    rw [hm5] at hw1 X6
                    refine ⟨ws, hw1, ?_, m5, _, X2.trans (X25.trans X6), d, S', e, fun m' H' v X' r' => q m' H' v (X25.trans (X6.trans X')) r'⟩
                    have := fits_le hf
                    rw [hw2.length] at this
                    omega
                  · cases e
                · cases e
              · cases e
          · cases e
        · cases e
      · rename_i hd
        cases e
        exact .inl ⟨ok2 hd, q m2 H _ (Ext.refl X2.rel) ⟨Nat.lt_of_lt_of_le hln X2.len, by rw [hm2]⟩⟩
      · cases e
variable {elt tg iter : Expr} {ifs : List Expr} {scope : Scope} {own : List (Str × Nat)} {pos : Pos} {fi : Iv} {g : Gv} {ft fe : Ev}
theorem pev_comp (hc : X.calm = true) (hN : X.N.Nodup) (hi : PI X tg iter (rdI fi)) (ok : BlkOk X.N X.env.scope scope own)
    (hg : ∀ (s : Shared) (H : Hp) (C : Addr) (cl : List (Str × Addr)) (fp : List Addr), PG (X.blk s H scope (compEnvC scope cl C X.env) fp) tg (rdG (own.map (·.2)) g)) (ht : ∀ (s : Shared) (H : Hp) (C : Addr) (cl : List (Str × Addr)) (fp : List Addr), PTs (X.blk s H scope (compEnvC scope cl C X.env) fp) ifs (rdT ft))
    (he : ∀ (s : Shared) (H : Hp) (C : Addr) (cl : List (Str × Addr)) (fp : List Addr), PE (X.blk s H scope (compEnvC scope cl C X.env) fp) elt (rdE fe)) (hs : ∀ x, foldedSetIterable iter X.env x = pure x) :
    PE X (.ListComp elt [⟨tg, iter, ifs, 0⟩] scope pos) (rdE (evComp fi (own.map (·.2)) g ft fe)) := PE.of (pe_lc hc hN hi ok hg ht he hs) fun _ _ _ h => rd_comp h
theorem psv_setComp {i : Nat} {y : Str} {py spos : Pos} (hc : X.calm = true) (hN : X.N.Nodup) (hy : X.N[i]? = some y) (hyl : X.env.scope.names.lookup y = some .local)
    (hsw : swapsWith (.ListComp elt [⟨tg, iter, ifs, 0⟩] scope pos) (some (.Name y py)) spos.line X.env = pure true) (hi : PI X tg iter (rdI fi)) (ok : BlkOk X.N X.env.scope scope own)
    (hg : ∀ (s : Shared) (H : Hp) (C : Addr) (cl : List (Str × Addr)) (fp : List Addr), PG (X.blk s H scope (compEnvC scope cl C X.env) fp) tg (rdG (own.map (·.2)) g)) (ht : ∀ (s : Shared) (H : Hp) (C : Addr) (cl : List (Str × Addr)) (fp : List Addr), PTs (X.blk s H scope (compEnvC scope cl C X.env) fp) ifs (rdT ft))
    (he : ∀ (s : Shared) (H : Hp) (C : Addr) (cl : List (Str × Addr)) (fp : List Addr), PE (X.blk s H scope (compEnvC scope cl C X.env) fp) elt (rdE fe)) (hs : ∀ x, foldedSetIterable iter X.env x = pure x) :
    PS X (.Assign [.Name y py] (.ListComp elt [⟨tg, iter, ifs, 0⟩] scope pos) spos) (rdS (svAsg (evComp fi (own.map (·.2)) g ft fe) (gvName i))) := PS.of (ps_setLc hc hN hy hyl hsw hi ok hg ht he hs) fun D σ H h => by
  obtain ⟨m, S, ρ, d, S1, R, E, h1, q⟩ := rd_asg (sl := [i]) h
  have h2 : rdE (evComp fi (own.map (·.2)) g ft fe) σ H (fun x H1 => gName i x σ H1 D.nx) := ⟨m, S, ρ, d, S1, R, E, h1, fun m1 H1 v1 X1 r1 => by
    obtain ⟨m2, S2, ρ2, d2, ρ', S', R2, E2, r2, e2, q2⟩ := q m1 H1 v1 X1 r1
    cases e2
    exact q2 m2 H1 _ (Ext.refl R2) (E2.set i r2) (Chg.set (List.mem_singleton.mpr rfl) _)⟩
  exact rd_comp h2
end
end Sw

/-! Eng10b: promises of defs that are called where no repr is under way (guards). -/
namespace Sw
open PySem PySem.Spec PyProof.Rows L2
abbrev NoG (A : Around) : Prop := A.guards = some []
theorem nog_deeper {A : Around} (h : NoG A) (env : Env) : NoG (A.deeper env) := h
structure FnG (P : Program) (w : World) (K : Frg) (mg : Str → Option Value) (base : Heap) (k : Nat) (f : Addr) (fd : FuncData) (ps : List Str) (sp : Sp) : Prop where
  len : ∀ vs H Q E, sp vs H Q E → vs.length = ps.length
  run : ∀ (A : Around) (outer : List Env) (s : Shared) (H : Hp) (args : Args) (us : List Value) (vs : List V) (Q : VK) (E : XK), Room k A → NoG A → Env0 P w K mg base A outer s H → BindsTo s fd args (ps.zip us) → Vals vs us → sp vs H Q E →
    codeAny (model P w) A (.call (.ref f) args) (CR CX0 outer P w H s Q E) s
theorem FnG.mono {P : Program} {w : World} {K : Frg} {mg : Str → Option Value} {base : Heap} {j k : Nat} {f : Addr} {fd : FuncData} {ps : List Str} {sp : Sp} (F : FnG P w K mg base j f fd ps sp) (h : j ≤ k) : FnG P w K mg base k f fd ps sp :=
  ⟨F.len, fun A outer s H args us vs Q E hr => F.run A outer s H args us vs Q E (hr.mono h)⟩
theorem FnG.imp {P : Program} {w : World} {K : Frg} {mg : Str → Option Value} {base : Heap} {k : Nat} {f : Addr} {fd : FuncData} {ps : List Str} {sp sp' : Sp} (F : FnG P w K mg base k f fd ps sp) (h : ∀ vs H Q E, sp' vs H Q E → sp vs H Q E) : FnG P w K mg base k f fd ps sp' :=
  ⟨fun vs H Q E q => F.len vs H Q E (h _ _ _ _ q), fun A outer s H args us vs Q E hr hg he hb hv hs => F.run A outer s H args us vs Q E hr hg he hb hv (h _ _ _ _ hs)⟩
theorem fnG_of {P : Program} {w : World} {K : Frg} {mg : Str → Option Value} {base : Heap} {k : Nat} {f : Addr} {x : Str} {params : Arguments} {body : List Stmt} {scope : Scope} {fd : FuncData} {N ps : List Str} {sp : Sp} (F : FunD K x x params body scope [] [] f fd) (S : FnScope N ps scope)
    (len : ∀ vs H Q E, sp vs H Q E → vs.length = ps.length)
    (hbody : ∀ (cdv : Value) (A : Around) (outer : List Env) (s : Shared) (H : Hp) (vs : List V) (Q : VK) (E : XK), Room k (A.deeper (envOfC x scope s.heap.objs.size f cdv)) → NoG (A.deeper (envOfC x scope s.heap.objs.size f cdv)) → sp vs H Q E →
      ∃ t, PSs (cxOf CX0 P w K mg base N x scope f cdv A outer s H E) body t ∧ t { nx := fun _ H' => Q .non H', rt := Q } (L2.start N vs) H) : FnG P w K mg base (k + 1) f fd ps sp := by
  obtain ⟨oc, od, dV, kV, doc, pm, an, cdv, ct, osl, rfl, lk, hcd, _, _⟩ := F.ex
  refine ⟨len, fun A outer s H args us vs Q E hr hg e0 hb r hsp => ?_⟩
  have l0 := len _ _ _ _ hsp
  have kin : K.In s.heap := e0.mod.kin.keeps fun b o z => (e0.bs b o z).1
  have nolim : s.heap.NoLimit := e0.mod.nolimit.keeps fun b o z => (e0.bs b o z).1
  have kinds : ∀ y ∈ ps.zip us, scope.names.lookup y.1 = some .local ∨ (scope.names.lookup y.1 = some .cell ∧ ((cellsFrom (s.heap.objs.size + 1) scope.names []).lookup y.1).isSome = true) := fun ⟨n, v⟩ hy =>
    (S.par n (List.of_mem_zip hy).1).elim .inl fun z => .inr ⟨z, PySem.W.cellsFrom_some _ _ _ (.inl z)⟩
  refine codeAny_call_function hr.depth (kin _ _ lk) rfl S.co S.gen rfl (PySem.W.codeRec_of kin hcd) (hb _ _ _ _ ?_)
  refine wpAny_newFunctionEnv_cells S.kind kinds fun env he s1 z => ?_
  subst he
  refine ⟨nolim.keeps z.toInCall.keep, codeAny_func ?_⟩
  obtain ⟨t, ht, hq⟩ := hbody cdv A outer s H vs Q E (hr.deeper _) (nog_deeper hg _) hsp
  have I : Inv (cxOf CX0 P w K mg base N x scope f cdv A outer s H E) [] (L2.start N vs) H s1 := inv_start S hr.hd e0 l0 r z
  refine wpAny_mono (ht.run [] s1 (L2.start N vs) H _ I hq) (fun fl s' hs => ?_) fun e s' hs => hs
  cases fl with
  | ret u =>
    obtain ⟨v, σ', H', J, rv, q⟩ := hs
    exact ⟨v, H', J.os, J.bare, J.base, J.hok, rv, q⟩
  | next =>
    obtain ⟨σ', H', J, q⟩ := hs
    exact ⟨.non, H', J.os, J.bare, J.base, J.hok, rfl, q⟩
  | brk =>
    obtain ⟨σ', H', J, q⟩ := hs
    exact False.elim q
  | cont =>
    obtain ⟨σ', H', J, q⟩ := hs
    exact False.elim q
section
variable {X : Cx} {k : Nat} {f : Addr} {fd : FuncData} {ps : List Str} {sp : Sp} {x : Str} {p pos : Pos} {e : Expr} {es : List Expr} {t : TA}
theorem run_G {pins : List (Addr × Obj)} {σ : L2.St} {H : Hp} {s : Shared} {Q : VK} {us : List Value} {vs : List V} (F : FnG X.prog X.w X.K X.mg X.base k f fd ps sp) (hr : Room k X.A) (hn : NoG X.A) (hb : Binds X.K fd ps [])
    (I : Inv X pins σ H s) (r : Vals vs us) (h : sp vs H Q E0) : wpAny (model X.prog X.w) X.A (call (.ref f) us) (EP X pins σ Q) X.xe s := by
  have hl : us.length = ps.length := by rw [← r.length]; exact F.len _ _ _ _ h
  have bt := hb s us I.kIn (by simpa using hl)
  rw [List.append_nil] at bt
  refine wpAny_call (codeAny_mono (F.run X.A X.stack s H ⟨us, []⟩ us vs Q E0 hr hn I.env0 bt r h) fun res s' hq => ?_)
  cases res with
  | error e => exact (show False from hq).elim
  | ok fl => cases fl with
    | ret u => exact I.after hq
    | next => exact (show False from hq).elim
    | brk => exact (show False from hq).elim
    | cont => exact (show False from hq).elim
theorem pe_callG (F : FnG X.prog X.w X.K X.mg X.base k f fd ps sp) (hr : Room k X.A) (hn : NoG X.A) (hg : Gl X x) (hm : X.mg x = some (.ref f)) (hk : PySem.W.keepIn X.K (.ref f) = true) (hb : Binds X.K fd ps [])
    (ha : PA X (e :: es) t) (hdb : (x == ("__debug__" : Str)) = false) (he : starEach (e :: es) X.env = (false, eval e X.env) :: starEach es X.env) (hpl : (backTo pos (starEach es X.env)).any (·.1) = false) :
    PE X (.Call (.Name x p) (e :: es) [] pos) (fun σ H Q => t σ H fun vs H1 => sp vs H1 Q E0) := ⟨fun pins s σ H Q I h =>
  wpAny_Call_Name_kw (ld_glob I hg hm (PySem.W.callWith_K (h₀ := X.base) I.ok.mod.kin hk (thn (ha.run pos pins s σ H _ I h) fun us s1 ⟨vs, H1, I1, r, q⟩ => ⟨I1.kIn, run_G F hr hn hb I1 r q⟩) he hpl) hdb)⟩
theorem pe_callG0 (F : FnG X.prog X.w X.K X.mg X.base k f fd ps sp) (hr : Room k X.A) (hn : NoG X.A) (hg : Gl X x) (hm : X.mg x = some (.ref f)) (hk : PySem.W.keepIn X.K (.ref f) = true) (hb : Binds X.K fd ps [])
    (hdb : (x == ("__debug__" : Str)) = false) : PE X (.Call (.Name x p) [] [] pos) (fun σ H Q => sp [] H Q E0) := ⟨fun pins s σ H Q I h =>
  wpAny_Call_Name_kw (ld_glob I hg hm (PySem.W.callWith_K0 I.kIn hk (run_G (us := []) F hr hn hb I .nil h)) hdb)⟩
end
end Sw

/-! Eng11: calls of defs. -/
namespace Sw
open PySem PySem.Spec PyProof.Rows L2
section
variable {m : Nat → Addr} {H : Hp}
mutual
theorem RD.cut {k k' : Nat} : ∀ (d : D) (v : V), RD m k H d v → d.blw k' = true → RD m k' H d v
  | .non, _, h, _ => h
  | .bl _, _, h, _ => h
  | .int _, _, h, _ => h
  | .str _, _, h, _ => h
  | .tup ds, v, h, b => by
    obtain ⟨a, vs, h1, h2, h3⟩ := h
    simp only [D.blw] at b
    exact ⟨a, vs, h1, h2, RDs.cutk ds vs h3 b⟩
  | .ref n, v, h, b => by
    simp only [D.blw] at b
    exact ⟨Nat.le_of_ble_eq_true b, h.2⟩
theorem RDs.cutk {k k' : Nat} : ∀ (ds : List D) (vs : List V), RDs m k H ds vs → D.blws k' ds = true → RDs m k' H ds vs
  | [], _, h, _ => h
  | d :: ds, vs, h, b => by
    obtain ⟨v, r, h1, h2, h3⟩ := h
    simp only [D.blws, Bool.and_eq_true] at b
    exact ⟨v, r, h1, RD.cut d v h2 b.1, RDs.cutk ds r h3 b.2⟩
end
theorem RKv.cutk {κ : Type} {kd : κ → D} {k k' : Nat} : ∀ (kvs : List (D × D)) (ps : List (κ × V)), RKv m k H kd kvs ps → pairsBelow k' kvs = true → RKv m k' H kd kvs ps
  | [], _, h, _ => h
  | (a, d) :: r, ps, h, b => by
    obtain ⟨q, v, ps', h1, h2, h3, h4⟩ := h
    simp only [pairsBelow, Bool.and_eq_true] at b
    exact ⟨q, v, ps', h1, h2, RD.cut d v h3 b.1.2, RKv.cutk r ps' h4 b.2⟩
theorem OOk.cutk {k k' : Nat} {a : Addr} {o : O} (h : OOk m k H a o) (b : o.blw k' = true) : OOk m k' H a o := by
  cases o with
  | lst xs => obtain ⟨vs, h1, h2⟩ := h; exact ⟨vs, h1, RDs.cutk _ _ h2 b⟩
  | frz xs => obtain ⟨vs, o, h1, h2⟩ := h; exact ⟨vs, o, h1, RDs.cutk _ _ h2 b⟩
  | dct kvs => obtain ⟨vs, h1, h2⟩ := h; exact ⟨vs, h1, RKv.cutk _ _ h2 b⟩
  | dctT kvs => obtain ⟨vs, h1, h2⟩ := h; exact ⟨vs, h1, RKv.cutk _ _ h2 b⟩
  | set xs => exact h
end
abbrev Fn := List D → Sto → Res D
/-- the state at a def's entry -/
def Sto.enter (S : Sto) : Sto := ⟨S.objs, S.len :: S.bs, S.dirty⟩
/-- behind a def's end: what it made and nobody can reach is forgotten -/
def ret (S : Sto) (d : D) (S' : Sto) : Res D := match S'.dirty with
  | true => .ok d ⟨S'.objs, S.bs, true⟩
  | false => match d.blw S.len with
    | true => .ok d ⟨S'.objs.take S.len, S.bs, false⟩
    | false => match d with
      | .ref n => match S'.objs[n]? with
        | some o => match o.blw S.len with
          | true => .ok (.ref S.len) ⟨S'.objs.take S.len ++ [o], S.bs, false⟩
          | false => .ok d ⟨S'.objs, S.bs, false⟩
        | none => .bad
      | d => .ok d ⟨S'.objs, S.bs, false⟩
theorem Rel.enter {m : Nat → Addr} {S : Sto} {H : Hp} (R : Rel m S H) : Rel m S.enter H := by
  refine ⟨R.obj, R.inj, fun hd b hb n o hn e => ?_, fun b hb => ?_, fun b hb => ?_⟩
  · rcases List.mem_cons.mp hb with rfl | hb
    · exact (R.obj n o e).below
    · exact R.low hd b hb n o hn e
  · rcases List.mem_cons.mp hb with rfl | hb
    · exact Nat.le_refl _
    · exact R.lens b hb
  · rcases List.mem_cons.mp hb with rfl | hb
    · exact Nat.le_refl _
    · exact R.lens b hb
/-- behind a def's end -/
theorem ret_ok {m m' : Nat → Addr} {S S' S2 : Sto} {H H' : Hp} {d d2 : D} {v : V} (R : Rel m S H) (X : Ext m m' S.enter S' H H') (r : RD m' S'.len H' d v) (e : ret S d S' = .ok d2 S2) : ∃ m2, Ext m m2 S S2 H H' ∧ RD m2 S2.len H' d2 v := by
  have hlen : S.len ≤ S'.len := X.len
  have hbs : S'.bs = S.len :: S.bs := X.bs
  have big : ∀ db, (db = true ∨ S'.dirty = false) → Ext m m' S ⟨S'.objs, S.bs, db⟩ H H' := fun db hdb => by
    refine ⟨hlen, X.ag, X.keep, rfl, ⟨X.rel.obj, X.rel.inj, fun hd b hb n o hn e => ?_, R.top, fun b hb => Nat.le_trans (R.lens b hb) hlen⟩, X.oth, X.new⟩
    have hd : db = false := hd
    rcases hdb with z | z
    · rw [z] at hd; cases hd
    · exact X.rel.low z b (by rw [hbs]; exact List.mem_cons_of_mem _ hb) n o hn e
  unfold ret at e
  split at e
  · cases e
    exact ⟨m', big true (.inl rfl), r⟩
  · rename_i hd
    have low : ∀ n o, n < S.len → S'.objs[n]? = some o → o.blw S.len = true := fun n o hn e => X.rel.low hd S.len (by rw [hbs]; exact List.mem_cons_self) n o hn e
    have tk : ∀ n o, (S'.objs.take S.len)[n]? = some o → n < S.len ∧ S'.objs[n]? = some o := fun n o e => by
      rw [List.getElem?_take] at e
      split at e
      · exact ⟨by assumption, e⟩
      · cases e
    have tl : (S'.objs.take S.len).length = S.len := by rw [List.length_take]; exact Nat.min_eq_left hlen
    split at e
    · rename_i hb
      cases e
      have l2 : (⟨S'.objs.take S.len, S.bs, false⟩ : Sto).len = S.len := tl
      refine ⟨m', ⟨by rw [l2]; exact Nat.le_refl _, X.ag, X.keep, rfl, ⟨fun n o e => ?_, fun i j hi hj e => ?_, fun _ b hbm n o hn e => ?_, R.top, fun b hb => by rw [l2]; exact R.lens b hb⟩, X.oth, fun n h1 h2 => absurd h2 (by rw [l2]; exact Nat.not_lt_of_le h1)⟩, ?_⟩
      · obtain ⟨h1, h2⟩ := tk n o e
        rw [l2]
        exact (X.rel.obj n o h2).cutk (low n o h1 h2)
      · rw [l2] at hi hj
        exact X.rel.inj i j (Nat.lt_of_lt_of_le hi hlen) (Nat.lt_of_lt_of_le hj hlen) e
      · obtain ⟨h1, h2⟩ := tk n o e
        exact X.rel.low hd b (by rw [hbs]; exact List.mem_cons_of_mem _ hbm) n o hn h2
      · rw [l2]; exact RD.cut _ _ r hb
    · rename_i hb
      split at e
      · rename_i n
        split at e
        · rename_i o ho
          split at e
          · rename_i hbo
            cases e
            have hn : S.len ≤ n := by
              by_cases z : n < S.len
              · simp only [D.blw] at hb
                rw [show Nat.blt n S.len = true from Nat.ble_eq_true_of_le z] at hb
                cases hb
              · omega
            have hnl : n < S'.len := (List.getElem?_eq_some_iff.mp ho).1
            have l2 : (⟨S'.objs.take S.len ++ [o], S.bs, false⟩ : Sto).len = S.len + 1 := by show (S'.objs.take S.len ++ [o]).length = _; rw [List.length_append, tl]; rfl
            have ag2 : ∀ i, i < S.len → withAt m' S.len (m' n) i = m' i := fun i hi => withAt_ne _ _ _ (Nat.ne_of_lt hi)
            have gt : ∀ i o', (S'.objs.take S.len ++ [o])[i]? = some o' → (i < S.len ∧ S'.objs[i]? = some o') ∨ (i = S.len ∧ o' = o) := fun i o' e => by
              by_cases hi : i < S.len
              · rw [List.getElem?_append_left (by rw [tl]; exact hi)] at e
                exact .inl (tk i o' e)
              · rw [List.getElem?_append_right (by rw [tl]; omega), tl] at e
                have hi2 : i - S.len = 0 := by
                  have := (List.getElem?_eq_some_iff.mp e).1
                  simp at this
                  omega
                rw [hi2] at e
                exact .inr ⟨by omega, by simpa using e.symm⟩
            refine ⟨withAt m' S.len (m' n), ⟨by rw [l2]; exact Nat.le_succ _, fun i hi => (ag2 i hi).trans (X.ag i hi), X.keep, rfl, ⟨fun i o' e => ?_, fun i j hi hj e => ?_, fun _ b hbm i o' hi e => ?_, R.top, fun b hb => by rw [l2]; exact Nat.le_succ_of_le (R.lens b hb)⟩, X.oth, fun j h1 h2 => by
              rw [l2] at h2
              have : j = S.len := by omega
              rw [this, withAt_same]
              exact X.new n hn hnl⟩, ?_⟩
            · rw [l2]
              rcases gt i o' e with ⟨h1, h2⟩ | ⟨rfl, rfl⟩
              · rw [ag2 i h1]
                exact ((X.rel.obj i o' h2).cutk (low i o' h1 h2)).mono' (Nat.le_succ _) ag2 (Keep.refl _) rfl
              · rw [withAt_same]
                exact ((X.rel.obj n _ ho).cutk hbo).mono' (Nat.le_succ _) ag2 (Keep.refl _) rfl
            · rw [l2] at hi hj
              by_cases h1 : i < S.len
              · by_cases h2 : j < S.len
                · rw [ag2 i h1, ag2 j h2] at e
                  exact X.rel.inj i j (Nat.lt_of_lt_of_le h1 hlen) (Nat.lt_of_lt_of_le h2 hlen) e
                · have : j = S.len := by omega
                  subst this
                  rw [ag2 i h1, withAt_same] at e
                  have := X.rel.inj i n (Nat.lt_of_lt_of_le h1 hlen) hnl e
                  omega
              · have : i = S.len := by omega
                subst this
                by_cases h2 : j < S.len
                · rw [ag2 j h2, withAt_same] at e
                  have := X.rel.inj n j hnl (Nat.lt_of_lt_of_le h2 hlen) e
                  omega
                · omega
            · have hi' : i < S.len := Nat.lt_of_lt_of_le hi (R.lens b hbm)
              rcases gt i o' e with ⟨h1, h2⟩ | ⟨h1, _⟩
              · exact X.rel.low hd b (by rw [hbs]; exact List.mem_cons_of_mem _ hbm) i o' hi h2
              · omega
            · exact ⟨by rw [l2]; exact Nat.lt_succ_self _, by rw [withAt_same]; exact r.2⟩
          · cases e
            exact ⟨m', big false (.inr hd), r⟩
        · cases e
      · cases e
        exact ⟨m', big false (.inr hd), r⟩

/-! ### a def -/
def fnSem (n ar : Nat) (f : Sv) : Fn := fun ds S => match Nat.beq ds.length ar with
  | true => match f (ds.map some ++ List.replicate (n - ar) none) S.enter with
    | .nx _ S' => ret S .non S'
    | .rt d S' => ret S d S'
    | _ => .bad
  | false => .bad
/-- the promise of a def -/
def spF (ar : Nat) (f : Fn) : Sp := fun vs H Q _ => vs.length = ar ∧ rdN f vs H Q
theorem fn_len {n ar : Nat} {f : Sv} {ds : List D} {S S' : Sto} {d : D} (h : fnSem n ar f ds S = .ok d S') : ds.length = ar := by
  unfold fnSem at h
  split at h
  · rename_i hl; exact Nat.eq_of_beq_eq_true hl
  · cases h
theorem rd_fn {n ar : Nat} {f : Sv} {N : List Str} {vs : List V} {H : Hp} {Q : VK} (hN : N.length = n) (h : rdN (fnSem n ar f) vs H Q) : rdS f { nx := fun _ H' => Q .non H', rt := Q } (L2.start N vs) H := by
  obtain ⟨m, S, ds, d, S2, R, r, e, q⟩ := h
  have hl := fn_len e
  have E : REnv m S.enter.len H (ds.map some ++ List.replicate (n - ar) none) (L2.start N vs) := by
    refine ⟨by simp [L2.start, hN, ← r.length, hl], fun i d0 h0 => ?_⟩
    by_cases hi : i < ds.length
    · rw [List.getElem?_append_left (by simpa using hi)] at h0
      have h0' : ds[i]? = some d0 := by
        rw [List.getElem?_map] at h0
        cases e1 : ds[i]? with
        | none => rw [e1] at h0; cases h0
        | some d1 => rw [e1] at h0; simp at h0; rw [h0]
      obtain ⟨v, h1, h2⟩ := r.get h0'
      refine ⟨v, ?_, h2⟩
      unfold L2.start
      rw [List.getElem?_append_left (by rw [List.length_map, ← r.length]; exact hi), List.getElem?_map, h1]
      rfl
    · rw [List.getElem?_append_right (by simpa using hi)] at h0
      rw [List.getElem?_replicate] at h0
      split at h0 <;> cases h0
  refine ⟨m, S.enter, _, R.enter, E, ?_⟩
  unfold fnSem at e
  rw [show Nat.beq ds.length ar = true by rw [hl]; exact Nat.beq_refl ar] at e
  dsimp only at e
  split at e
  · rename_i ρ' S' h1
    rw [h1]
    intro m' H' σ' X' E'
    obtain ⟨m2, X2, r2⟩ := ret_ok (d := .non) (v := .non) R X' rfl e
    exact q m2 H' _ X2 r2
  · rename_i d0 S' h1
    rw [h1]
    intro m' H' v X' r'
    obtain ⟨m2, X2, r2⟩ := ret_ok R X' r' e
    exact q m2 H' _ X2 r2
  · cases e
section
variable {X : Cx} {k : Nat} {f : Addr} {fd : FuncData} {ps : List Str} {x : Str} {p pos : Pos} {e : Expr} {es : List Expr} {g : EvA} {fn : Fn} {ar : Nat}
/-- a def as others see it -/
structure Def (P : Program) (w : World) (K : Frg) (mg : Str → Option Value) (base : Heap) (k : Nat) (x : Str) (ar : Nat) (fn : Fn) : Prop where
  ex : ∃ (f : Addr) (fd : FuncData) (ps : List Str), FnG P w K mg base k f fd ps (spF ar fn) ∧ mg x = some (.ref f) ∧ PySem.W.keepIn K (.ref f) = true ∧ Binds K fd ps []
  len : ∀ ds S d S', fn ds S = .ok d S' → ds.length = ar
theorem pev_call (F : Def X.prog X.w X.K X.mg X.base k x ar fn) (hr : Room k X.A) (hn : NoG X.A) (hg : Gl X x) (ha : PA X (e :: es) (rdA g)) (hdb : (x == ("__debug__" : Str)) = false)
    (he : starEach (e :: es) X.env = (false, eval e X.env) :: starEach es X.env) (hpl : (backTo pos (starEach es X.env)).any (·.1) = false) : PE X (.Call (.Name x p) (e :: es) [] pos) (rdE (evN fn g)) := by
  obtain ⟨f, fd, ps, F1, hm, hk, hb⟩ := F.ex
  refine PE.of (pe_callG F1 hr hn hg hm hk hb ha hdb he hpl) fun σ H Q h => ?_
  obtain ⟨m, S, ρ, d, S', R, E, e, q⟩ := rdN_seq h
  refine ⟨m, S, ρ, d, S', R, E, e, fun m1 H1 v1 X1 r1 => ?_⟩
  show spF ar fn v1 H1 Q E0
  have h2 := q m1 H1 v1 X1 r1
  obtain ⟨m2, S2, ds, d2, S3, R2, r2, e2, q2⟩ := id h2
  exact ⟨by rw [← r2.length]; exact F.len _ _ _ _ e2, h2⟩
theorem pev_call0 (F : Def X.prog X.w X.K X.mg X.base k x ar fn) (hr : Room k X.A) (hn : NoG X.A) (hg : Gl X x) (hdb : (x == ("__debug__" : Str)) = false) : PE X (.Call (.Name x p) [] [] pos) (rdE (evN fn evNil)) := by
  obtain ⟨f, fd, ps, F1, hm, hk, hb⟩ := F.ex
  refine PE.of (pe_callG0 F1 hr hn hg hm hk hb hdb) fun σ H Q h => ?_
  obtain ⟨m, S, ρ, d, S', R, E, e, q⟩ := rdN_seq h
  cases e
  have h2 := q m H [] (Ext.refl R) rfl
  obtain ⟨m2, S2, ds, d2, S3, R2, r2, e2, q2⟩ := id h2
  exact ⟨by show ([] : List V).length = ar; rw [← r2.length]; exact F.len _ _ _ _ e2, h2⟩
end
end Sw

/-! Eng12: op=, d[k] = v, methods as expressions, facts of the syntax. -/
namespace Sw
open PySem PySem.Spec PyProof.Rows L2
section
variable {X : Cx} {e o a b i v : Expr} {es : List Expr} {f fe fo fi fv : Ev} {g : EvA} {pos pos' apos cpos : Pos} {x : Str}
/-! ### x op= e -/
def svAug (i : Nat) (g : D → D → Sto → Res D) (fe : Ev) : Sv := fun ρ S => match ρ[i]? with
  | some (some x) => match fe ρ S with
    | .ok y S1 => match g x y S1 with
      | .ok z S2 => .nx (ρ.set i (some z)) S2
      | .bad => .bad
    | .bad => .bad
  | _ => .bad
theorem psv_aug {k : Nat} {op : Operator} {gg : D → D → Sto → Res D} (hN : X.N.Nodup) (hi : X.N[k]? = some x) (hx : Loc X.env.scope x) (he : PE X e (rdE fe)) (ho : OpR X (inplaceOp op) (rd2 gg)) (hf : X.fn x = true ∨ X.env.scope.names.lookup x = some .local) :
    PS X (.AugAssign (.Name x pos') op e pos) (rdS (svAug k gg fe)) := PS.of (ps_aug (ti := rd2 gg) hN hi hx he ho hf) fun D σ H h => by
  obtain ⟨m, S, ρ, R, E, q⟩ := h
  unfold svAug at q
  split at q
  · rename_i d hd
    obtain ⟨w, h1, h2⟩ := E.get _ _ hd
    refine ⟨w, h1, ?_⟩
    split at q
    · rename_i y S1 he1
      split at q
      · rename_i z S2 hg1
        exact ⟨m, S, ρ, y, S1, R, E, he1, fun m1 H1 v1 X1 r1 => ⟨m1, S1, d, y, z, S2, X1.rel, h2.ext X1, r1, hg1, fun m2 H2 v2 X2 r2 => q m2 H2 _ (X1.trans X2) ((E.ext (X1.trans X2)).set k r2)⟩⟩
      · exact q.elim
    · exact q.elim
  · exact q.elim
def iaddD : D → D → Sto → Res D
  | .int i, .int j, S => .ok (.int (i + j)) S
  | .ref n, .ref k, S => match S.objs[n]?, S.objs[k]? with
    | some (.lst xs), some (.lst ys) => match fits (xs.length + ys.length) with
      | true => .ok (.ref n) (S.put n (.lst (xs ++ ys)) (D.blws 0 ys))
      | false => .bad
    | _, _ => .bad
  | _, _, _ => .bad
theorem opv_iadd : OpR X (inplaceOp .Add) (rd2 iaddD) := OpR.of (OpR.or iop_add iop_ext) fun x y H Q h => by
  obtain ⟨m, S, d1, d2, d, S', R, r1, r2, e, q⟩ := h
  unfold iaddD at e
  split at e
  · cases e; exact .inl ⟨_, _, r1, r2, rdPure R q rfl⟩
  · rename_i n k
    split at e
    · rename_i xs ys h1 h2
      split at e
      · rename_i hs
        cases e
        obtain ⟨vs, a1, q1⟩ := R.obj _ _ h1
        obtain ⟨ws, a2, q2⟩ := R.obj _ _ h2
        have X1 := goPut (ok := D.blws 0 ys) R h1 a1 (q1.append q2) (fun z b hb => by rw [blws_append, hb, belows_mono (Nat.zero_le b) _ z]; rfl)
        refine .inr ⟨_, _, vs, ws, r1.2, r2.2, a1, a2, ?_, q m _ _ X1 (by rw [Sto.put_len]; exact ⟨r1.1, rfl⟩)⟩
        rw [← q1.length, ← q2.length]; exact fits_le hs
      · cases e
    · cases e
  · cases e
def isubD : D → D → Sto → Res D
  | .int i, .int j, S => .ok (.int (i - j)) S
  | _, _, _ => .bad
theorem opv_isub : OpR X (inplaceOp .Sub) (rd2 isubD) := OpR.of iop_sub fun x y H Q h => by
  obtain ⟨m, S, d1, d2, d, S', R, r1, r2, e, q⟩ := h
  unfold isubD at e
  split at e
  · cases e; exact ⟨_, _, r1, r2, rdPure R q rfl⟩
  · cases e

/-! ### d[k] = v -/
def Sto.dput (S : Sto) (n : Nat) (k v : D) : Option Sto := match S.objs[n]? with
  | some (.dct kvs) => match keyOf k with
    | some q => match fits (kvs.length + 1) with
      | true => some (S.put n (.dct (dPut keyOf kvs q k v)) (v.blw 0))
      | false => none
    | none => none
  | some (.dctT kvs) => match tkeyOf k with
    | some q => match fits (kvs.length + 1) with
      | true => some (S.put n (.dctT (dPut tkeyOf kvs q k v)) (v.blw 0))
      | false => none
    | none => none
  | _ => none
theorem pairs_append {k : Nat} : ∀ {xs ys : List (D × D)}, pairsBelow k (xs ++ ys) = (pairsBelow k xs && pairsBelow k ys)
  | [], ys => by simp [pairsBelow]
  | (a, b) :: xs, ys => by simp only [List.cons_append, pairsBelow, pairs_append (xs := xs), Bool.and_assoc]
theorem dRep_below {κ : Type} [DecidableEq κ] {ko : D → Option κ} {q : κ} {v : D} {k : Nat} (hv : v.blw k = true) : ∀ {kvs : List (D × D)}, pairsBelow k kvs = true → pairsBelow k (dRep ko q v kvs) = true
  | [], h => h
  | (a, d) :: r, h => by
    simp only [pairsBelow, Bool.and_eq_true] at h
    have ih := dRep_below (ko := ko) (q := q) hv h.2
    simp only [dRep]
    split
    · split
      · simp only [pairsBelow, Bool.and_eq_true]; exact ⟨⟨h.1.1, hv⟩, ih⟩
      · simp only [pairsBelow, Bool.and_eq_true]; exact ⟨h.1, ih⟩
    · simp only [pairsBelow, Bool.and_eq_true]; exact ⟨h.1, ih⟩
theorem dPut_below {κ : Type} [DecidableEq κ] {ko : D → Option κ} {q : κ} {kd v : D} {k : Nat} {kvs : List (D × D)} (hv : v.blw k = true) (hk : kd.blw k = true) (h : pairsBelow k kvs = true) : pairsBelow k (dPut ko kvs q kd v) = true := by
  unfold dPut
  split
  · exact dRep_below hv h
  · rw [pairs_append, h]; simp only [pairsBelow, hv, hk, Bool.and_self]
theorem dput_ok {m : Nat → Addr} {S S' : Sto} {H : Hp} {n : Nat} {k v : D} {kv vv : V} (R : Rel m S H) (hk : RD m S.len H k kv) (hv : RD m S.len H v vv) (h : S.dput n k v = some S') : ∃ H', DPut H (m n) kv vv H' ∧ Ext m m S S' H H' := by
  unfold Sto.dput at h
  cases e : S.objs[n]? with
  | none => rw [e] at h; cases h
  | some ob =>
    rw [e] at h
    have q := R.obj n ob e
    cases ob with
    | lst _ => cases h
    | frz _ => cases h
    | set _ => cases h
    | dct kvs =>
      obtain ⟨ps, h1, h2⟩ := q
      dsimp only at h
      cases ek : keyOf k with
      | none => rw [ek] at h; cases h
      | some q =>
        rw [ek] at h
        dsimp only at h
        split at h
        · rename_i hf
          cases h
          have hkd := keyOf_ok ek
          subst hkd
          rw [RD.kD hk]
          have hl : ps.length < sizeLine := by have := fits_le hf; rw [h2.length] at this; omega
          have kp : Keep H (upd H (m n) (.dK (putK ps q vv))) := ⟨fun a zs e => (by
            rw [upd_ne]
            · exact e
            · rintro rfl; rw [h1] at e; cases e), fun a o' u e => (by
            rw [upd_ne]
            · exact e
            · rintro rfl; rw [h1] at e; cases e)⟩
          exact ⟨_, DPut.k h1 hl, Ext.put R e h1 True.intro ⟨_, upd_same, RKv.mono' (Nat.le_refl _) (fun _ _ => rfl) kp _ _ (dPut_ok keyOf_kD h2 hv)⟩ fun z b hb => dPut_below (below_mono (Nat.zero_le b) _ z) (kD_below _ _) hb⟩
        · cases h
    | dctT kvs =>
      obtain ⟨ps, h1, h2⟩ := q
      dsimp only at h
      cases ek : tkeyOf k with
      | none => rw [ek] at h; cases h
      | some q =>
        rw [ek] at h
        dsimp only at h
        split at h
        · rename_i hf
          cases h
          have hkd := tkeyOf_ok ek
          subst hkd
          obtain ⟨b, rfl, hb⟩ := RD.kT hk
          have hl : ps.length < sizeLine := by have := fits_le hf; rw [h2.length] at this; omega
          have kp : Keep H (upd H (m n) (.dT (putK ps q vv))) := ⟨fun a zs e => (by
            rw [upd_ne]
            · exact e
            · rintro rfl; rw [h1] at e; cases e), fun a o' u e => (by
            rw [upd_ne]
            · exact e
            · rintro rfl; rw [h1] at e; cases e)⟩
          exact ⟨_, DPut.t h1 hb hl, Ext.put R e h1 True.intro ⟨_, upd_same, RKv.mono' (Nat.le_refl _) (fun _ _ => rfl) kp _ _ (dPut_ok tkeyOf_kT h2 hv)⟩ fun z b hb => dPut_below (below_mono (Nat.zero_le b) _ z) (kT_below _ _) hb⟩
        · cases h
def svPut (fo fi fv : Ev) : Sv := fun ρ S => match fv ρ S with
  | .ok v S1 => match fo ρ S1 with
    | .ok (.ref n) S2 => match fi ρ S2 with
      | .ok k S3 => match S3.dput n k v with
        | some S4 => .nx ρ S4
        | none => .bad
      | .bad => .bad
    | _ => .bad
  | .bad => .bad
theorem psv_put (hu : X.A.units + 1 < cLine) (ho : PE X o (rdE fo)) (hi : PE X i (rdE fi)) (hv : PE X v (rdE fv)) (hs : swapsWith v (some (.Subscript o i pos')) pos.line X.env = pure false) :
    PS X (.Assign [.Subscript o i pos'] v pos) (rdS (svPut fo fi fv)) := PS.of (ps_dput hu ho hi hv hs) fun D σ H h => by
  obtain ⟨m, S, ρ, R, E, q⟩ := h
  unfold svPut at q
  split at q
  · rename_i d S1 h1
    split at q
    · rename_i n S2 h2
      split at q
      · rename_i k S3 h3
        split at q
        · rename_i S4 h4
          refine ⟨m, S, ρ, d, S1, R, E, h1, fun m1 H1 v1 X1 r1 => ⟨m1, S1, ρ, _, S2, X1.rel, E.ext X1, h2, fun m2 H2 v2 X2 r2 => ⟨m2, S2, ρ, k, S3, X2.rel, E.ext (X1.trans X2), h3, fun m3 H3 v3 X3 r3 => ?_⟩⟩⟩
          obtain ⟨H4, g4, X4⟩ := dput_ok X3.rel r3 (r1.ext (X2.trans X3)) h4
          have r2' := RD.ext r2 X3
          rw [r2'.2]
          exact ⟨m3 n, H4, rfl, g4, q m3 H4 σ (X1.trans (X2.trans (X3.trans X4))) (E.ext (X1.trans (X2.trans (X3.trans X4))))⟩
        · exact q.elim
      · exact q.elim
    · exact q.elim
  · exact q.elim

/-! ### methods -/
theorem pev_bm {k : O → Bool} {T id : String} {name : Str} {gm : Nat → List D → Sto → Res D} (pa : PlainAttrs T) (slot : Slot T name id) (hty : typeOf (.builtin id) = pure (.type "method_descriptor")) (hm : MtR X id (rdM gm)) (hT : ∀ m S H n ob, Rel m S H → S.objs[n]? = some ob → k ob = true → tyV X.K T (.ref (m n)) H) (ho : PE X o (rdE fo)) (ha : PA X (e :: es) (rdA g))
    (hbase : attributeBase o name X.env (eval o X.env) = eval o X.env)
    (hfew : ((backTo cpos (starEach (e :: es) X.env)).all (fun x => !x.1) && (backToKw cpos (keywordEach [] X.env)).all (fun x => x.1.isSome)
      && decide ((e :: es).length + ([] : List Keyword).length + (if ([] : List Keyword).isEmpty then 0 else 1) < 30)) = true)
    (hline : (apos.endLine == cpos.line) = true) (hs : starEach (e :: es) X.env = (false, eval e X.env) :: starEach es X.env) (hplain : (backTo cpos (starEach es X.env)).any (·.1) = false) :
    PE X (.Call (.Attribute o name apos) (e :: es) [] cpos) (rdE (evM k gm fo g)) := PE.of (pe_bm pa slot hty hm ho ha hbase hfew hline hs hplain) fun _ _ _ h => rdM_seq hT h
theorem pev_bm0 {k : O → Bool} {T id : String} {name : Str} {gm : Nat → List D → Sto → Res D} (pa : PlainAttrs T) (slot : Slot T name id) (hty : typeOf (.builtin id) = pure (.type "method_descriptor")) (hm : MtR X id (rdM gm)) (hT : ∀ m S H n ob, Rel m S H → S.objs[n]? = some ob → k ob = true → tyV X.K T (.ref (m n)) H) (ho : PE X o (rdE fo))
    (hbase : attributeBase o name X.env (eval o X.env) = eval o X.env) (hline : (apos.endLine == cpos.line) = true) :
    PE X (.Call (.Attribute o name apos) [] [] cpos) (rdE (evM k gm fo evNil)) := PE.of (pe_bm0 pa slot hty hm ho hbase hline) fun σ H Q h => by
  obtain ⟨m, S, ρ, d, S', R, E, e, q⟩ := rdM_seq hT h
  refine ⟨m, S, ρ, d, S', R, E, e, fun m1 H1 v1 X1 r1 => ?_⟩
  obtain ⟨t, m2, S2, ρ2, d2, S3, R2, E2, e2, q2⟩ := q m1 H1 v1 X1 r1
  cases e2
  exact ⟨t, q2 m2 H1 [] (Ext.refl R2) rfl⟩
/-- d.get(k) -/
def getM (n : Nat) : List D → Sto → Res D
  | [k], S => match S.get? n k with
    | some (some d) => .ok d S
    | some none => .ok .non S
    | none => .bad
  | [k, z], S => match S.get? n k with
    | some (some d) => .ok d S
    | some none => .ok z S
    | none => .bad
  | _, _ => .bad
theorem isD_dct {m : Nat → Addr} {S : Sto} {H : Hp} {n : Nat} {ob : O} (R : Rel m S H) (h : S.objs[n]? = some ob) (k : isDct ob = true) : IsD H (m n) := by
  have q := R.obj n ob h
  cases ob with
  | lst xs => cases k
  | frz xs => cases k
  | set xs => cases k
  | dct kvs => obtain ⟨ps, h1, _⟩ := q; exact .inl ⟨ps, .inl h1⟩
  | dctT kvs => obtain ⟨ps, h1, _⟩ := q; exact .inr ⟨ps, .inl h1⟩
theorem pev_get1 (hu : X.A.units + 1 < cLine) (ho : PE X o (rdE fo)) (he : PE X e (rdE fe)) (mm : M1 X o "get" apos e cpos) : PE X (.Call (.Attribute o "get" apos) [e] [] cpos) (rdE (evM isDct getM fo (evCons fe evNil))) := PE.of (pe_dget1 hu ho he mm) fun σ H Q h => by
  obtain ⟨m, S, ρ, d, S', R, E, e, q⟩ := h
  obtain ⟨n, S1, ob, xs, S2, h1, h2, h3, h4, h5⟩ := evM_ok e
  refine ⟨m, S, ρ, _, S1, R, E, h1, fun m1 H1 v1 X1 r1 => ⟨m1 n, r1.2, isD_dct X1.rel h2 h3, ?_⟩⟩
  unfold evCons at h4
  split at h4
  · rename_i y S3 h6
    cases h4
    refine ⟨m1, S1, ρ, y, _, X1.rel, E.ext X1, h6, fun m2 H2 v2 X2 r2 => ?_⟩
    simp only [getM] at h5
    split at h5
    · rename_i d0 hd
      cases h5
      obtain ⟨w, g, g1, _⟩ := X2.rel.get r2 hd
      obtain ⟨z, rfl, hz⟩ := g1 _ rfl
      rw [X2.ag n r1.1] at g
      exact ⟨_, g, q m2 H2 _ (X1.trans X2) hz⟩
    · rename_i hd
      cases h5
      obtain ⟨w, g, _, g2⟩ := X2.rel.get r2 hd
      rw [g2 rfl] at g
      rw [X2.ag n r1.1] at g
      exact ⟨_, g, q m2 H2 _ (X1.trans X2) rfl⟩
    · cases h5
  · cases h4

/-! ### facts of the syntax -/
def noStar : Expr → Bool
  | .Starred _ _ => false
  | _ => true
theorem star_cons {env : Env} (h : noStar e = true) : starEach (e :: es) env = (false, eval e env) :: starEach es env := by
  cases e <;> first | rfl | cases h
theorem star_plain {env : Env} : ∀ {es : List Expr}, es.all noStar = true → (backTo pos (starEach es env)).any (·.1) = false
  | [], _ => rfl
  | e :: es, h => by
    simp only [List.all_cons, Bool.and_eq_true] at h
    rw [star_cons h.1]
    have ih := star_plain (env := env) h.2
    unfold backTo at ih ⊢
    rw [List.map_cons, List.any_cons, ih]
    rfl
theorem star_few {env : Env} : ∀ {es : List Expr}, es.all noStar = true → (backTo pos (starEach es env)).all (fun x => !x.1) = true
  | [], _ => rfl
  | e :: es, h => by
    simp only [List.all_cons, Bool.and_eq_true] at h
    rw [star_cons h.1]
    have ih := star_few (env := env) h.2
    unfold backTo at ih ⊢
    rw [List.map_cons, List.all_cons, ih]
    rfl
def noSlice : Expr → Bool
  | .Slice _ _ _ _ => false
  | _ => true
theorem plainIx_of (h : noSlice e = true) : PlainIx e := by
  intro o i
  cases e <;> first | rfl | cases h
def noSuper : Expr → Bool
  | .Call (.Name _ _) [] [] _ => false
  | _ => true
theorem base_of {env : Env} {w : Sem Value} (h : noSuper e = true) : attributeBase e x env w = w := by
  unfold attributeBase
  split
  · cases h
  · rfl
def noSet : Expr → Bool
  | .Set _ _ _ => false
  | _ => true
theorem behind_of {op : CmpOp} (h : noSet e = true) : behindInMarks op e = false := by
  cases e <;> first | rfl | cases h
theorem last_of {op op' : CmpOp} (h : noSet b = true) : lastMarks [op, op'] [a, b] = false := by
  show behindInMarks op' b = false
  exact behind_of h
theorem folded_of {env : Env} (h : noSet e = true) : ∀ y, foldedSetIterable e env y = pure y := by
  intro y
  cases e <;> first | rfl | cases h
/-- its test is its value's truth -/
def plainT : Expr → Bool
  | .UnaryOp .Not _ _ => false
  | .BoolOp _ _ _ => false
  | .IfExp _ _ _ _ => false
  | .Compare _ _ _ _ => false
  | _ => true
theorem true_of {env : Env} (h : plainT e = true) : ∀ whole, isTrue e env whole = (do let v ← whole; standAt e.pos; holding [v] (truthy v)) := by
  intro whole
  cases e with
  | UnaryOp op x p => cases op <;> first | rfl | cases h
  | BoolOp => cases h
  | IfExp => cases h
  | Compare => cases h
  | _ => rfl
def noComp : Expr → Bool
  | .ListComp _ _ _ _ => false
  | .SetComp _ _ _ _ => false
  | .DictComp _ _ _ _ _ => false
  | _ => true
theorem swap_of {t : Option Expr} {l : Nat} {env : Env} (h : noComp e = true) : swapsWith e t l env = pure false := by
  cases e <;> first | rfl | cases h
theorem swap_sub {o i : Expr} {l : Nat} {env : Env} : swapsWith e (some (.Subscript o i pos)) l env = pure false := by
  cases e <;> rfl
def noTup : Expr → Bool
  | .Tuple _ _ _ => false
  | _ => true
theorem sws_of {tg : Expr} {env : Env} (h : noTup e = true) : swappedStores [tg] e env = pure none := by
  unfold swappedStores
  cases e <;> first | (cases tg <;> rfl) | cases h
end
end Sw

/-! Eng12b: comprehensions of two loops, orders of tuples, sorted, repetition, sets that are only counted. -/
namespace Sw
open PySem PySem.Spec PyProof.Rows L2
/-- the inner turns -/
def comp1L (src : Src) (n : Nat) (g : Gv) (ft fe : Ev) (ρ : En) : Nat → Nat → Sto → Res Unit
  | 0, _, _ => .bad
  | k + 1, i, S => match src.next S i with
    | some (some d) => match g d ρ S with
      | .ok ρ1 S1 => match ft ρ1 S1 with
        | .ok (.bl b) S2 => match b with
          | true => match fe ρ1 S2 with
            | .ok y S3 => match S3.objs[n]? with
              | some (.lst acc) => match fits (acc.length + 1) with
                | true => comp1L src n g ft fe ρ k (i + 1) (S3.put n (.lst (acc ++ [y])) (y.blw 0))
                | false => .bad
              | _ => .bad
            | .bad => .bad
          | false => comp1L src n g ft fe ρ k (i + 1) S2
        | _ => .bad
      | .bad => .bad
    | some none => .ok () S
    | none => .bad
/-- the outer turns -/
def comp2L (src : Src) (n : Nat) (g : Gv) (ft : Ev) (fi1 : Iv) (vs1 : List Nat) (g1 : Gv) (ft1 fe : Ev) (ρ : En) : Nat → Nat → Sto → Res D
  | 0, _, _ => .bad
  | k + 1, i, S => match src.next S i with
    | some (some d) => match g d ρ S with
      | .ok ρ1 S1 => match ft ρ1 S1 with
        | .ok (.bl b) S2 => match b with
          | true => match fi1 ρ1 S2 with
            | .ok src1 S3 => match comp1L src1 n g1 ft1 fe (wipeE ρ1 vs1) (src1.turns S3 + 1) 0 S3 with
              | .ok _ S4 => comp2L src n g ft fi1 vs1 g1 ft1 fe ρ k (i + 1) S4
              | .bad => .bad
            | .bad => .bad
          | false => comp2L src n g ft fi1 vs1 g1 ft1 fe ρ k (i + 1) S2
        | _ => .bad
      | .bad => .bad
    | some none => .ok (.ref n) S
    | none => .bad
def evComp2 (fi : Iv) (vs : List Nat) (g : Gv) (ft : Ev) (fi1 : Iv) (vs1 : List Nat) (g1 : Gv) (ft1 fe : Ev) : Ev := fun ρ S => match fi ρ S with
  | .ok src S1 => comp2L src S1.len g ft fi1 vs1 g1 ft1 fe (wipeE ρ vs) (src.turns S1 + 1) 0 (S1.add (.lst []))
  | .bad => .bad
/-- {k: v}, k a tuple -/
def evDisp (fk fv : Ev) : Ev := fun ρ S => match fk ρ (S.add (.dctT [])) with
  | .ok k S1 => match fv ρ S1 with
    | .ok v S2 => match S2.objs[S.len]? with
      | some (.dctT []) => match S2.dput S.len k v with
        | some S3 => .ok (.ref S.len) S3
        | none => .bad
      | _ => .bad
    | .bad => .bad
  | .bad => .bad
/-- list(enumerate(x)) -/
def enumPairs : Nat → List D → List D
  | _, [] => []
  | i, d :: r => .tup [.int (i : Nat), d] :: enumPairs (i + 1) r
def lenumN : List D → Sto → Res D
  | [.tup xs], S => match fits xs.length with
    | true => newL S (enumPairs 0 xs)
    | false => .bad
  | _, _ => .bad
/-- an order of two data -/
def ord? (S : Sto) (x y : D) : Option (PyData × PyData) := match res S x with
  | some p => match res S y with
    | some q => match PySem.W.alike p q && Nat.ble p.depth 60 with
      | true => some (p, q)
      | false => none
    | none => none
  | none => none
/-- < > <= >= -/
def cmpD (pi : Int → Int → Bool) (pd : PyData → PyData → Bool) : D → D → Sto → Res D
  | .int i, .int j, S => .ok (.bl (pi i j)) S
  | .tup xs, .tup ys, S => match ord? S (.tup xs) (.tup ys) with
    | some (p, q) => .ok (.bl (pd p q)) S
    | none => .bad
  | _, _, _ => .bad
def ltD := cmpD (fun i j => decide (i < j)) PySem.W.dataLt
def gtD := cmpD (fun i j => decide (j < i)) fun p q => PySem.W.dataLt q p
def leD := cmpD (fun i j => decide (i ≤ j)) fun p q => !PySem.W.dataLt q p
def geD := cmpD (fun i j => decide (j ≤ i)) fun p q => !PySem.W.dataLt p q
def insD (x : PyData × D) : List (PyData × D) → List (PyData × D)
  | [] => [x]
  | y :: r => match PySem.W.dataLt y.1 x.1 with
    | true => y :: insD x r
    | false => x :: y :: r
def sortL : List (PyData × D) → List (PyData × D)
  | [] => []
  | x :: r => insD x (sortL r)
def resPairs (S : Sto) : List D → Option (List (PyData × D))
  | [] => some []
  | d :: r => match res S d with
    | some p => match resPairs S r with
      | some ps => some ((p, d) :: ps)
      | none => none
    | none => none
def isTupP : PyData → Bool
  | .tuple (_ :: _) => true
  | _ => false
def isFlatP : PyData → Bool
  | .int _ => true
  | .str _ => true
  | _ => false
def sortOk (ps : List (PyData × D)) : Bool := (ps.all fun p => ps.all fun q => PySem.W.alike p.1 q.1) && ((ps.all fun p => isTupP p.1) || ps.all fun p => isFlatP p.1) && (ps.all fun p => Nat.ble p.1.depth 60) && fits ps.length
def sortedN : List D → Sto → Res D
  | [.ref n], S => match S.list? n with
    | some xs => match resPairs S xs with
      | some ps => match sortOk ps with
        | true => newL S ((sortL ps).map (·.2))
        | false => .bad
      | none => .bad
    | none => .bad
  | _, _ => .bad
def repL (xs : List D) : Nat → List D
  | 0 => []
  | n + 1 => xs ++ repL xs n
def mulD2 : D → D → Sto → Res D
  | .tup (x :: xs), .int j, S => match decide (2 ≤ j) && decide (j ≤ 1000) && Nat.ble (xs.length + 1) 1000 with
    | true => .ok (.tup (repL (x :: xs) j.toNat)) S
    | false => .bad
  | .ref n, .int j, S => match S.objs[n]? with
    | some (.lst xs) => match decide (0 ≤ j) && decide (j ≤ 1000) && fits (xs.length * j.toNat) with
      | true => newL S (repL xs j.toNat)
      | false => .bad
    | _ => .bad
  | x, y, S => mulD x y S
/-- the turns of a set's comprehension, the set of whole numbers has the number n -/
def scL (src : Src) (n : Nat) (g : Gv) (ft fe : Ev) (ρ : En) : Nat → Nat → Sto → Res D
  | 0, _, _ => .bad
  | k + 1, i, S => match src.next S i with
    | some (some d) => match g d ρ S with
      | .ok ρ1 S1 => match ft ρ1 S1 with
        | .ok (.bl b) S2 => match b with
          | true => match fe ρ1 S2 with
            | .ok (.int y) S3 => match S3.objs[n]? with
              | some (.set acc) => match Nat.ble (acc.length + 2) scanBound with
                | true => scL src n g ft fe ρ k (i + 1) (S3.put n (.set (match acc.contains y with | true => acc | false => y :: acc)) true)
                | false => .bad
              | _ => .bad
            | _ => .bad
          | false => scL src n g ft fe ρ k (i + 1) S2
        | _ => .bad
      | .bad => .bad
    | some none => .ok (.ref n) S
    | none => .bad
def evSc (fi : Iv) (vs : List Nat) (g : Gv) (ft fe : Ev) : Ev := fun ρ S => match fi ρ S with
  | .ok src S1 => scL src S1.len g ft fe (wipeE ρ vs) (src.turns S1 + 1) 0 (S1.add (.set []))
  | .bad => .bad
def lenSN : List D → Sto → Res D
  | [.ref n], S => match S.objs[n]? with
    | some (.set xs) => match Nat.ble (xs.length + 1) scanBound with
      | true => .ok (.int (xs.length : Nat)) S
      | false => .bad
    | _ => .bad
  | _, _ => .bad
end Sw

/-! Eng12c: orders of tuples, repetition, comprehensions of two loops: right. -/
namespace Sw
open PySem PySem.Spec PyProof.Rows L2
section
variable {X : Cx}
theorem ord_wit {pins : List (Addr × Obj)} {s : Shared} {σ : L2.St} {m : Nat → Addr} {S : Sto} {H : Hp} (I : Inv X pins σ H s) (R : Rel m S H) {x y : D} {xv yv : V} {u w : Value} {p q : PyData} (hx : RD m S.len H x xv) (hy : RD m S.len H y yv) (rx : RelV xv u) (ry : RelV yv w) (e : ord? S x y = some (p, q)) :
    res S x = some p ∧ ∃ as bs, Reads s.heap u p as ∧ Reads s.heap w q bs ∧ PySem.W.alike p q = true ∧ p.depth ≤ 60 := by
  unfold ord? at e
  split at e
  · rename_i p' hp
    split at e
    · rename_i q' hq
      split at e
      · rename_i hd
        cases e
        obtain ⟨h1, h2⟩ := Bool.and_eq_true_iff.mp hd
        obtain ⟨d1, p1⟩ := res_dp R hx hp
        obtain ⟨d2, p2⟩ := res_dp R hy hq
        obtain ⟨as, r1⟩ := Dp.reads I p xv u d1 rx
        obtain ⟨bs, r2⟩ := Dp.reads I q yv w d2 ry
        exact ⟨hp, as, bs, r1, r2, h1, Nat.le_of_ble_eq_true h2⟩
      · cases e
    · cases e
  · cases e
theorem res_tup {S : Sto} {xs : List D} {p : PyData} (e : res S (.tup xs) = some p) : p ≠ .none := by
  intro z
  subst z
  unfold res at e
  simp only [resW] at e
  split at e <;> cases e
theorem opv_ord {op : CmpOp} {pi : Int → Int → Bool} {pd : PyData → PyData → Bool} (hi : OpR X (compareOp op) (rI0 fun i j => .bl (pi i j)))
    (hd : ∀ {s : Shared} {a b : Value} {da db : PyData} {as bs : List Addr} {Q : Value → Shared → Prop}, Reads s.heap a da as → Reads s.heap b db bs → PySem.W.alike da db = true → da ≠ .none → X.A.units + min da.depth db.depth < cLine → Q (.bool (pd da db)) s → wpAny (model X.prog X.w) X.A (compareOp op a b) Q X.xe s)
    (hu : X.A.units + 64 < cLine) : OpR X (compareOp op) (rd2 (cmpD pi pd)) := by
  intro pins s σ H x y v u Q I rx ry h
  obtain ⟨m, S, d1, d2, d, S', R, r1, r2, e, q⟩ := h
  unfold cmpD at e
  split at e
  · cases e
    exact hi pins s σ H x y v u Q I rx ry ⟨_, _, r1, r2, rdPure R q rfl⟩
  · split at e
    · rename_i p' q' ho
      cases e
      obtain ⟨hr, as, bs, a1, a2, a3, a4⟩ := ord_wit I R r1 r2 rx ry ho
      refine hd a1 a2 a3 (res_tup hr) (by have := Nat.min_le_left p'.depth q'.depth; omega) ?_
      exact ⟨.bl _, H, I, rfl, rdPure R q rfl⟩
    · cases e
  · cases e
theorem repL_eq (xs : List D) : ∀ n, repL xs n = (List.replicate n xs).flatten
  | 0 => rfl
  | n + 1 => by unfold repL; rw [repL_eq xs n, List.replicate_succ, List.flatten_cons]
theorem RDs.rep {m : Nat → Addr} {k : Nat} {H : Hp} {xs : List D} {vs : List V} (h : RDs m k H xs vs) : ∀ n, RDs m k H (repL xs n) (List.replicate n vs).flatten
  | 0 => rfl
  | n + 1 => by
    unfold repL
    rw [List.replicate_succ, List.flatten_cons]
    exact h.append (RDs.rep h n)
theorem opv_mul2 : OpR X (binaryOp .Mult) (rd2 mulD2) := fun pins s σ H x y v u Q I rx ry h => by
  obtain ⟨m, S, d1, d2, d, S', R, r1, r2, e, q⟩ := h
  unfold mulD2 at e
  split at e
  · rename_i x0 xs j
    split at e
    · rename_i hb
      cases e
      simp only [Bool.and_eq_true, decide_eq_true_eq] at hb
      obtain ⟨a, vs, rfl, ha, qs⟩ := r1
      have hl : vs.length = xs.length + 1 := by rw [← qs.length]; rfl
      have h3 := Nat.le_of_ble_eq_true hb.2
      refine op_repT pins s σ H _ _ v u Q I rx ry ⟨a, j, vs, rfl, r2, .of ha, (by intro z; rw [z] at hl; cases hl), hb.1.1, hb.1.2, by omega, ?_⟩
      exact goTup R (RDs.rep qs j.toNat) q
    · cases e
  · rename_i n j
    split at e
    · rename_i xs ho
      split at e
      · rename_i hb
        cases e
        simp only [Bool.and_eq_true, decide_eq_true_eq] at hb
        obtain ⟨vs, g1, g2⟩ := R.obj _ _ ho
        have hz := fits_le hb.2
        rw [g2.length] at hz
        exact op_rep pins s σ H _ _ v u Q I rx ry ⟨_, j, vs, r1.2, r2, g1, by omega, by omega, hz, goLst R (RDs.rep g2 j.toNat) q⟩
      · cases e
    · cases e
  · exact opv_mul pins s σ H x y v u Q I rx ry ⟨m, S, _, _, d, S', R, r1, r2, e, q⟩
/-- the inner turns, as they are read -/
theorem rd_in {src : Src} {n : Nat} {g : Gv} {ft fe : Ev} {ρ1 : En} {vs1 : List Nat} {σ2 : L2.St} {H4 : Hp} {L : Addr} {J1 : It} {Nx : Hp → Prop} {m3 : Nat → Addr} {S3 S4 : Sto} {K : Nat}
    (hml : m3 n = L) (hln : n < S3.len) (E3 : REnv m3 S3.len H4 ρ1 σ2) (R3 : Rel m3 S3 H4) (OK : ItOk m3 S3 H4 src J1)
    (e : comp1L src n g ft fe (wipeE ρ1 vs1) K 0 S3 = .ok () S4) (q : ∀ m' H', Ext m3 m' S3 S4 H4 H' → Nx H') :
    ∃ W1 : Nat → Nat → Hp → Prop, (∃ m, W1 0 m H4) ∧ ∀ j k H, W1 j k H →
      (J1.stop j H ∧ Nx H) ∨ (J1.go j H ∧ ∃ Nx1 : Hp → Prop, (∀ H', Nx1 H' → ∃ k', k' < k ∧ W1 (j + 1) k' H') ∧ ∀ x H', J1.yld j H x H' → rdG vs1 g x (wipe σ2 vs1) H' fun σ3 H5 => wipe σ3 vs1 = wipe σ2 vs1 ∧ rdT ft σ3 H5 fun b H6 =>
        if b = true then rdE fe σ3 H6 fun y H7 => ∃ acc, H7 L = some (.lst acc) ∧ acc.length < sizeLine ∧ Nx1 (upd H7 L (.lst (acc ++ [y]))) else Nx1 H6) := by
  refine ⟨fun i k H => ∃ m2 S2, Ext m3 m2 S3 S2 H4 H ∧ ∃ S', comp1L src n g ft fe (wipeE ρ1 vs1) k i S2 = .ok () S' ∧ ∀ m' H', Ext m2 m' S2 S' H H' → Nx H', ⟨K, m3, S3, Ext.refl R3, S4, e, fun m' H' X' => q m' H' X'⟩, ?_⟩
  rintro i k H ⟨m2, S2, X2, S', e, q⟩
  have hm2 : m2 n = L := by rw [X2.ag n hln]; exact hml
  have E2 := E3.ext X2
  cases k with
  | zero => cases e
  | succ k =>
    simp only [comp1L] at e
    obtain ⟨ok1, ok2⟩ := OK m2 S2 H i X2
    split at e
    · rename_i d0 hd
      obtain ⟨go, yl⟩ := ok1 d0 hd
      refine .inr ⟨go, fun H => ∃ m2 S2, Ext m3 m2 S3 S2 H4 H ∧ ∃ S', comp1L src n g ft fe (wipeE ρ1 vs1) k (i + 1) S2 = .ok () S' ∧ ∀ m' H', Ext m2 m' S2 S' H H' → Nx H', fun H' z => ⟨k, Nat.lt_succ_self k, z⟩, fun x H' y => ?_⟩
      obtain ⟨XY, rx⟩ := yl x H' y
      split at e
      · rename_i ρ2 S5 h3
        refine ⟨m2, S2, wipeE ρ1 vs1, d0, ρ2, S5, XY.rel, (E2.ext XY).wipe vs1, rx, h3, fun m5 H5 σ5 X5 E5 C5 => ⟨wipe_chg C5, ?_⟩⟩
        split at e
        · rename_i b S6 h4
          refine ⟨m5, S5, ρ2, b, S6, X5.rel, E5, h4, fun m6 H6 X6 => ?_⟩
          have X26 := XY.trans (X5.trans X6)
          cases b with
          | false =>
            dsimp only
            rw [if_neg Bool.false_ne_true]
            exact ⟨m6, S6, X2.trans X26, S', e, fun m' H' X' => q m' H' (X26.trans X')⟩
          | true =>
            dsimp only at e ⊢
            rw [if_pos rfl]
            split at e
            · rename_i y0 S7 h5
              refine ⟨m6, S6, ρ2, y0, S7, X6.rel, E5.ext X6, h5, fun m7 H7 v7 X7 r7 => ?_⟩
              split at e
              · rename_i acc ha
                split at e
                · rename_i hf
                  have X27 := X26.trans X7
                  have hm7 : m7 n = L := by rw [X27.ag n (Nat.lt_of_lt_of_le hln X2.len)]; exact hm2
                  obtain ⟨ws, hw1, hw2⟩ := X7.rel.obj _ _ ha
                  have X8 := goPut (ok := y0.blw 0) X7.rel ha hw1 (hw2.append (.one r7)) (fun z b hb => by rw [blws_append, hb]; simp only [D.blws, below_mono (Nat.zero_le b) _ z, Bool.and_self])
                  rw [hm7] at hw1 X8
                  refine ⟨ws, hw1, ?_, m7, _, X2.trans (X27.trans X8), S', e, fun m' H' X' => q m' H' (X27.trans (X8.trans X'))⟩
                  have := fits_le hf
                  rw [hw2.length] at this
                  omega
                · cases e
              · cases e
            · cases e
        · cases e
      · cases e
    · rename_i hd
      cases e
      exact .inl ⟨ok2 hd, q m2 H (Ext.refl X2.rel)⟩
    · cases e
theorem rd_comp2 {fi fi1 : Iv} {vs vs1 : List Nat} {g g1 : Gv} {ft ft1 fe : Ev} {σ : L2.St} {H : Hp} {Q : VK} (h : rdE (evComp2 fi vs g ft fi1 vs1 g1 ft1 fe) σ H Q) : tLc2 (rdI fi) (rdG vs g) (rdT ft) (rdI fi1) (rdG vs1 g1) (rdT ft1) (rdE fe) vs vs1 σ H Q := by
  obtain ⟨m, S, ρ, d, S', R, E, e, q⟩ := h
  unfold evComp2 at e
  cases h0 : fi ρ S with
  | bad => rw [h0] at e; cases e
  | ok src S1 =>
    rw [h0] at e
    dsimp only at e
    refine ⟨m, S, ρ, src, S1, R, E, h0, fun m0 H0 J X0 OK L hL => ?_⟩
    have XA : Ext m0 (withAt m0 S1.len L) S1 (S1.add (.lst [])) H0 (upd H0 L (.lst [])) := Ext.add X0.rel hL ⟨[], upd_same, rfl⟩
    have hml : withAt m0 S1.len L S1.len = L := withAt_same ..
    have hln : S1.len < (S1.add (.lst [])).len := by rw [Sto.add_len]; exact Nat.lt_succ_self _
    generalize withAt m0 S1.len L = mA at XA hml
    generalize S1.add (.lst []) = SA at e XA hln
    generalize upd H0 L (.lst []) = HA at XA
    generalize S1.len = n at e hml hln
    refine ⟨fun i k H => ∃ m2 S2, Ext mA m2 SA S2 HA H ∧ ∃ d S', comp2L src n g ft fi1 vs1 g1 ft1 fe (wipeE ρ vs) k i S2 = .ok d S' ∧ ∀ m' H' v, Ext m2 m' S2 S' H H' → RD m' S'.len H' d v → Q v H', ⟨_, mA, SA, Ext.refl XA.rel, d, S', e, fun m' H' v X' r' => q m' H' v (X0.trans (XA.trans X')) r'⟩, ?_⟩
    rintro i k H ⟨m2, S2, X2, d, S', e, q⟩
    have hm2 : m2 n = L := by rw [X2.ag n hln]; exact hml
    have X02 := X0.trans (XA.trans X2)
    have E2 := E.ext X02
    cases k with
    | zero => cases e
    | succ k =>
      simp only [comp2L] at e
      obtain ⟨ok1, ok2⟩ := OK m2 S2 H i (XA.trans X2)
      split at e
      · rename_i d0 hd
        obtain ⟨go, yl⟩ := ok1 d0 hd
        refine .inr ⟨go, fun H => ∃ m2 S2, Ext mA m2 SA S2 HA H ∧ ∃ d S', comp2L src n g ft fi1 vs1 g1 ft1 fe (wipeE ρ vs) k (i + 1) S2 = .ok d S' ∧ ∀ m' H' v, Ext m2 m' S2 S' H H' → RD m' S'.len H' d v → Q v H', fun H' z => ⟨k, Nat.lt_succ_self k, z⟩, fun x H' y => ?_⟩
        obtain ⟨XY, rx⟩ := yl x H' y
        split at e
        · rename_i ρ1 S3 h3
          refine ⟨m2, S2, wipeE ρ vs, d0, ρ1, S3, XY.rel, (E2.ext XY).wipe vs, rx, h3, fun m3 H3 σ3 X3 E3 C3 => ⟨wipe_chg C3, ?_⟩⟩
          split at e
          · rename_i b S4 h4
            refine ⟨m3, S3, ρ1, b, S4, X3.rel, E3, h4, fun m4 H4 X4 => ?_⟩
            have X24 := XY.trans (X3.trans X4)
            cases b with
            | false =>
              dsimp only
              rw [if_neg Bool.false_ne_true]
              exact ⟨m4, S4, X2.trans X24, d, S', e, fun m' H' v X' r' => q m' H' v (X24.trans X') r'⟩
            | true =>
              dsimp only at e ⊢
              rw [if_pos rfl]
              split at e
              · rename_i src1 S5 h5
                refine ⟨m4, S4, ρ1, src1, S5, X4.rel, E3.ext X4, h5, fun m5 H5 J1 X5 OK1 => ?_⟩
                split at e
                · rename_i u S6 h6
                  have X25 := X24.trans X5
                  have hm5 : m5 n = L := by rw [X25.ag n (Nat.lt_of_lt_of_le hln X2.len)]; exact hm2
                  refine rd_in hm5 (Nat.lt_of_lt_of_le hln (Nat.le_trans X2.len X25.len)) ((E3.ext X4).ext X5) X5.rel OK1 h6 fun m' H' X6 => ?_
                  exact ⟨m', S6, X2.trans (X25.trans X6), d, S', e, fun m'' H'' v X' r' => q m'' H'' v (X25.trans (X6.trans X')) r'⟩
                · cases e
              · cases e
          · cases e
        · cases e
      · rename_i hd
        cases e
        exact .inl ⟨ok2 hd, q m2 H _ (Ext.refl X2.rel) ⟨Nat.lt_of_lt_of_le hln X2.len, by rw [hm2]⟩⟩
      · cases e
variable {elt tg iter tg1 iter1 : Expr} {ifs ifs1 : List Expr} {scope : Scope} {own : List (Str × Nat)} {vs1 : List Nat} {pos : Pos} {fi fi1 : Iv} {g g1 : Gv} {ft ft1 fe : Ev}
theorem pev_comp2 (hc : X.calm = true) (hN : X.N.Nodup) (hi : PI X tg iter (rdI fi)) (ok : BlkOk X.N X.env.scope scope own) (hv : ∀ i ∈ vs1, i ∈ own.map (·.2))
    (hg : ∀ (s : Shared) (H : Hp) (C : Addr) (cl : List (Str × Addr)) (fp : List Addr), PG (X.blk s H scope (compEnvC scope cl C X.env) fp) tg (rdG (own.map (·.2)) g)) (ht : ∀ (s : Shared) (H : Hp) (C : Addr) (cl : List (Str × Addr)) (fp : List Addr), PTs (X.blk s H scope (compEnvC scope cl C X.env) fp) ifs (rdT ft))
    (hi1 : ∀ (s : Shared) (H : Hp) (C : Addr) (cl : List (Str × Addr)) (fp : List Addr), PI (X.blk s H scope (compEnvC scope cl C X.env) fp) tg1 iter1 (rdI fi1))
    (hg1 : ∀ (s : Shared) (H : Hp) (C : Addr) (cl : List (Str × Addr)) (fp : List Addr), PG (X.blk s H scope (compEnvC scope cl C X.env) fp) tg1 (rdG vs1 g1)) (ht1 : ∀ (s : Shared) (H : Hp) (C : Addr) (cl : List (Str × Addr)) (fp : List Addr), PTs (X.blk s H scope (compEnvC scope cl C X.env) fp) ifs1 (rdT ft1))
    (he : ∀ (s : Shared) (H : Hp) (C : Addr) (cl : List (Str × Addr)) (fp : List Addr), PE (X.blk s H scope (compEnvC scope cl C X.env) fp) elt (rdE fe)) (hs : ∀ x, foldedSetIterable iter X.env x = pure x) (hs1 : ∀ env x, foldedSetIterable iter1 env x = pure x) :
    PE X (.ListComp elt [⟨tg, iter, ifs, 0⟩, ⟨tg1, iter1, ifs1, 0⟩] scope pos) (rdE (evComp2 fi (own.map (·.2)) g ft fi1 vs1 g1 ft1 fe)) := PE.of (pe_lc2 hc hN hi ok hv hg ht hi1 hg1 ht1 he hs hs1) fun _ _ _ h => rd_comp2 h
theorem psv_setComp2 {i : Nat} {y : Str} {py spos : Pos} (hc : X.calm = true) (hN : X.N.Nodup) (hy : X.N[i]? = some y) (hyl : X.env.scope.names.lookup y = some .local)
    (hsw : swapsWith (.ListComp elt [⟨tg, iter, ifs, 0⟩, ⟨tg1, iter1, ifs1, 0⟩] scope pos) (some (.Name y py)) spos.line X.env = pure true) (hi : PI X tg iter (rdI fi)) (ok : BlkOk X.N X.env.scope scope own) (hv : ∀ i ∈ vs1, i ∈ own.map (·.2))
    (hg : ∀ (s : Shared) (H : Hp) (C : Addr) (cl : List (Str × Addr)) (fp : List Addr), PG (X.blk s H scope (compEnvC scope cl C X.env) fp) tg (rdG (own.map (·.2)) g)) (ht : ∀ (s : Shared) (H : Hp) (C : Addr) (cl : List (Str × Addr)) (fp : List Addr), PTs (X.blk s H scope (compEnvC scope cl C X.env) fp) ifs (rdT ft))
    (hi1 : ∀ (s : Shared) (H : Hp) (C : Addr) (cl : List (Str × Addr)) (fp : List Addr), PI (X.blk s H scope (compEnvC scope cl C X.env) fp) tg1 iter1 (rdI fi1))
    (hg1 : ∀ (s : Shared) (H : Hp) (C : Addr) (cl : List (Str × Addr)) (fp : List Addr), PG (X.blk s H scope (compEnvC scope cl C X.env) fp) tg1 (rdG vs1 g1)) (ht1 : ∀ (s : Shared) (H : Hp) (C : Addr) (cl : List (Str × Addr)) (fp : List Addr), PTs (X.blk s H scope (compEnvC scope cl C X.env) fp) ifs1 (rdT ft1))
    (he : ∀ (s : Shared) (H : Hp) (C : Addr) (cl : List (Str × Addr)) (fp : List Addr), PE (X.blk s H scope (compEnvC scope cl C X.env) fp) elt (rdE fe)) (hs : ∀ x, foldedSetIterable iter X.env x = pure x) (hs1 : ∀ env x, foldedSetIterable iter1 env x = pure x) :
    PS X (.Assign [.Name y py] (.ListComp elt [⟨tg, iter, ifs, 0⟩, ⟨tg1, iter1, ifs1, 0⟩] scope pos) spos) (rdS (svAsg (evComp2 fi (own.map (·.2)) g ft fi1 vs1 g1 ft1 fe) (gvName i))) := PS.of (ps_setLc2 hc hN hy hyl hsw hi ok hv hg ht hi1 hg1 ht1 he hs hs1) fun D σ H h => by
  obtain ⟨m, S, ρ, d, S1, R, E, h1, q⟩ := rd_asg (sl := [i]) h
  have h2 : rdE (evComp2 fi (own.map (·.2)) g ft fi1 vs1 g1 ft1 fe) σ H (fun x H1 => gName i x σ H1 D.nx) := ⟨m, S, ρ, d, S1, R, E, h1, fun m1 H1 v1 X1 r1 => by
    obtain ⟨m2, S2, ρ2, d2, ρ', S', R2, E2, r2, e2, q2⟩ := q m1 H1 v1 X1 r1
    cases e2
    exact q2 m2 H1 _ (Ext.refl R2) (E2.set i r2) (Chg.set (List.mem_singleton.mpr rfl) _)⟩
  exact rd_comp2 h2
end
end Sw

/-! Eng12d: sorted. -/
namespace Sw
open PySem PySem.Spec PyProof.Rows L2
abbrev leP : PyData × D → PyData × D → Bool := PySem.W.dataLe false fun b : PyData × D => b.1
theorem leP_eq (a b : PyData × D) : leP a b = !PySem.W.dataLt b.1 a.1 := rfl
theorem insD_eq {x : PyData × D} : ∀ {l₁ l₂ : List (PyData × D)}, (∀ b ∈ l₁, leP x b = false) → (∀ b ∈ l₂, leP x b = true) → insD x (l₁ ++ l₂) = l₁ ++ x :: l₂
  | [], [], _, _ => rfl
  | [], y :: r, _, h => by
    have h1 := h y List.mem_cons_self
    rw [leP_eq, Bool.not_eq_true'] at h1
    show insD x (y :: r) = _
    unfold insD
    rw [h1]
    rfl
  | y :: r, l₂, h, h2 => by
    have h1 := h y List.mem_cons_self
    rw [leP_eq, Bool.not_eq_false'] at h1
    show insD x (y :: (r ++ l₂)) = _
    unfold insD
    rw [h1]
    show y :: insD x (r ++ l₂) = _
    rw [insD_eq (fun b hb => h b (List.mem_cons_of_mem _ hb)) h2]
    rfl
theorem leP_tot : PySem.W.TotalLe leP := PySem.W.sortLe_total _ _ _
theorem sortL_eq : ∀ l : List (PyData × D), sortL l = l.mergeSort leP
  | [] => by simp [sortL]
  | x :: l => by
    have tr : ∀ a b c : PyData × D, leP a b = true → leP b c = true → leP a c = true := fun a b c => leP_tot.trans a b c
    have to : ∀ a b : PyData × D, (leP a b || leP b a) = true := fun a b => Bool.or_eq_true_iff.mpr (leP_tot.total a b)
    obtain ⟨l₁, l₂, h1, h2, h3⟩ := List.mergeSort_cons tr to x l
    unfold sortL
    rw [sortL_eq l, h1, h2]
    refine insD_eq (fun b hb => by have := h3 b hb; simpa using this) fun b hb => ?_
    have hs := List.pairwise_mergeSort tr to (x :: l)
    rw [h1] at hs
    have hs2 := (List.pairwise_append.mp hs).2.1
    exact (List.pairwise_cons.mp hs2).1 b hb
section
variable {X : Cx}
theorem resPairs_each {pins : List (Addr × Obj)} {s : Shared} {σ : L2.St} {m : Nat → Addr} {S : Sto} {H : Hp} (I : Inv X pins σ H s) (R : Rel m S H) : ∀ {xs : List D} {vs : List V} {us : List Value} {ps : List (PyData × D)}, RDs m S.len H xs vs → Vals vs us → resPairs S xs = some ps →
    PySem.W.EachIs (fun u b => ∃ v, RelV v u ∧ RD m S.len H b.2 v) us ps ∧ PySem.W.EachIs (fun u (b : PyData × D) => ∃ as, Reads s.heap u b.1 as) us ps
  | [], vs, us, ps, r, z, e => by
    cases (show vs = [] from r)
    cases z
    cases e
    exact ⟨.nil, .nil⟩
  | d :: xs, vs, us, ps, r, z, e => by
    obtain ⟨v, vs, rfl, r1, r2⟩ := r
    cases z with
    | cons z1 z2 =>
      unfold resPairs at e
      split at e
      · rename_i p hp
        split at e
        · rename_i ps' hps
          cases e
          obtain ⟨h1, h2⟩ := resPairs_each I R r2 z2 hps
          obtain ⟨d1, p1⟩ := res_dp R r1 hp
          obtain ⟨as, r3⟩ := Dp.reads I p v _ d1 z1
          exact ⟨.cons ⟨v, z1, r1⟩ h1, .cons ⟨as, r3⟩ h2⟩
        · cases e
      · cases e
theorem each_back {m : Nat → Addr} {k : Nat} {H : Hp} : ∀ {us : List Value} {ps : List (PyData × D)}, PySem.W.EachIs (fun u b => ∃ v, RelV v u ∧ RD m k H b.2 v) us ps → ∃ vs, Vals vs us ∧ RDs m k H (ps.map (·.2)) vs
  | _, _, .nil => ⟨[], .nil, rfl⟩
  | _, _, .cons ⟨v, h1, h2⟩ t => by
    obtain ⟨vs, h3, h4⟩ := each_back t
    exact ⟨v :: vs, .cons h1 h3, v, vs, rfl, h2, h4⟩
theorem sortOk_ok {ps : List (PyData × D)} (h : sortOk ps = true) : PySem.W.AllAlike (ps.map (·.1)) ∧ PySem.W.Sortable (ps.map (·.1)) ∧ (∀ b ∈ ps, b.1.depth ≤ 60) ∧ ps.length ≤ sizeLine := by
  unfold sortOk at h
  simp only [Bool.and_eq_true, Bool.or_eq_true] at h
  obtain ⟨⟨⟨h1, h2⟩, h3⟩, h4⟩ := h
  refine ⟨fun d hd d' hd' => ?_, ?_, fun b hb => Nat.le_of_ble_eq_true (List.all_eq_true.mp h3 b hb), fits_le h4⟩
  · obtain ⟨b, hb, rfl⟩ := List.mem_map.mp hd
    obtain ⟨b', hb', rfl⟩ := List.mem_map.mp hd'
    exact List.all_eq_true.mp (List.all_eq_true.mp h1 b hb) b' hb'
  · rcases h2 with h2 | h2
    · refine .inl fun d hd => ?_
      obtain ⟨b, hb, rfl⟩ := List.mem_map.mp hd
      have := List.all_eq_true.mp h2 b hb
      unfold isTupP at this
      split at this
      · rename_i x r e; exact ⟨x, r, e⟩
      · cases this
    · refine .inr fun d hd => ?_
      obtain ⟨b, hb, rfl⟩ := List.mem_map.mp hd
      have := List.all_eq_true.mp h2 b hb
      unfold isFlatP at this
      split at this
      · rename_i x e; rw [e]; exact ⟨by simp, by simp⟩
      · rename_i x e; rw [e]; exact ⟨by simp, by simp⟩
      · cases this
theorem crv_sorted (hu : X.A.units + 64 < cLine) : CallR X (.builtin "sorted") (rdN sortedN) := by
  intro pins s σ H xs us Q I r h
  obtain ⟨m, S, ds, d, S', R, rr, e, q⟩ := h
  unfold sortedN at e
  split at e
  · obtain ⟨v, rfl, hn, rfl⟩ := rr.one1
    split at e
    · rename_i ys hl
      split at e
      · rename_i ps hps
        split at e
        · rename_i hok
          cases e
          obtain ⟨vs, h1, h2, _⟩ := R.sqL (K := X.K) hl
          obtain ⟨its, rv, pl, hz⟩ := I.list h1
          rw [Vals.ref1 r]
          obtain ⟨e1, e2⟩ := resPairs_each I R h2 rv hps
          obtain ⟨o1, o2, o3, o4⟩ := sortOk_ok hok
          refine PySem.W.sorted_data (enc := fun b : PyData × D => b.1) pl.isList e1 e2 o1 o2 o4 (fun b hb => by have := o3 b hb; omega) fun out hlen ho => ?_
          rw [← sortL_eq ps] at ho
          obtain ⟨ws, w1, w2⟩ := each_back ho
          obtain ⟨ep, he'⟩ := PyProof.Rows.sortedAll_at s.heap its out.toArray
          have hl2 : ws.length ≤ sizeLine := by rw [w1.length, hlen]; exact o4
          exact ⟨.ref _, upd H (s.heap.objs.size + 1) (.lst ws), I.laid (t' := s.toks) (fun _ _ => PyProof.Rows.sortedAll_old) (Nat.le_succ _) ⟨hl2, out, ep, w1, he'⟩, rfl, goLst R w2 q _ (I.hok.fresh (Nat.le_succ _))⟩
        · cases e
      · cases e
    · cases e
  · cases e
end
end Sw

/-! Eng12e: comprehensions of sets of whole numbers; len of such a set. -/
namespace Sw
open PySem PySem.Spec PyProof.Rows L2
/-- what {elt for target in iter if ..} asks, elt a whole number; B the new set -/
def tSi (wi : TI) (g : TG) (tt : TT) (te : TE) (vs : List Nat) : TE := fun σ H Q => wi σ H fun J Ha => ∀ B, Ha B = none → ∃ W : Nat → Nat → Hp → Prop, (∃ m, W 0 m (upd Ha B (.set (fun _ => false) 0))) ∧ ∀ i m H, W i m H →
  (J.stop i H ∧ Q (.ref B) H) ∨ (J.go i H ∧ ∃ Nx : Hp → Prop, (∀ H', Nx H' → ∃ m', m' < m ∧ W (i + 1) m' H') ∧ ∀ x H', J.yld i H x H' → g x (wipe σ vs) H' fun τ Hb => wipe τ vs = wipe σ vs ∧ tt τ Hb fun b Hc =>
    if b = true then te τ Hc fun y Hd => ∃ (c : Int) (S : Int → Bool) (n : Nat), y = .int c ∧ Hd B = some (.set S n) ∧ n + 1 < scanBound ∧ Nx (upd Hd B (.set (fun j => S j || decide (j = c)) (if S c = true then n else n + 1))) else Nx Hc)
section
variable {X : Cx}
theorem set_add_run {pins : List (Addr × Obj)} {σ : L2.St} {H : Hp} {s : Shared} {E : Value → Shared → Prop} {B : Addr} {S : Int → Bool} {n : Nat} {c : Int} {t : Tok} {Q : Value → Shared → Prop} (I : Inv X pins σ H s) (hB : H B = some (.set S n)) (room : n + 1 < scanBound)
    (h : ∀ s', Inv X pins σ (upd H B (.set (fun j => S j || decide (j = c)) (if S c = true then n else n + 1))) s' → Q .none s') : wpAny (model X.prog X.w) X.A (call (.builtin "set.add") [.ref B, .int c t]) Q E s := by
  have R : s.heap.SetOf (intKind X.prog X.w) B S n := I.hok B _ hB
  refine call_set_add (knd := intKind X.prog X.w) (k := c) (by show Value.isInt c (.int c t) = true; simp [Value.isInt]) rfl R room fun h' sb new => ?_
  have live : ∃ u, h'.get? B = some u := by
    obtain ⟨o, _, _, _, ho, _⟩ := id new
    exact ⟨o, ho⟩
  exact h _ (I.write (e := B) (t' := s.toks + 1) (by rw [hB]; trivial) (.inl rfl) (fun b u hb hu => (sb.2 b hb).trans hu) live new)
theorem si_run {pins : List (Addr × Obj)} {s : Shared} {σ : L2.St} {H : Hp} {Q : VK} {elt tg iter : Expr} {ifs : List Expr} {scope : Scope} {own : List (Str × Nat)} {pos pos' : Pos} {wi : TI} {g : TG} {tt : TT} {te : TE} {Qf : Value → Shared → Prop}
    (calm : X.calm = true) (nd : X.N.Nodup) (I : Inv X pins σ H s) (hi : PI X tg iter wi) (bk : BlkOk X.N X.env.scope scope own)
    (hg : ∀ (s : Shared) (H : Hp) (C : Addr) (cl : List (Str × Addr)) (fp : List Addr), PG (X.blk s H scope (compEnvC scope cl C X.env) fp) tg g) (ht : ∀ (s : Shared) (H : Hp) (C : Addr) (cl : List (Str × Addr)) (fp : List Addr), PTs (X.blk s H scope (compEnvC scope cl C X.env) fp) ifs tt)
    (he : ∀ (s : Shared) (H : Hp) (C : Addr) (cl : List (Str × Addr)) (fp : List Addr), PE (X.blk s H scope (compEnvC scope cl C X.env) fp) elt te) (hs : ∀ x, foldedSetIterable iter X.env x = pure x)
    (h : tSi wi g tt te (own.map (·.2)) σ H Q)
    (fin : ∀ B C s' m H', Inv X pins σ H' s' → Q (.ref B) H' → s'.heap.Ns C m → FpOk X pins H' C → compPost (model X.prog X.w) X.A X.xe none Qf (.ref B) C (.ok .next) s') :
    wpAny (model X.prog X.w) X.A (comprehension (.SetComp elt [⟨tg, iter, ifs, 0⟩] scope pos) scope X.env pos' (newSet (.type "set")) false (eval iter X.env) none) Qf X.xe s := by
  have fr : ∀ y ∈ scope.names, y.2 = .free → ∃ c, X.env.cells.lookup y.1 = some c := fun y hy e => (bk.free y hy e).elim (fun k => I.ok.has _ (.inl k)) fun k => I.ok.has _ (.inr k)
  refine wpAny_comprehension_free (use := none) rfl hs (closure_ok fr) bk.kind (fun y hy e => by rw [bk.uniq y hy, e]) (thn (hi.run pins s σ H _ I h) fun xv sa hx => thn hx fun itv sb hb => ?_)
  obtain ⟨it, fp, tn, J, Ha, e, Ia, T, sta, fa, q⟩ := hb
  subst e
  refine PpSet.newSet_ok (newEnv_comp ?_)
  generalize hBe : sb.heap.objs.size = B
  have hBn : Ha B = none := Ia.hok.fresh (Nat.le_of_eq hBe)
  obtain ⟨W, ⟨m0, w0⟩, turn⟩ := q B hBn
  generalize hsc : ({ sb with heap := sb.heap.push { cls := .type "set", dict := none, data := .set #[] 0 (.fresh 0 0 (!X.w.params.followText "set-order")) } } : Shared) = sc
  have hc : sc.heap = sb.heap.push { cls := .type "set", dict := none, data := .set #[] 0 (.fresh 0 0 (!X.w.params.followText "set-order")) } := by rw [← hsc]
  have Ic : Inv X pins σ (upd Ha B (.set (fun _ => false) 0)) sc := by
    rw [← hsc]
    refine Ia.laid (t' := sb.toks) (fun b o e => Heap.get?_push_of_some _ e) (Nat.le_of_eq hBe) ?_
    rw [← hBe]
    exact PyProof.Rows.setObjOf_fresh (knd := intKind X.prog X.w) _ |>.setOf (Heap.get?_push_size _ rfl) (by decide)
  have small : ∀ b ∈ fp, b < sb.heap.objs.size := fun b hb => by
    obtain ⟨o, e, _⟩ := T.obj _ _ sta b hb
    exact Heap.lt_size e
  have fc : ∀ b ∈ fp, FpOk X pins (upd Ha B (.set (fun _ => false) 0)) b ∧ b < sc.heap.objs.size := fun b hb => by
    have lt := small b hb
    refine ⟨⟨?_, (fa b hb).2⟩, by rw [hc, Heap.size_push]; exact Nat.lt_succ_of_lt lt⟩
    rw [upd_ne (by rw [← hBe]; exact Nat.ne_of_lt lt)]
    exact (fa b hb).1
  have stc : tn 0 sc.heap := T.keep _ _ _ sta fun b _ o e => by rw [hc]; exact Heap.get?_push_of_some _ e
  have Id := block_start Ic bk nd fc
  have pg := hg sc (upd Ha B (.set (fun _ => false) 0)) sc.heap.objs.size (cellsFrom (sc.heap.objs.size + 1) scope.names (cloFrom X.env.cells scope.names [])) fp
  have pt := ht sc (upd Ha B (.set (fun _ => false) 0)) sc.heap.objs.size (cellsFrom (sc.heap.objs.size + 1) scope.names (cloFrom X.env.cells scope.names [])) fp
  have pe := he sc (upd Ha B (.set (fun _ => false) 0)) sc.heap.objs.size (cellsFrom (sc.heap.objs.size + 1) scope.names (cloFrom X.env.cells scope.names [])) fp
  show codeAny _ _ (.compStart (.SetComp elt [⟨tg, iter, ifs, 0⟩] scope pos) 0 (.ref it) (.ref B) (compEnvC scope (cellsFrom (sc.heap.objs.size + 1) scope.names (cloFrom X.env.cells scope.names [])) sc.heap.objs.size X.env)) (compPost (model X.prog X.w) X.A X.xe none Qf (.ref B) sc.heap.objs.size) { sc with heap := pushCells (sc.heap.push { cls := .type "dict", data := .dict #[] }) scope.names }
  have nfp : ∀ b ∈ fp, (upd Ha B (.set (fun _ => false) 0)) b = none := fun b hb => (fc b hb).1.1
  generalize hce : compEnvC scope (cellsFrom (sc.heap.objs.size + 1) scope.names (cloFrom X.env.cells scope.names [])) sc.heap.objs.size X.env = ce at Id pg pt pe ⊢
  have locs : ce.locals = sc.heap.objs.size := by subst hce; rfl
  generalize hHc : upd Ha B (.set (fun _ => false) 0) = Hc at Ic Id pg pt pe w0 nfp fc
  generalize hsd : ({ sc with heap := pushCells (sc.heap.push { cls := .type "dict", data := .dict #[] }) scope.names } : Shared) = sd at Id ⊢
  have std : tn 0 sd.heap := T.keep _ _ _ stc fun b _ o e => by rw [← hsd]; exact pushCells_keeps _ _ _ _ (Heap.get?_push_of_some _ e)
  have kept : ∀ {τ : L2.St} {H' : Hp} {s' : Shared}, Inv (X.blk sc Hc scope ce fp) [] τ H' s' → (∀ b ∈ fp, H' b = none) → ∀ b ∈ fp, FpOk (X.blk sc Hc scope ce fp) [] H' b := fun {τ H' s'} I' hn b hb =>
    ⟨hn b hb, (I'.ok.exf b hb).1, I'.ok.exfs b hb, .inl hb, fun x c e => (I'.ok.exf b hb).2 x c e, fun p hp => absurd (show p ∈ ([] : List (Addr × Obj)) ++ [] from hp) (by simp)⟩
  have loop : codeAny (model X.prog X.w) X.A (.compLoop (.SetComp elt [⟨tg, iter, ifs, 0⟩] scope pos) 0 (.ref it) (.ref B) ce) (compPost (model X.prog X.w) X.A X.xe none Qf (.ref B) sc.heap.objs.size) sd := by
    refine PpSet.compLoopS_any (fun n s' => ∃ i H', Inv (X.blk sc Hc scope ce fp) [] (wipe σ (own.map (·.2))) H' s' ∧ tn i s'.heap ∧ (∀ b ∈ fp, H' b = none) ∧ W i n H') ?_ m0 ⟨0, Hc, Id, std, nfp, w0⟩
    rintro n se ⟨i, He, Ie, ste, ne, we⟩
    rcases turn i n He we with ⟨stop, qq⟩ | ⟨go, Nx, hNx, step⟩
    · refine thnF (T.done (X.blk sc Hc scope ce fp) rfl rfl rfl calm i [] se _ He (fun _ _ => False) Ie (kept Ie ne) ste stop) fun r sf ⟨hr, If⟩ => ?_
      subst hr
      have Ig : Inv X pins σ He sf := Ic.call' (ch := fp) If.os If.base If.hok If.bare fun b hb => ⟨(fc b hb).1.2.2.2.1, (fc b hb).1.2.1, (fc b hb).1.2.2.2.2.1, (fc b hb).1.2.2.2.2.2⟩
      have nC : He sc.heap.objs.size = none := by
        have z : He ce.locals = none := If.free
        rwa [locs] at z
      obtain ⟨m, hn, _⟩ := If.loc
      have hn : sf.heap.Ns ce.locals m := hn
      rw [locs] at hn
      exact fin B sc.heap.objs.size sf m He Ig qq hn (Ic.fpOk (Nat.le_refl _) nC)
    · refine thnF (T.item (X.blk sc Hc scope ce fp) rfl rfl rfl calm i [] se _ He (fun _ _ => False) Ie (kept Ie ne) ste go) fun r sf ⟨u, hr, hf⟩ => ?_
      subst hr
      refine thnF hf fun _ sg ⟨x, Hg, Ig, rg, yg, stg, ng⟩ => ?_
      refine thnF (pg.run _ sg _ Hg x u _ (Ig.pinned (kept Ig ng) (T.obj _ _ stg)) rg (step x Hg yg)) fun _ sh ⟨τ, Hh, Ih, hwh, qh⟩ => ?_
      refine thnF (pt.run _ sh τ Hh _ Ih qh) fun b sj ⟨Hj, Ij, qj⟩ => ?_
      have done : ∀ {s' : Shared} {H' : Hp}, Inv (X.blk sc Hc scope ce fp) ([] ++ pinsAt fp sg.heap) τ H' s' → Nx H' → ∃ m, m < n ∧ ∃ i H', Inv (X.blk sc Hc scope ce fp) [] (wipe σ (own.map (·.2))) H' s' ∧ tn i s'.heap ∧ (∀ b ∈ fp, H' b = none) ∧ W i m H' := fun {s' H'} I' nx => by
        obtain ⟨m', hm, w'⟩ := hNx H' nx
        have held : ∀ b ∈ fp, ∀ o, sg.heap.get? b = some o → s'.heap.get? b = some o ∧ H' b = none := fun b hb o e =>
          have z := I'.pin (b, o) (List.mem_append_right _ (List.mem_append_right _ (mem_pinsAt hb e)))
          ⟨z.1, z.2.1⟩
        have hl : (wipe σ (own.map (·.2))).length = τ.length := by rw [← hwh, wipe_length]
        refine ⟨m', hm, i + 1, H', (I'.unpinned (pins := [])).weak hl (fun j v e => ?_), T.keep _ _ _ stg fun b hb o e => (held b hb o e).1, fun b hb => ?_, w'⟩
        · rw [← hwh] at e
          exact (wipe_some e).1
        · obtain ⟨o, e, _⟩ := T.obj _ _ stg b hb
          exact (held b hb o e).2
      cases b with
      | false =>
        simp only [Bool.false_eq_true, if_false] at qj ⊢
        exact done Ij qj
      | true =>
        simp only [if_true] at qj ⊢
        refine thnF (pe.run _ sj τ Hj _ Ij qj) fun z sk ⟨yv, Hk, Ik, rk, ci, S0, n0, ey, hBk, hzk, nx⟩ => ?_
        subst ey
        obtain ⟨tk, rfl⟩ := (show RelV (.int ci) z from rk)
        exact set_add_run (X := X.blk sc Hc scope ce fp) Ik hBk hzk fun sl Il => done Il nx
  exact PpSet.codeAny_compStart_set loop (T.self X.A 0 _ _ _ std loop)
end
end Sw

/-! Eng12f: comprehensions of sets, read off the evaluator; len of them. -/
namespace Sw
open PySem PySem.Spec PyProof.Rows L2
section
variable {X : Cx}
theorem contains_ins (acc : List Int) (y : Int) : (fun j => (match acc.contains y with | true => acc | false => y :: acc).contains j) = fun j => acc.contains j || decide (j = y) := by
  funext j
  cases h : acc.contains y with
  | true =>
    dsimp only
    by_cases e : j = y
    · subst e; rw [h]; simp
    · simp [e]
  | false =>
    dsimp only
    rw [List.contains_cons]
    by_cases e : j = y
    · subst e; simp
    · have : (j == y) = false := by simpa using e
      rw [this]; simp [e]
theorem length_ins (acc : List Int) (y : Int) : (match acc.contains y with | true => acc | false => y :: acc).length = if acc.contains y = true then acc.length else acc.length + 1 := by
  cases h : acc.contains y with
  | true => simp
  | false => simp
theorem rd_sc {fi : Iv} {vs : List Nat} {g : Gv} {ft fe : Ev} {σ : L2.St} {H : Hp} {Q : VK} (h : rdE (evSc fi vs g ft fe) σ H Q) : tSi (rdI fi) (rdG vs g) (rdT ft) (rdE fe) vs σ H Q := by
  obtain ⟨m, S, ρ, d, S', R, E, e, q⟩ := h
  unfold evSc at e
  cases h0 : fi ρ S with
  | bad => rw [h0] at e; cases e
  | ok src S1 =>
    rw [h0] at e
    dsimp only at e
    refine ⟨m, S, ρ, src, S1, R, E, h0, fun m0 H0 J X0 OK L hL => ?_⟩
    have XA : Ext m0 (withAt m0 S1.len L) S1 (S1.add (.set [])) H0 (upd H0 L (.set (fun _ => false) 0)) := Ext.add X0.rel hL (by show upd H0 L (.set (fun _ => false) 0) L = _; rw [upd_same]; rfl)
    have hml : withAt m0 S1.len L S1.len = L := withAt_same ..
    have hln : S1.len < (S1.add (.set [])).len := by rw [Sto.add_len]; exact Nat.lt_succ_self _
    generalize withAt m0 S1.len L = mA at XA hml
    generalize S1.add (.set []) = SA at e XA hln
    generalize upd H0 L (.set (fun _ => false) 0) = HA at XA
    generalize S1.len = n at e hml hln
    refine ⟨fun i k H => ∃ m2 S2, Ext mA m2 SA S2 HA H ∧ ∃ d S', scL src n g ft fe (wipeE ρ vs) k i S2 = .ok d S' ∧ ∀ m' H' v, Ext m2 m' S2 S' H H' → RD m' S'.len H' d v → Q v H', ⟨_, mA, SA, Ext.refl XA.rel, d, S', e, fun m' H' v X' r' => q m' H' v (X0.trans (XA.trans X')) r'⟩, ?_⟩
    rintro i k H ⟨m2, S2, X2, d, S', e, q⟩
    have hm2 : m2 n = L := by rw [X2.ag n hln]; exact hml
    have X02 := X0.trans (XA.trans X2)
    have E2 := E.ext X02
    cases k with
    | zero => cases e
    | succ k =>
      simp only [scL] at e
      obtain ⟨ok1, ok2⟩ := OK m2 S2 H i (XA.trans X2)
      split at e
      · rename_i d0 hd
        obtain ⟨go, yl⟩ := ok1 d0 hd
        refine .inr ⟨go, fun H => ∃ m2 S2, Ext mA m2 SA S2 HA H ∧ ∃ d S', scL src n g ft fe (wipeE ρ vs) k (i + 1) S2 = .ok d S' ∧ ∀ m' H' v, Ext m2 m' S2 S' H H' → RD m' S'.len H' d v → Q v H', fun H' z => ⟨k, Nat.lt_succ_self k, z⟩, fun x H' y => ?_⟩
        obtain ⟨XY, rx⟩ := yl x H' y
        split at e
        · rename_i ρ1 S3 h3
          refine ⟨m2, S2, wipeE ρ vs, d0, ρ1, S3, XY.rel, (E2.ext XY).wipe vs, rx, h3, fun m3 H3 σ3 X3 E3 C3 => ⟨wipe_chg C3, ?_⟩⟩
          split at e
          · rename_i b S4 h4
            refine ⟨m3, S3, ρ1, b, S4, X3.rel, E3, h4, fun m4 H4 X4 => ?_⟩
            have X24 := XY.trans (X3.trans X4)
            cases b with
            | false =>
              dsimp only
              rw [if_neg Bool.false_ne_true]
              exact ⟨m4, S4, X2.trans X24, d, S', e, fun m' H' v X' r' => q m' H' v (X24.trans X') r'⟩
            | true =>
              dsimp only at e ⊢
              rw [if_pos rfl]
              split at e
              · rename_i y0 S5 h5
                refine ⟨m4, S4, ρ1, .int y0, S5, X4.rel, E3.ext X4, h5, fun m5 H5 v5 X5 r5 => ?_⟩
                split at e
                · rename_i acc ha
                  split at e
                  · rename_i hf
                    have X25 := X24.trans X5
                    have hm5 : m5 n = L := by rw [X25.ag n (Nat.lt_of_lt_of_le hln X2.len)]; exact hm2
                    have hw : H5 (m5 n) = some (.set (fun j => acc.contains j) acc.length) := X5.rel.obj _ _ ha
                    have X6 : Ext m5 m5 S5 (S5.put n (.set (match acc.contains y0 with | true => acc | false => y0 :: acc)) true) H5 (upd H5 (m5 n) (.set (fun j => acc.contains j || decide (j = y0)) (if acc.contains y0 = true then acc.length else acc.length + 1))) := by
                      refine Ext.put X5.rel ha hw True.intro ?_ fun _ _ _ => rfl
                      show upd H5 (m5 n) _ (m5 n) = some (.set (fun j => (match acc.contains y0 with | true => acc | false => y0 :: acc).contains j) (match acc.contains y0 with | true => acc | false => y0 :: acc).length)
                      rw [contains_ins, length_ins, upd_same]
                    rw [hm5] at hw X6
                    refine ⟨y0, _, _, r5, hw, ?_, m5, _, X2.trans (X25.trans X6), d, S', e, fun m' H' v X' r' => q m' H' v (X25.trans (X6.trans X')) r'⟩
                    have := Nat.le_of_ble_eq_true hf
                    omega
                  · cases e
                · cases e
              · cases e
          · cases e
        · cases e
      · rename_i hd
        cases e
        exact .inl ⟨ok2 hd, q m2 H _ (Ext.refl X2.rel) ⟨Nat.lt_of_lt_of_le hln X2.len, by rw [hm2]⟩⟩
      · cases e
theorem crv_lenS : CallR X (.builtin "len") (rdN lenSN) := by
  intro pins s σ H xs us Q I r h
  obtain ⟨m, S, ds, d, S', R, rr, e, q⟩ := h
  unfold lenSN at e
  split at e
  · obtain ⟨v, rfl, hn, rfl⟩ := rr.one1
    split at e
    · rename_i ys ho
      split at e
      · rename_i hb
        cases e
        have hw : H (m _) = some (.set (fun j => ys.contains j) ys.length) := R.obj _ _ ho
        obtain ⟨o, es, ep, t, h1, h2, h3, h4, h5, h6, h7, h8⟩ := (show s.heap.SetOf (intKind X.prog X.w) _ _ _ from I.hok _ _ hw)
        rw [Vals.ref1 r]
        refine call_len_set h1 h2 h3 h7 (by have : scanBound = 4096 := rfl; omega) ?_
        exact ⟨.int ys.length, H, I.kept (h' := s.heap) (fun _ _ z => z), ⟨_, by rw [h8]⟩, rdPure R q rfl⟩
      · cases e
    · cases e
  · cases e
variable {elt tg iter : Expr} {ifs : List Expr} {scope : Scope} {own : List (Str × Nat)} {pos p spos : Pos} {fi : Iv} {g : Gv} {ft fe : Ev}
theorem pev_sc (hc : X.calm = true) (hN : X.N.Nodup) (hi : PI X tg iter (rdI fi)) (ok : BlkOk X.N X.env.scope scope own)
    (hg : ∀ (s : Shared) (H : Hp) (C : Addr) (cl : List (Str × Addr)) (fp : List Addr), PG (X.blk s H scope (compEnvC scope cl C X.env) fp) tg (rdG (own.map (·.2)) g)) (ht : ∀ (s : Shared) (H : Hp) (C : Addr) (cl : List (Str × Addr)) (fp : List Addr), PTs (X.blk s H scope (compEnvC scope cl C X.env) fp) ifs (rdT ft))
    (he : ∀ (s : Shared) (H : Hp) (C : Addr) (cl : List (Str × Addr)) (fp : List Addr), PE (X.blk s H scope (compEnvC scope cl C X.env) fp) elt (rdE fe)) (hs : ∀ x, foldedSetIterable iter X.env x = pure x) :
    PE X (.SetComp elt [⟨tg, iter, ifs, 0⟩] scope pos) (rdE (evSc fi (own.map (·.2)) g ft fe)) := by
  refine ⟨fun pins s σ H Q I h => ?_⟩
  rw [PpSet.eval_SetComp]
  refine si_run hc hN I hi ok hg ht he hs (rd_sc h) fun B C s' m H' I' q hn f => ⟨m, hn, fun h'' sb => ?_⟩
  obtain ⟨f0, f1, f2, f3, f4, f5⟩ := f
  exact ⟨.ref B, H', I'.turned (t' := s'.toks) (fun b o hb e => (sb.2 b hb).trans e) f0 f1 f3 f4 f5, rfl, q⟩
end
end Sw

/-! Eng12g: {k: v} with a tuple k. -/
namespace Sw
open PySem PySem.Spec PyProof.Rows L2
section
variable {X : Cx} {k v : Expr} {pos : Pos} {fk fv : Ev}
theorem pev_disp (hu : X.A.units + 1 < cLine) (hk : PE X k (rdE fk)) (hv : PE X v (rdE fv)) : PE X (.Dict [some k] [v] pos) (rdE (evDisp fk fv)) := by
  refine ⟨fun pins s σ H Q I h => ?_⟩
  obtain ⟨m, S, ρ, d, S', R, E, e, q⟩ := h
  unfold evDisp at e
  have new : H s.heap.objs.size = none := I.hok.fresh (Nat.le_refl _)
  have I1 := I.laid (a := s.heap.objs.size) (o := .dT []) (h' := s.heap.push { cls := .type "dict", data := .dict #[] }) (t' := s.toks) (fun _ _ z => Heap.get?_push_of_some _ z) (Nat.le_refl _) (dt_empty s.heap I.big)
  have XA : Ext m (withAt m S.len s.heap.objs.size) S (S.add (.dctT [])) H (upd H s.heap.objs.size (.dT [])) := Ext.add R new ⟨[], upd_same, rfl⟩
  have hml : withAt m S.len s.heap.objs.size S.len = s.heap.objs.size := withAt_same ..
  have hln : S.len < (S.add (.dctT [])).len := by rw [Sto.add_len]; exact Nat.lt_succ_self _
  generalize withAt m S.len s.heap.objs.size = mA at XA hml
  generalize S.add (.dctT []) = SA at e XA hln
  split at e
  · rename_i kd S1 h1
    split at e
    · rename_i vd S2 h2
      split at e
      · rename_i ho
        split at e
        · rename_i S3 h3
          cases e
          have go : rdE fk σ (upd H s.heap.objs.size (.dT [])) fun x H1 => rdE fv σ H1 fun y H2 => H2 s.heap.objs.size = some (.dT []) ∧ ∃ ks b, x = .ref b ∧ H2 b = some (.tup (ks.map kV)) ∧ Q (.ref s.heap.objs.size) (upd H2 s.heap.objs.size (.dT (putK [] ks y))) := by
            refine ⟨mA, SA, ρ, kd, S1, XA.rel, E.ext XA, h1, fun m1 H1 x X1 r1 => ⟨m1, S1, ρ, vd, S2, X1.rel, (E.ext XA).ext X1, h2, fun m2 H2 y X2 r2 => ?_⟩⟩
            obtain ⟨H3, g, X3⟩ := dput_ok X2.rel (RD.ext r1 X2) r2 h3
            have hm2 : m2 S.len = s.heap.objs.size := by rw [X2.ag _ (Nat.lt_of_lt_of_le hln X1.len), X1.ag _ hln]; exact hml
            obtain ⟨ps, g1, g2⟩ := X2.rel.obj _ _ ho
            cases (show ps = [] from g2)
            rw [hm2] at g1 g
            rcases g with ⟨kvs, kk, z, _⟩ | ⟨kvs, kk, b, z1, z2, z3, z4, z5⟩
            · rw [g1] at z; cases z
            · rw [g1] at z1
              cases z1
              refine ⟨g1, kk, b, z2, z3, ?_⟩
              rw [← z5]
              have XX := XA.trans (X1.trans (X2.trans X3))
              exact q m2 H3 _ XX ⟨Nat.lt_of_lt_of_le hln (Nat.le_trans X1.len (Nat.le_trans X2.len X3.len)), by rw [hm2]⟩
          rw [arm_eval_Dict, zip_pairTrees [some k] [v] X.env pos rfl rfl, dictDisplay_pairs (pairTrees [some k] [v] X.env pos) (by intro z; cases z) (by show (1 : Nat) < 17; omega)]
          refine wpAny_bind (wpAny_standAt (wpAny_bind (wpAny_subDictH (knd := tupleKind (mixKind X.prog X.w)) (by show X.A.units < cLine; omega) (by show (1 : Nat) ≤ 15; omega) ?_)))
          refine pairTrees_cons_walk (thn (hk.run pins _ σ _ _ I1 go) fun ku sa ⟨x, Ha, Ia, rx, qa⟩ => thn (hv.run pins sa σ Ha _ Ia qa) fun vu sb ⟨y, Hb, Ib, ry, g1, ks, b, ex, eb, qq⟩ => pairTrees_nil_walk ?_)
          subst ex
          cases (show ku = Value.ref b from rx)
          obtain ⟨z, hd, xs, rel, dd⟩ := dt_of Ib.hok g1
          have hx : xs = [] := by cases rel; rfl
          subst hx
          refine ⟨[(ks, b, vu)], ⟨rfl, rfl, key_of Ib.hok eb, trivial⟩, dd, fun h' tk dd' hs => wpAny_pure ?_⟩
          refine ⟨.ref s.heap.objs.size, _, ?_, rfl, qq⟩
          obtain ⟨ob, es, ep, w1, w2, w3, w4, _, w5⟩ := dd'
          have hl : (putK ([] : List (List Key × V)) ks y).length ≤ sizeLine := by
            have := length_putK ([] : List (List Key × V)) ks y
            rw [sizeLine_eq]
            simp only [List.length_nil] at this
            omega
          refine d_write Ib (by rw [g1]; exact True.intro) hs ⟨ob, w1⟩ ⟨hl, hd, _, (rel.put ks eb ry).keeps fun c ys ec => ?_, ob, es, ep, w1, w2, w3, w4, w5⟩
          rw [upd_ne (ne_of ec g1 (fun z => nomatch z))]
          exact ec
        · cases e
      · cases e
    · cases e
  · cases e
end
end Sw

/-! Eng12h: list(enumerate(t)), t a tuple. -/
namespace PySem
open Sem (wp)
section
variable {prog : Program} {w : World} {A : Around} {E : Value → Shared → Prop} {s : Shared}
theorem Sw_next_held {en it T : Addr} {fp : List Addr} {n j : Nat} {P : Nat → Value → Prop} {St : Nat → Heap → Prop} {old : Value} {fl : Bool} {oT : Obj} {Q : Value → Shared → Prop}
    (D : Draws prog w A it fp n P St) (he : IsEnumHeld s.heap en it j old T fl) (hT : s.heap.get? T = some oT) (hTe : T ≠ en) (hTi : T ≠ it) (hst : St j s.heap) (hlt : j < n) (hne : en ≠ it) (hef : en ∉ fp)
    (hQ : ∀ x hp' tk, P j x → IsEnumHeld hp' en it ((j : Int) + 1) old T true → St (j + 1) hp' → hp'.get? s.heap.objs.size = some { cls := .type "tuple", data := .seq #[.int j tk, x] } → hp'.objs.size = s.heap.objs.size + 1 →
      (∀ b o, b ≠ en → b ≠ it → s.heap.get? b = some o → hp'.get? b = some o) → Q (.ref s.heap.objs.size) { s with heap := hp', toks := tk + 1 }) :
    wpAny (model prog w) A (Builtin.«enumerate.__next__» ⟨[.ref en], []⟩) (fun fin s' => ∃ v, fin = .done (.ret v) ∧ Q v s') E s := by
  obtain ⟨hp, gg, dr, tk0, os⟩ := s
  show wpAny _ _ (field (.ref en) 2 >>= _) _ _ _
  refine wpAny_bind (wpAny_field he rfl (x := .ref it) rfl ?_)
  refine wpAny_bind (D.item j _ _ _ hlt hst fun x ha tk px sta sba => ?_)
  have sba : Heap.SameBut it hp ha := sba
  have ea : IsEnumHeld ha en it j old T fl := (sba.2 en hne).trans he
  have ta : ha.get? T = some oT := (sba.2 T hTi).trans hT
  show wpAny _ _ (field (.ref en) 3 >>= _) _ _ ⟨ha, gg, dr, tk, os⟩
  refine wpAny_bind (wpAny_field ea rfl (x := rawInt j) rfl ?_)
  show wpAny _ _ (field (.ref en) 4 >>= _) _ _ ⟨ha, gg, dr, tk, os⟩
  refine wpAny_bind (wpAny_field ea rfl (x := .none) rfl ?_)
  show wpAny _ _ (mkInt j >>= _) _ _ ⟨ha, gg, dr, tk, os⟩
  refine wpAny_bind (wpAny_mkInt ?_)
  show wpAny _ _ (setField (.ref en) 3 (rawInt ((j : Int) + 1)) >>= _) _ _ ⟨ha, gg, dr, tk + 1, os⟩
  refine wpAny_bind (wpAny_setField_rec ea (by simp) fun hb eb sbb => ?_)
  have sbb : Heap.SameBut en ha hb := sbb
  have eb : IsEnumHeld hb en it ((j : Int) + 1) old T fl := eb
  show wpAny _ _ (setField (.ref en) 4 .none >>= _) _ _ ⟨hb, gg, dr, tk + 1, os⟩
  refine wpAny_bind (wpAny_setField_rec eb (by simp) fun hc ec sbc => ?_)
  have sbc : Heap.SameBut en hb hc := sbc
  have ec : IsEnumHeld hc en it ((j : Int) + 1) old T fl := ec
  have tc : hc.get? T = some oT := sbc.extBut T oT hTe (sbb.extBut T oT hTe ta)
  show wpAny _ _ (newTuple [.int j tk, x] >>= _) _ _ ⟨hc, gg, dr, tk + 1, os⟩
  refine wpAny_bind (wpAny_newTuple ?_)
  have size : hc.objs.size = hp.objs.size := by rw [sbc.1, sbb.1, sba.1]
  have low : en < hp.objs.size := Heap.lt_size he
  generalize hde : hc.push { cls := .type "tuple", data := .seq #[.int j tk, x] } = hd
  have ed : IsEnumHeld hd en it ((j : Int) + 1) old T fl := by rw [← hde]; exact Heap.get?_push_of_some _ ec
  have td : hd.get? T = some oT := by rw [← hde]; exact Heap.get?_push_of_some _ tc
  have nd : hd.get? hp.objs.size = some { cls := .type "tuple", data := .seq #[.int j tk, x] } := by rw [← hde, ← size]; exact Heap.get?_push_size _ rfl
  have zd : hd.objs.size = hp.objs.size + 1 := by rw [← hde, Heap.size_push, size]
  have kd : ∀ b o, b ≠ en → b ≠ it → hp.get? b = some o → hd.get? b = some o := fun b o h1 h2 h3 => by
    rw [← hde]; exact Heap.get?_push_of_some _ (sbc.extBut b o h1 (sbb.extBut b o h1 (sba.extBut b o h2 h3)))
  have std : St (j + 1) hd := D.frame _ _ _ sta fun b hb o y => by
    have h1 : b ≠ en := fun q => hef (q ▸ hb)
    rw [← hde]; exact Heap.get?_push_of_some _ (sbc.extBut b o h1 (sbb.extBut b o h1 y))
  show wpAny _ _ (Builtin.SmallTypes.ownedTupleIsFree (.ref en) >>= _) _ _ ⟨hd, gg, dr, tk + 1, os⟩
  rw [size]
  refine wpAny_bind (wpAny_tupleHeld_enum (s := ⟨hd, gg, dr, tk + 1, os⟩) ed td fun hf ef sbf => ?_)
  have sbf : Heap.SameBut en hd hf := sbf
  refine wpAny_pure ⟨_, rfl, hQ x hf tk px ef ?_ ?_ ?_ ?_⟩
  · exact D.frame _ _ _ std fun b hb o y => sbf.extBut b o (fun q => hef (q ▸ hb)) y
  · exact sbf.extBut _ _ (Nat.ne_of_gt low) nd
  · rw [sbf.1, zd]
  · exact fun b o h1 h2 h3 => sbf.extBut b o h1 (kd b o h1 h2 h3)
theorem Sw_pyNext_held {en it T : Addr} {fp : List Addr} {n j : Nat} {P : Nat → Value → Prop} {St : Nat → Heap → Prop} {old : Value} {fl : Bool} {oT : Obj} {Q : Option Value → Shared → Prop}
    (D : Draws prog w A.in1 it fp n P St) (he : IsEnumHeld s.heap en it j old T fl) (hT : s.heap.get? T = some oT) (hTe : T ≠ en) (hTi : T ≠ it) (hst : St j s.heap) (hlt : j < n) (hne : en ≠ it) (hef : en ∉ fp)
    (hQ : ∀ x hp' tk, P j x → IsEnumHeld hp' en it ((j : Int) + 1) old T true → St (j + 1) hp' → hp'.get? s.heap.objs.size = some { cls := .type "tuple", data := .seq #[.int j tk, x] } → hp'.objs.size = s.heap.objs.size + 1 →
      (∀ b o, b ≠ en → b ≠ it → s.heap.get? b = some o → hp'.get? b = some o) → Q (some (.ref s.heap.objs.size)) { s with heap := hp', toks := tk + 1 }) :
    wpAny (model prog w) A (pyNext (.ref en)) Q E s := by
  have ty : s.TypeIs (.ref en) "enumerate" := ⟨_, he, rfl⟩
  unfold pyNext
  exact wpAny_bind (wpAny_attempt (wpAny_callSpecial?_slot (name := Str.ofString "__next__") ty F.slot_enumerate_next (wpAny_call_entry F.slot_enumerate_next ty F.entry_enumerate_next
      (Sw_next_held D he hT hTe hTi hst hlt hne hef fun x hp' tk a b c d k q => wpAny_pure (hQ x hp' tk a b c d k q)) (F.args_enumerate_next_1 _))))
theorem Sw_pyNext_end {en it : Addr} {fp : List Addr} {n : Nat} {P : Nat → Value → Prop} {St : Nat → Heap → Prop} {old T : Addr} {jj : Int} {ov : Value} {fl : Bool} {Q : Option Value → Shared → Prop}
    (D : Draws prog w A.in1 it fp n P St) (he : IsEnumHeld s.heap en it jj ov T fl) (hst : St n s.heap)
    (hQ : ∀ hp', Heap.ExtBut it s.heap hp' → Q none { s with heap := hp' }) : wpAny (model prog w) A (pyNext (.ref en)) Q E s := by
  have ty : s.TypeIs (.ref en) "enumerate" := ⟨_, he, rfl⟩
  unfold pyNext
  refine wpAny_bind (wpAny_attempt (wpAny_callSpecial?_slot (name := Str.ofString "__next__") ty F.slot_enumerate_next (wpAny_call_entry F.slot_enumerate_next ty F.entry_enumerate_next ?_ (F.args_enumerate_next_1 _))))
  show wpAny _ _ (field (.ref en) 2 >>= _) _ _ _
  refine wpAny_bind (wpAny_field he rfl (x := .ref it) rfl ?_)
  refine wpAny_bind (D.done _ _ _ hst fun hp' x eb xo => ?_)
  obtain ⟨o, ho, hc⟩ := xo
  exact wpAny_bind (wpAny_isInstance (T := "StopIteration") (b := true) ⟨o, ho, hc⟩ isSubtype_stop (wpAny_pure (hQ _ eb)))
theorem Sw_no_len : typeLookup (.type "enumerate") "__len__" = pure none := am_miss_of_fast (by decide +kernel)
theorem Sw_no_hint : typeLookup (.type "enumerate") "__length_hint__" = pure none := am_miss_of_fast (by decide +kernel)
end
end PySem

/-! Eng12i: list(enumerate(t)), t a tuple: the loop, the call. -/
namespace Sw
open PySem PySem.Spec PyProof.Rows L2
section
variable {X : Cx} {pins : List (Addr × Obj)} {σ : L2.St} {H0 : Hp} {a q en it : Addr} {xs : List V}
/-- ahead of turn j -/
structure LE (X : Cx) (pins : List (Addr × Obj)) (σ : L2.St) (H0 : Hp) (a q en it : Addr) (xs : List V) (j : Nat) (H : Hp) (s : Shared) : Prop where
  I : Inv X pins σ H s
  fr : ∀ b o, H0 b = some o → H b = some o
  ls : ∃ acc, H q = some (.lst acc) ∧ acc.length = j ∧ ∀ i x, acc[i]? = some x → ∃ T y, x = .ref T ∧ H T = some (.tup [.int (i : Nat), y]) ∧ xs[i]? = some y
  fp : ∀ b ∈ [en, it], FpOk X pins H b
  st : s.heap.IsTupleIter it a j
  en : (∃ old, IsEnum s.heap en it ((j : Nat) : Int) old) ∨ ∃ old T f ys, IsEnumHeld s.heap en it ((j : Nat) : Int) old T f ∧ H T = some (.tup ys)
/-- what stands at the end -/
def LEnd (X : Cx) (pins : List (Addr × Obj)) (σ : L2.St) (H0 : Hp) (q : Addr) (xs : List V) (H : Hp) (s : Shared) : Prop :=
  Inv X pins σ H s ∧ (∀ b o, H0 b = some o → H b = some o) ∧ ∃ acc, H q = some (.lst acc) ∧ acc.length = xs.length ∧ ∀ i x, acc[i]? = some x → ∃ T y, x = .ref T ∧ H T = some (.tup [.int (i : Nat), y]) ∧ xs[i]? = some y
theorem le_loop {A1 : Around} {Rs : Result → Shared → Prop} (hh : A1.handled = none) (hz : xs.length ≤ sizeLine) (ha : H0 a = some (.tup xs)) (qn : H0 q = none) (nei : en ≠ it) (nai : a ≠ it) (nea : en ≠ a) (nqe : q ≠ en) (nqi : q ≠ it)
    (hdone : ∀ H s, LEnd X pins σ H0 q xs H s → Rs (.ok (.ret .none)) s) (herr : ∀ e s, X.xe e s → Rs (.error e) s) :
    ∀ (k j : Nat) (H : Hp) (s : Shared), j + k = xs.length → LE X pins σ H0 a q en it xs j H s → codeAny (model X.prog X.w) A1 (.builtin "list.extend.loop" ⟨[.ref q, .ref en, .none], []⟩) Rs s := by
  intro k
  induction k with
  | zero =>
    intro j H s hj L
    refine codeAny_builtin PySem.F.entry_extend_loop ?_
    rw [Around.under_plainId PySem.F.plain_extend_loop _]
    show wpAny _ A1.in1 (pyNext (.ref en) >>= _) _ _ s
    obtain ⟨its, rv, p, _⟩ := L.I.tuple (.of (L.fr _ _ ha))
    have hsz : its.toArray.size = j := by have := rv.length; simp; omega
    obtain ⟨f0, f1, f2, f3, f4, f5⟩ := L.fp it (by simp)
    have D := Draws.tuple (prog := X.prog) (w := X.w) (A := A1.in1.in1) hh it a nai its.toArray
    rw [hsz] at D
    have fin : ∀ h', Heap.ExtBut it s.heap h' → Rs (.ok (.ret .none)) { s with heap := h' } := fun h' eb => by
      obtain ⟨acc, h1, h2, h3⟩ := L.ls
      exact hdone H _ ⟨L.I.turned (t' := s.toks) (fun b o hb z => eb b o hb z) f0 f1 f3 f4 f5, L.fr, acc, h1, by omega, h3⟩
    rcases L.en with ⟨old, he⟩ | ⟨old, T, f, ys, he, hT⟩
    · exact wpAny_bind (wpAny_pyNext_enum_endD D he ⟨L.st, p⟩ fun h' eb => wpAny_pure (fin h' eb))
    · exact wpAny_bind (Sw_pyNext_end (old := 0) D he ⟨L.st, p⟩ fun h' eb => wpAny_pure (fin h' eb))
  | succ k ih =>
    intro j H s hj L
    refine codeAny_builtin PySem.F.entry_extend_loop ?_
    rw [Around.under_plainId PySem.F.plain_extend_loop _]
    show wpAny _ A1.in1 (pyNext (.ref en) >>= _) _ _ s
    obtain ⟨its, rv, p, _⟩ := L.I.tuple (.of (L.fr _ _ ha))
    have hlen := rv.length
    have hlt : j < its.toArray.size := by simp; omega
    have hx : xs[j]? = some (xs[j]'(by omega)) := List.getElem?_eq_getElem _
    obtain ⟨u, hu, ru⟩ := rv.get hx
    generalize xs[j]'(by omega) = x at hx ru
    have D := Draws.tuple (prog := X.prog) (w := X.w) (A := A1.in1.in1) hh it a nai its.toArray
    have hel : en < s.heap.objs.size := by
      rcases L.en with ⟨old, he⟩ | ⟨old, T, f, ys, he, hT⟩
      · exact Heap.lt_size he
      · exact Heap.lt_size he
    have hil : it < s.heap.objs.size := by obtain ⟨_, z, _⟩ := L.st; exact Heap.lt_size z
    have cont : ∀ (y : Value) (h' : Heap) (tk : Nat) (old : Value) (T : Addr) (f : Bool), its.toArray[j]? = some y → IsEnumHeld h' en it ((j : Int) + 1) old T f → (T = s.heap.objs.size ∨ ∃ ys, H T = some (.tup ys)) →
        h'.IsTupleIter it a (j + 1) → h'.get? s.heap.objs.size = some { cls := .type "tuple", data := .seq #[.int j tk, y] } → (∀ b o, b ≠ en → b ≠ it → s.heap.get? b = some o → h'.get? b = some o) →
        wpAny (model X.prog X.w) A1.in1 (updateSeq q (·.push (.ref s.heap.objs.size)) >>= fun _ => again (.builtin "list.extend.loop" ⟨[.ref q, .ref en, .none], []⟩))
          (fun fin s' => match fin with | .done f => Rs (.ok f) s' | .again c' => c'.quiet = true ∧ codeAny (model X.prog X.w) A1 c' Rs s') (fun e s' => Rs (.error e) s') { s with heap := h', toks := tk + 1 } := by
      intro y h' tk old T f hy ho hTT hit' hnew hk
      have ey : y = u := by
        have e1 : its[j]? = some y := by simpa using hy
        rw [hu] at e1
        exact (Option.some.inj e1).symm
      subst ey
      have new : ObjOk X.prog X.w (upd H s.heap.objs.size (.tup [.int (j : Nat), x])) h' s.heap.objs.size (.tup [.int (j : Nat), x]) :=
        ⟨by show 2 ≤ sizeLine; decide, [.int j tk, y], .cons ⟨_, rfl⟩ (.cons ru .nil), ⟨_, hnew, rfl, _, rfl⟩⟩
      have fresh : H s.heap.objs.size = none := L.I.hok.fresh (Nat.le_refl _)
      have I1 : Inv X pins σ (upd H s.heap.objs.size (.tup [.int (j : Nat), x])) { s with heap := h', toks := tk + 1 } :=
        L.I.turnedNew (ch := [en, it]) (fun b ob hb z => hk b ob (fun z => hb (by simp [z])) (fun z => hb (by simp [z])) z) L.fp (Nat.le_refl _) new
      obtain ⟨acc, h1, h2, h3⟩ := L.ls
      have nq : q ≠ s.heap.objs.size := fun z => by rw [z, fresh] at h1; cases h1
      have h1' : upd H s.heap.objs.size (.tup [.int (j : Nat), x]) q = some (.lst acc) := by rw [upd_ne nq]; exact h1
      obtain ⟨zz, is, kk, r2, hl, eo⟩ := I1.lstM h1'
      refine wpAny_bind (wpAny_updateSeq eo rfl (wpAny_pure ⟨plainId_quiet PySem.F.plain_extend_loop _, ?_⟩) (by rw [List.size_toArray]; omega) (by show (is.toArray.push _).size ≤ sizeLine + 1; rw [Array.size_push, List.size_toArray]; omega))
      have I2 := I1.lset (its' := is ++ [.ref s.heap.objs.size]) (ys := acc ++ [.ref s.heap.objs.size]) (f := (·.push (.ref s.heap.objs.size))) (t' := tk + 1) h1' eo (by simp) (r2.append (.cons (show RelV (.ref s.heap.objs.size) (.ref s.heap.objs.size) from rfl) .nil)) (by rw [List.length_append, List.length_singleton]; omega)
      have keep : ∀ b o, b ≠ q → b ≠ s.heap.objs.size → H b = some o → upd (upd H s.heap.objs.size (.tup [.int (j : Nat), x])) q (.lst (acc ++ [.ref s.heap.objs.size])) b = some o := fun b o hb1 hb2 z => by rw [upd_ne hb1, upd_ne hb2]; exact z
      have nt : ∀ T ys, H T = some (.tup ys) → T ≠ q ∧ T ≠ s.heap.objs.size := fun T ys z => ⟨(by intro w; rw [w, h1] at z; cases z), (by intro w; rw [w, fresh] at z; cases z)⟩
      have same : ∀ b o, b ≠ q → h'.get? b = some o → (h'.update q (Obj.mapSeq (·.push (.ref s.heap.objs.size)))).get? b = some o := fun b o hb z => (Heap.get?_update_other _ _ (Ne.symm hb)).trans z
      refine ih (j + 1) _ _ (by omega) ⟨I2, fun b o z => ?_, ⟨acc ++ [.ref s.heap.objs.size], upd_same, by simp [h2], fun i v hi => ?_⟩, fun b hb => ⟨?_, (L.fp b hb).2⟩, hit'.at fun o z => same it o (Ne.symm nqi) z, .inr ⟨old, T, f, ?_⟩⟩
      · have z1 := L.fr b o z
        refine keep b o (fun w => ?_) (fun w => ?_) z1
        · rw [w, qn] at z; cases z
        · rw [w, fresh] at z1; cases z1
      · by_cases hi2 : i < acc.length
        · rw [List.getElem?_append_left hi2] at hi
          obtain ⟨T', y', e1, e2, e3⟩ := h3 i v hi
          obtain ⟨n1, n2⟩ := nt _ _ e2
          exact ⟨T', y', e1, keep _ _ n1 n2 e2, e3⟩
        · rw [List.getElem?_append_right (by omega)] at hi
          have hi3 : i - acc.length = 0 := by
            have := (List.getElem?_eq_some_iff.mp hi).1
            simp at this
            omega
          rw [hi3] at hi
          have ei : i = j := by omega
          subst ei
          refine ⟨s.heap.objs.size, x, by simpa using hi.symm, ?_, hx⟩
          rw [upd_ne (Ne.symm nq), upd_same]
      · have hlb : b < s.heap.objs.size := by
          have e' : b = en ∨ b = it := by simpa using hb
          rcases e' with z | z
          · rw [z]; exact hel
          · rw [z]; exact hil
        have nb : b ≠ q := by
          have e' : b = en ∨ b = it := by simpa using hb
          rcases e' with z | z
          · rw [z]; exact Ne.symm nqe
          · rw [z]; exact Ne.symm nqi
        rw [upd_ne nb, upd_ne (Nat.ne_of_lt hlb)]
        exact (L.fp b hb).1
      · have e1 : ((j + 1 : Nat) : Int) = (j : Int) + 1 := by omega
        rw [e1]
        rcases hTT with z | ⟨ys, z⟩
        · refine ⟨[.int (j : Nat), x], same en _ (Ne.symm nqe) ho, ?_⟩
          rw [z, upd_ne (Ne.symm nq), upd_same]
        · obtain ⟨n1, n2⟩ := nt _ _ z
          exact ⟨ys, same en _ (Ne.symm nqe) ho, keep _ _ n1 n2 z⟩
    rcases L.en with ⟨old, he⟩ | ⟨old, T, f, ys, he, hT⟩
    · exact wpAny_bind (wpAny_pyNext_enum_itemD D he ⟨L.st, p⟩ hlt nei (by simp [nei, nea]) fun y h' tk hy ho hit' hnew hsz hk => cont y h' tk _ _ false hy ho (.inl rfl) hit'.1 hnew hk)
    · obtain ⟨_, its2, _, o2, ho2, _⟩ := (show ObjOk X.prog X.w H s.heap T (.tup ys) from L.I.hok T _ hT)
      have nTe : T ≠ en := fun z => by rw [z, (L.fp en (by simp)).1] at hT; cases hT
      have nTi : T ≠ it := fun z => by rw [z, (L.fp it (by simp)).1] at hT; cases hT
      exact wpAny_bind (Sw_pyNext_held D he ho2 nTe nTi ⟨L.st, p⟩ hlt nei (by simp [nei, nea]) fun y h' tk hy ho hit' hnew hsz hk => cont y h' tk _ _ true hy ho (.inr ⟨ys, hT⟩) hit'.1 hnew hk)
end
end Sw

/-! Eng12j: list(enumerate(t)), t a tuple: the expression. -/
namespace Sw
open PySem PySem.Spec PyProof.Rows L2
section
variable {X : Cx} {pins : List (Addr × Obj)} {σ : L2.St} {H : Hp} {s : Shared} {a en it : Addr} {xs : List V}
theorem le_call {Q : Value → Shared → Prop} (hh : X.A.handled = none) (I : Inv X pins σ H s) (ha : H a = some (.tup xs)) (he : IsEnum s.heap en it 0 .none) (hit : s.heap.IsTupleIter it a 0) (nei : en ≠ it) (nai : a ≠ it) (nea : en ≠ a) (fp : ∀ b ∈ [en, it], FpOk X pins H b)
    (hQ : ∀ H' s', LEnd X pins σ H s.heap.objs.size xs H' s' → Q (.ref s.heap.objs.size) s') : wpAny (model X.prog X.w) X.A (call (.type "list") [.ref en]) Q X.xe s := by
  have hz : xs.length ≤ sizeLine := by obtain ⟨_, _, _, z⟩ := I.tuple (.of ha); exact z
  have fresh : H s.heap.objs.size = none := I.hok.fresh (Nat.le_refl _)
  have hen : en < s.heap.objs.size := Heap.lt_size he
  have hil : it < s.heap.objs.size := by obtain ⟨_, z, _⟩ := hit; exact Heap.lt_size z
  generalize hq : s.heap.objs.size = q at *
  have nqe : q ≠ en := Nat.ne_of_gt hen
  have nqi : q ≠ it := Nat.ne_of_gt hil
  refine callType_codes (Q₁ := fun obj s₁ => obj = .ref q ∧ s₁ = { s with heap := s.heap.push { cls := .type "list", data := .seq #[] } }) PySem.F.called_list (PySem.F.typeCall_list_1 _) PySem.F.entry_list_init (code_list_new _ ⟨by rw [hq], rfl⟩) fun obj s₁ h₁ => ?_
  obtain ⟨rfl, rfl⟩ := h₁
  have o1 : (s.heap.push { cls := .type "list", data := .seq #[] }).get? q = some { cls := .type "list", data := .seq #[] } := by rw [← hq]; exact Heap.get?_push_size _ rfl
  refine ⟨⟨_, o1, rfl⟩, PySem.F.args_list_init_2 _ _, ?_⟩
  have I1 : Inv X pins σ (upd H q (.lst [])) { s with heap := s.heap.push { cls := .type "list", data := .seq #[] } } := by rw [← hq]; exact I.lnew (its := []) (t' := s.toks) .nil (Nat.zero_le _)
  show wpAny _ _ (do let old ← Builtin.List.listItems (.ref q); Builtin.List.listUpdate (.ref q) (fun _ => #[]); letGo old.toList.reverse; Builtin.List.listExtendWith (.ref q) (.ref en) .none) _ _ _
  refine wpAny_bind ?_
  unfold Builtin.List.listItems
  refine wpAny_bind (wpAny_seqItems o1 rfl (wpAny_pure ?_))
  show wpAny _ _ (updateSeq q (fun _ => #[]) >>= fun _ => letGo (#[] : Array Value).toList.reverse >>= fun _ => Builtin.List.listExtendWith (.ref q) (.ref en) .none) _ _ _
  refine wpAny_bind (wpAny_updateSeq o1 rfl ?_)
  have I2 := I1.lset (f := fun _ => #[]) (its := []) (its' := []) (ys := []) (t' := s.toks) upd_same o1 rfl .nil (Nat.zero_le _)
  rw [upd_upd] at I2
  have o2 := Heap.get?_update_self (Obj.mapSeq (fun _ => (#[] : Array Value))) o1 rfl
  have k2 : ∀ b o, s.heap.get? b = some o → ((s.heap.push { cls := .type "list", data := .seq #[] }).update q (Obj.mapSeq fun _ => #[])).get? b = some o := fun b o e =>
    (Heap.get?_update_other _ _ (by rw [← hq]; exact Ne.symm (Nat.ne_of_lt (Heap.lt_size e)))).trans (Heap.get?_push_of_some _ e)
  refine wpAny_bind (wpAny_letGo ?_)
  generalize hh2 : (s.heap.push { cls := .type "list", data := .seq #[] }).update q (Obj.mapSeq fun _ => #[]) = h2 at I2 o2 k2 ⊢
  have ty : ({ s with heap := h2 } : Shared).TypeIs (.ref en) "enumerate" := ⟨_, k2 _ _ he, rfl⟩
  unfold Builtin.List.listExtendWith
  refine wpAny_bind (wpAny_typeOf ty ?_)
  have n1 : Builtin.List.listSameRef (.ref q) (.ref en) = false := by simp [Builtin.List.listSameRef, nqe]
  have n2 : (Value.type "enumerate" == Value.type "list") = false := by decide
  have n3 : (Value.type "enumerate" == Value.type "tuple") = false := by decide
  simp only [n1, n2, n3, Bool.or_false, Bool.false_eq_true, if_false]
  refine wpAny_bind (wpAny_pyIter_enum (s := { s with heap := h2 }) (k2 _ _ he) ?_)
  refine wpAny_bind (wpAny_holding ?_)
  unfold Builtin.List.listLengthHint
  refine wpAny_bind (wpAny_specialOf ty Sw_no_len ?_)
  show wpAny _ _ (specialOf (Value.ref en) (Str.ofString "__length_hint__") >>= _) _ _ _
  refine wpAny_bind (wpAny_specialOf ty Sw_no_hint ?_)
  refine wpAny_pure ?_
  show wpAny _ _ (rule "list.extend.makes-room" >>= fun _ => Builtin.List.listTouch (.ref q) >>= fun _ => again (.builtin "list.extend.loop" ⟨[.ref q, .ref en, .none], []⟩)) _ _ _
  refine wpAny_bind (wpAny_rule ?_)
  refine wpAny_bind ?_
  show wpAny _ _ (updateSeq q (·.push .none) >>= fun _ => updateSeq q (·.pop)) _ _ _
  refine wpAny_bind (wpAny_updateSeq o2 rfl ?_)
  have o3 := Heap.get?_update_self (Obj.mapSeq (·.push Value.none)) o2 rfl
  have I3 := I2.lset (f := (·.push Value.none)) (its := []) (its' := [Value.none]) (ys := [.non]) (t' := s.toks) upd_same o2 (by simp) (.cons (show RelV .non .none from rfl) .nil) (by rw [List.length_singleton, sizeLine_eq]; decide)
  refine wpAny_updateSeq (hz := by seq_fits) o3 rfl ?_
  have I4 := I3.lset (f := (·.pop)) (its := [Value.none]) (its' := []) (ys := []) (t' := s.toks) upd_same o3 (by rfl) .nil (Nat.zero_le _)
  rw [upd_upd, upd_upd] at I4
  have k4 : ∀ b o, s.heap.get? b = some o → ((h2.update q (Obj.mapSeq (·.push Value.none))).update q (Obj.mapSeq (·.pop))).get? b = some o := fun b o e => by
    have nb : q ≠ b := by rw [← hq]; exact Ne.symm (Nat.ne_of_lt (Heap.lt_size e))
    exact (Heap.get?_update_other _ _ nb).trans ((Heap.get?_update_other _ _ nb).trans (k2 b o e))
  refine wpAny_pure ⟨plainId_quiet PySem.F.plain_extend_loop _, ?_⟩
  refine le_loop (X := X) (pins := pins) (σ := σ) (H0 := H) (xs := xs) (a := a) (q := q) (en := en) (it := it) (A1 := X.A.in1) hh hz ha fresh nei nai nea nqe nqi (fun H' s' L => ⟨rfl, hQ H' s' L⟩) (fun e s' z => z) xs.length 0 (upd H q (.lst [])) _ (Nat.zero_add _) ⟨I4, fun b o z => ?_, ⟨[], upd_same, rfl, fun i x z => by simp at z⟩, fun b hb => ⟨?_, (fp b hb).2⟩, hit.at fun o z => k4 _ _ z, .inl ⟨_, k4 _ _ he⟩⟩
  · rw [upd_ne]
    · exact z
    · intro w; rw [w, fresh] at z; cases z
  · have nb : b ≠ q := by
      have e' : b = en ∨ b = it := by simpa using hb
      rcases e' with z | z
      · rw [z]; exact Ne.symm nqe
      · rw [z]; exact Ne.symm nqi
    rw [upd_ne nb]
    exact (fp b hb).1
/-- more is tracked than before -/
theorem Ext.more {m : Nat → Addr} {S : Sto} {H H' : Hp} (R : Rel m S H) (h : ∀ b o, H b = some o → H' b = some o) : Ext m m S S H H' := by
  have kp := Keep.same h
  refine ⟨Nat.le_refl _, fun _ _ => rfl, kp, rfl, ⟨fun n o e => ?_, R.inj, R.low, R.top, R.lens⟩, fun a o z _ => h a o z, fun n h1 h2 => absurd h2 (Nat.not_lt_of_le h1)⟩
  obtain ⟨u, hu⟩ := (R.obj n o e).live
  exact (R.obj n o e).mono' (Nat.le_refl _) (fun _ _ => rfl) kp (by rw [h _ _ hu, hu])
theorem enumPairs_rd {m : Nat → Addr} {k : Nat} {H : Hp} : ∀ {ds : List D} {vs acc : List V} {c : Nat}, RDs m k H ds vs → acc.length = vs.length → (∀ i x, acc[i]? = some x → ∃ T y, x = .ref T ∧ H T = some (.tup [.int ((c + i : Nat) : Int), y]) ∧ vs[i]? = some y) → RDs m k H (enumPairs c ds) acc
  | [], vs, acc, c, r, hl, h => by
    cases (show vs = [] from r)
    exact List.length_eq_zero_iff.mp hl
  | d :: ds, vs, acc, c, r, hl, h => by
    obtain ⟨v, vs, rfl, r1, r2⟩ := r
    cases acc with
    | nil => cases hl
    | cons x acc =>
      obtain ⟨T, y, e1, e2, e3⟩ := h 0 x rfl
      have ey : v = y := by simpa using e3
      subst ey
      refine ⟨x, acc, rfl, ⟨T, _, e1, e2, .int (c : Nat), [v], by simp, rfl, v, [], rfl, r1, rfl⟩, enumPairs_rd r2 (by simpa using hl) fun i x hi => ?_⟩
      obtain ⟨T', y', f1, f2, f3⟩ := h (i + 1) x (by simpa using hi)
      exact ⟨T', y', f1, by rw [f2, show c + (i + 1) = c + 1 + i by omega], by simpa using f3⟩
variable {e : Expr} {p p1 pos pos1 : Pos} {g : EvA}
theorem pev_lenum (hc : X.calm = true) (hg : Gl X "list") (hm : X.mg "list" = none) (hg1 : Gl X "enumerate") (hm1 : X.mg "enumerate" = none) (h1 : PA X [e] (rdA g)) (hs : starEach [e] X.env = [(false, eval e X.env)]) :
    PE X (.Call (.Name "list" p) [.Call (.Name "enumerate" p1) [e] [] pos1] [] pos) (rdE (evN lenumN g)) := by
  refine ⟨fun pins s σ H Q I h => ?_⟩
  refine Call_ (ld_blt I hg hm PyProof.Rows.boot_list (PyProof.Rows.callWith_type1 ?_ rfl rfl))
  show wpAny _ _ (spliced ((false, eval (.Call (.Name "enumerate" p1) [e] [] pos1) X.env) :: backTo pos (starEach [] X.env))) _ _ s
  refine Calls.spliced_cons ?_
  obtain ⟨m, S, ρ, d, S', R, E, e1, q⟩ := rdN_seq h
  refine Call_ (ld_blt I hg1 hm1 boot_enumerate (PyProof.Rows.callWith_type1 (thn (h1.run pos1 pins s σ H _ I ⟨m, S, ρ, d, S', R, E, e1, q⟩) fun us s1 ⟨vs, H1, I1, r1, q1⟩ => ?_) hs rfl))
  obtain ⟨m1, S1, ds, d1, S2, R1, rr, e2, q2⟩ := q1
  unfold lenumN at e2
  split at e2
  · rename_i ys
    obtain ⟨v, rfl, a, xs, rfl, ha, qs⟩ := rr.one1
    split at e2
    · rename_i hf
      cases e2
      rw [Vals.ref1 r1]
      obtain ⟨its, rv, p', hz⟩ := I1.tuple (.of ha)
      have hal : a < s1.heap.objs.size := I1.hok.lt ha
      refine Sw_enumerate_tuple (show s1.heap.IsTuple a its.toArray from p') fun h' he hit hsz hk => Calls.spliced_nil ?_
      have I2 : Inv X pins σ H1 { s1 with heap := h' } := I1.kept (t' := s1.toks) hk
      refine le_call (I1.ok.hd hc) I2 ha he hit (Nat.succ_ne_self _) (Nat.ne_of_lt hal) (fun z => absurd hal (by rw [← z]; exact Nat.not_lt_of_le (Nat.le_succ _))) (fun b hb => ?_) fun H' s' L => ?_
      · have hle : s1.heap.objs.size ≤ b := by
          have e' : b = s1.heap.objs.size + 1 ∨ b = s1.heap.objs.size := by simpa using hb
          rcases e' with z | z
          · rw [z]; exact Nat.le_add_right _ _
          · rw [z]; exact Nat.le_refl _
        exact I1.fpOk hle (I1.hok.fresh hle)
      · obtain ⟨I3, fr, acc, hq, hl, hall⟩ := L
        have qn : H1 h'.objs.size = none := I2.hok.fresh (Nat.le_refl _)
        refine ⟨.ref h'.objs.size, H', I3, rfl, ?_⟩
        have X1 : Ext m1 m1 S1 S1 H1 (fun b => if b = h'.objs.size then none else H' b) := Ext.more R1 fun b o z => by
          have nb : b ≠ h'.objs.size := fun w => by rw [w, qn] at z; cases z
          show (if b = h'.objs.size then none else H' b) = some o
          rw [if_neg nb]
          exact fr b o z
        have eH : upd (fun b => if b = h'.objs.size then none else H' b) h'.objs.size (.lst acc) = H' := by
          funext b
          by_cases nb : b = h'.objs.size
          · rw [nb, upd_same]; exact hq.symm
          · rw [upd_ne nb, if_neg nb]
        have ok : OOk m1 S1.len (upd (fun b => if b = h'.objs.size then none else H' b) h'.objs.size (.lst acc)) h'.objs.size (.lst (enumPairs 0 ys)) := by
          rw [eH]
          refine ⟨acc, hq, enumPairs_rd (RDs.mono' (Nat.le_refl _) (fun _ _ => rfl) (Keep.same fr) _ _ qs) hl fun i x hi => ?_⟩
          obtain ⟨T, y, f1, f2, f3⟩ := hall i x hi
          exact ⟨T, y, f1, by rw [f2, Nat.zero_add], f3⟩
        have X2 := Ext.add (p := h'.objs.size) X1.rel (by rw [if_pos rfl]) ok
        rw [eH] at X2
        exact q2 _ H' _ (X1.trans X2) ⟨by rw [Sto.add_len]; exact Nat.lt_succ_self _, by rw [withAt_same]⟩
    · cases e2
  · cases e2
end
end Sw

/-! Eng12k: **, displays of dicts whose keys are texts or whole numbers. -/
namespace Sw
open PySem PySem.Spec PyProof.Rows L2
def powD : D → D → Sto → Res D
  | .int i, .int j, S => match decide (0 ≤ j) && decide (j ≤ 1000) && Nat.blt i.natAbs 18446744073709551616 with
    | true => .ok (.int (i ^ j.toNat)) S
    | false => .bad
  | _, _, _ => .bad
/-- the pairs put in, one behind another -/
def putAll : List (D × D) → List D → Option (List (D × D))
  | kvs, [] => some kvs
  | kvs, k :: v :: r => match keyOf k with
    | some q => putAll (dPut keyOf kvs q k v) r
    | none => none
  | _, _ => none
def evDispK (g : EvA) : Ev := fun ρ S => match g ρ (S.add (.dct [])) with
  | .ok ds S1 => match S1.objs[S.len]? with
    | some (.dct []) => match putAll [] ds with
      | some kvs => match Nat.ble ds.length 30 with
        | true => .ok (.ref S.len) (S1.put S.len (.dct kvs) (D.blws 0 ds))
        | false => .bad
      | none => .bad
    | _ => .bad
  | .bad => .bad
section
variable {X : Cx}
theorem opv_pow : OpR X (binaryOp .Pow) (rd2 powD) := OpR.of op_pow fun x y H Q h => by
  obtain ⟨m, S, d1, d2, d, S', R, r1, r2, e, q⟩ := h
  unfold powD at e
  split at e
  · split at e
    · rename_i hb
      cases e
      simp only [Bool.and_eq_true, decide_eq_true_eq] at hb
      have h3 : _ < 18446744073709551616 := Nat.le_of_ble_eq_true hb.2
      exact ⟨_, _, r1, r2, ⟨hb.1.1, by omega, h3⟩, rdPure R q rfl⟩
    · cases e
  · cases e
/-- V's by twos -/
def twos : List V → List (V × V)
  | a :: b :: r => (a, b) :: twos r
  | _ => []
def altE : List (Ev × Ev) → EvA
  | [] => evNil
  | (a, b) :: r => evCons a (evCons b (altE r))
theorem rd_pairs {σ : L2.St} : ∀ (l : List (Ev × Ev)) {m : Nat → Addr} {S S' : Sto} {ρ : En} {H : Hp} {ds : List D} {Q : List (V × V) → Hp → Prop}, Rel m S H → REnv m S.len H ρ σ → altE l ρ S = .ok ds S' →
    (∀ m' H' vs, Ext m m' S S' H H' → RDs m' S'.len H' ds vs → Q (twos vs) H') → tPairs (l.map fun p => (rdE p.1, rdE p.2)) σ H Q
  | [], m, S, S', ρ, H, ds, Q, R, E, e, q => by
    cases e
    exact q m H [] (Ext.refl R) rfl
  | (a, b) :: l, m, S, S', ρ, H, ds, Q, R, E, e, q => by
    simp only [altE, evCons] at e
    split at e
    · rename_i d1 S1 h1
      split at e
      · rename_i ds1 S2 h2
        cases e
        split at h2
        · rename_i d2 S3 h3
          split at h2
          · rename_i ds2 S4 h4
            cases h2
            refine ⟨m, S, ρ, d1, S1, R, E, h1, fun m1 H1 v1 X1 r1 => ⟨m1, S1, ρ, d2, S3, X1.rel, E.ext X1, h3, fun m2 H2 v2 X2 r2 => ?_⟩⟩
            refine rd_pairs l X2.rel ((E.ext X1).ext X2) h4 fun m3 H3 vs X3 r3 => ?_
            exact q m3 H3 (v1 :: v2 :: vs) (X1.trans (X2.trans X3)) ⟨v1, _, rfl, RD.ext (RD.ext r1 X2) X3, v2, _, rfl, RD.ext r2 X3, r3⟩
          · cases h2
        · cases h2
      · cases e
    · cases e
theorem putAll_ok {m : Nat → Addr} {k : Nat} {H : Hp} : ∀ {ds : List D} {vs : List V} {kvs kvs' : List (D × D)} {ps : List (Key × V)}, RDs m k H ds vs → RKv m k H kD kvs ps → putAll kvs ds = some kvs' →
    ∃ l : List (Key × V), twos vs = l.map (fun kv => (kV kv.1, kv.2)) ∧ RKv m k H kD kvs' (mergeK ps l) ∧ 2 * l.length = ds.length
  | [], vs, kvs, kvs', ps, r, h, e => by
    cases e
    rw [show vs = [] from r]
    exact ⟨[], rfl, h, rfl⟩
  | [d], vs, kvs, kvs', ps, r, h, e => by cases e
  | d :: d' :: ds, vs, kvs, kvs', ps, r, h, e => by
    obtain ⟨v, vs, rfl, r1, v', vs', rfl, r2, r3⟩ := r
    simp only [putAll] at e
    split at e
    · rename_i q hq
      have hd := keyOf_ok hq
      subst hd
      have hv := RD.kD r1
      obtain ⟨l, l1, l2, l3⟩ := putAll_ok r3 (dPut_ok keyOf_kD h r2) e
      refine ⟨(q, v') :: l, ?_, l2, by simp only [List.length_cons]; omega⟩
      show (v, v') :: twos vs' = _
      rw [l1, hv]
      rfl
    · cases e
theorem putAll_below {b : Nat} : ∀ {ds : List D} {kvs kvs' : List (D × D)}, D.blws b ds = true → pairsBelow b kvs = true → putAll kvs ds = some kvs' → pairsBelow b kvs' = true
  | [], kvs, kvs', _, h, e => by cases e; exact h
  | [d], kvs, kvs', _, h, e => by cases e
  | d :: d' :: ds, kvs, kvs', hb, h, e => by
    simp only [D.blws, Bool.and_eq_true] at hb
    simp only [putAll] at e
    split at e
    · exact putAll_below hb.2.2 (dPut_below hb.2.1 hb.1 h) e
    · cases e
theorem blws_mono {b : Nat} : ∀ {ds : List D}, D.blws 0 ds = true → D.blws b ds = true
  | [], _ => rfl
  | d :: ds, h => by
    simp only [D.blws, Bool.and_eq_true] at h ⊢
    exact ⟨below_mono (Nat.zero_le b) _ h.1, blws_mono h.2⟩
theorem pev_dispK {keys : List (Option Expr)} {values : List Expr} {pos : Pos} {l : List (Ev × Ev)} (hp : PPs X pos keys values (l.map fun p => (rdE p.1, rdE p.2))) (hall : keys.all (·.isSome) = true) (hl : keys.length = values.length) (h0 : keys ≠ []) (h15 : keys.length ≤ 15) :
    PE X (.Dict keys values pos) (rdE (evDispK (altE l))) := PE.of (pe_disp hp hall hl h0 h15) fun σ H Q h => by
  obtain ⟨m, S, ρ, d, S', R, E, e, q⟩ := h
  unfold evDispK at e
  split at e
  · rename_i ds S1 h1
    split at e
    · rename_i ho
      split at e
      · rename_i kvs hk
        split at e
        · rename_i hb
          cases e
          intro p hpn
          have XA : Ext m (withAt m S.len p) S (S.add (.dct [])) H (upd H p (.dK [])) := Ext.add R hpn ⟨[], upd_same, rfl⟩
          have hln : S.len < (S.add (.dct [])).len := by rw [Sto.add_len]; exact Nat.lt_succ_self _
          refine rd_pairs l XA.rel (E.ext XA) h1 fun m1 H1 vs X1 r1 => ?_
          have hm1 : m1 S.len = p := by rw [X1.ag _ hln]; exact withAt_same ..
          obtain ⟨ps, g1, g2⟩ := X1.rel.obj _ _ ho
          cases (show ps = [] from g2)
          rw [hm1] at g1
          obtain ⟨ll, l1, l2, l3⟩ := putAll_ok (kvs := []) (ps := []) r1 rfl hk
          have hlen : ll.length ≤ 15 := by have := Nat.le_of_ble_eq_true hb; omega
          refine ⟨g1, ll, l1, hlen, ?_⟩
          have kp : Keep H1 (upd H1 p (.dK (mergeK [] ll))) := ⟨fun a zs z => (by
            rw [upd_ne]
            · exact z
            · rintro rfl; rw [g1] at z; cases z), fun a o' u z => (by
            rw [upd_ne]
            · exact z
            · rintro rfl; rw [g1] at z; cases z)⟩
          have X2 : Ext m1 m1 S1 (S1.put S.len (.dct kvs) (D.blws 0 ds)) H1 (upd H1 (m1 S.len) (.dK (mergeK [] ll))) := by
            refine Ext.put (ho0 := .dK []) X1.rel ho (by rw [hm1]; exact g1) True.intro ⟨_, upd_same, ?_⟩ fun z b _ => putAll_below (kvs := []) (blws_mono z) rfl hk
            rw [hm1]
            exact RKv.mono' (Nat.le_refl _) (fun _ _ => rfl) kp _ _ l2
          rw [hm1] at X2
          exact q m1 _ _ (XA.trans (X1.trans X2)) ⟨Nat.lt_of_lt_of_le hln (Nat.le_trans X1.len X2.len), by rw [hm1]⟩
        · cases e
      · cases e
    · cases e
  · cases e
end
end Sw

/-! Eng12l: x[::-1] of tuples and lists. -/
namespace Sw
open PySem PySem.Spec PyProof.Rows L2
theorem adj_rev (n : Nat) : Builtin.Slice.sliceAdjust none none (-1) (n : Int) = ((n : Int) - 1, -1) := by
  unfold Builtin.Slice.sliceAdjust
  simp
theorem plc_rev (n : Nat) : Builtin.Slice.slicePlaces ((n : Int) - 1) (-1) (-1) = n := by
  unfold Builtin.Slice.slicePlaces
  have h1 : ¬ ((-1 : Int) > 0) := by omega
  simp only [h1, if_false]
  split
  · simp only [Int.neg_neg, Int.ediv_one]; omega
  · omega
theorem pick_rev (xs : Array Value) : ((List.range xs.size).filterMap fun (k : Nat) => xs[((xs.size : Int) - 1 + (k : Int) * (-1)).toNat]?).toArray = xs.toList.reverse.toArray := by
  congr 1
  apply List.ext_getElem?
  intro i
  have key : ∀ n : Nat, n ≤ xs.size → (List.range n).filterMap (fun (k : Nat) => xs[((xs.size : Int) - 1 + (k : Int) * (-1)).toNat]?) = xs.toList.reverse.take n := by
    intro n
    induction n with
    | zero => intro _; rfl
    | succ n ih =>
      intro h
      have hn : n < xs.size := by omega
      have e : ((xs.size : Int) - 1 + (n : Int) * (-1)).toNat = xs.size - 1 - n := by omega
      have hx : xs[xs.size - 1 - n]? = some (xs[xs.size - 1 - n]'(by omega)) := Array.getElem?_eq_getElem _
      rw [List.range_succ, List.filterMap_append, ih (by omega)]
      simp only [List.filterMap_cons, List.filterMap_nil, e, hx]
      rw [List.take_add_one]
      congr 1
      have hl : n < xs.toList.reverse.length := by simp; omega
      rw [List.getElem?_eq_getElem hl]
      simp [List.getElem_reverse]
  rw [key xs.size (Nat.le_refl _), List.take_of_length_le (by simp)]
def revD : D → Sto → Res D
  | .tup ds, S => .ok (.tup ds.reverse) S
  | .ref n, S => match S.list? n with
    | some xs => newL S xs.reverse
    | none => .bad
  | _, _ => .bad
section
variable {X : Cx}
def tRevT (K : PySem.W.Frag) (te : TE) : TE := fun σ H Q => te σ H fun x H1 => ∃ a xs, x = .ref a ∧ SqT K H1 a xs ∧ ∀ p, H1 p = none → Q (.ref p) (upd H1 p (.tup xs.reverse))
theorem getItem_rev {prog : Program} {w : World} {A : Around} {E : Value → Shared → Prop} {s : Shared} {t sl : Addr} {items : Array Value} {vs : Value} {Q : Value → Shared → Prop} (ht : IsTup s.heap t items) (hs : s.heap.IsSliceOf sl .none .none vs) (ps : IsPart vs (some (-1)))
    (h : Q (.ref s.heap.objs.size) { s with heap := s.heap.push { cls := .type "tuple", data := .seq items.toList.reverse.toArray } }) (hz : items.size ≤ sizeLine) : wpAny (model prog w) A (getItem (.ref t) (.ref sl)) Q E s := by
  have fit : sizeOk (.seq items.toList.reverse.toArray) := by show items.toList.reverse.toArray.size ≤ sizeLine; simpa using hz
  obtain ⟨os, hos, hcs, hds⟩ := id hs
  have ty : s.TypeIs (.ref sl) "slice" := ⟨os, hos, hcs⟩
  unfold getItem
  try with_reducible refine wpAny_holding ?_
  first | refine wpAny_bind (wpAny_pure ?_) | skip
  refine wpAny_bind (wpAny_sequenceKey ht.typeIs (by decide) ?_)
  refine wpAny_bind (wpAny_callSpecial?_slot (name := Str.ofString "__getitem__") ht.typeIs PyProof.Rows.slot_tuple_getitem (wpAny_call_entry PyProof.Rows.slot_tuple_getitem ht.typeIs entry_tuple_getitem ?_ (args_tuple_getitem _ _)))
  show wpAny _ _ (Builtin.Tuple.tupleItemsOf (.ref t) >>= _) _ _ s
  refine wpAny_bind (tupleItemsOf_ ht (wpAny_bind (wpAny_typeOf ty ?_)))
  rw [if_pos (by decide)]
  refine wpAny_bind ?_
  unfold Builtin.Slice.sliceApplied Builtin.Slice.sliceFields
  refine wpAny_bind (wpAny_bind (wpAny_field hos hds (x := .none) rfl (wpAny_bind (wpAny_field hos hds (x := .none) rfl (wpAny_bind (wpAny_field hos hds (x := vs) rfl (wpAny_pure ?_)))))))
  refine wpAny_bind (HT.slicePart_ ps ?_)
  show wpAny _ _ (if ((-1 : Int) == 0) = true then _ else _) _ _ s
  rw [if_neg (by decide)]
  refine wpAny_bind (HT.slicePart_ .none (wpAny_bind (HT.slicePart_ .none (wpAny_bind (wpAny_pure ?_)))))
  show wpAny _ _ (match Builtin.Slice.sliceAdjust none none (-1) (items.size : Int) with | (lo, hi) => pure (lo, (-1 : Int), Builtin.Slice.slicePlaces lo hi (-1))) _ _ s
  rw [adj_rev]
  show wpAny _ _ (pure ((items.size : Int) - 1, (-1 : Int), Builtin.Slice.slicePlaces ((items.size : Int) - 1) (-1) (-1))) _ _ s
  rw [plc_rev]
  refine wpAny_pure ?_
  have no : ¬ ((((items.size : Int) - 1) == 0 && (-1 : Int) == 1 && items.size == items.size) = true) := by simp
  show wpAny _ _ (if (((items.size : Int) - 1) == 0 && (-1 : Int) == 1 && items.size == items.size) = true then _ else _) _ _ s
  rw [if_neg no, pick_rev]
  first
    | exact wpAny_bind (m := Builtin.Tuple.tupleExact _) (wpAny_newObj_type (wpAny_pure ⟨_, rfl, wpAny_pure h⟩) fit)
    | exact wpAny_bind (wpAny_bind (m := Builtin.Tuple.tupleExact _) (wpAny_newObj_type (wpAny_pure ⟨_, rfl, wpAny_pure h⟩) fit))
theorem pe_revT {e : Expr} {te : TE} {k : Nat} {p1 p2 p3 pos : Pos} (he : PE X e te) : PE X (.Subscript e (.Slice none none (some (.UnaryOp .USub (.Constant (.int 1) k p1) p2)) p3) pos) (tRevT X.K te) := by
  refine ⟨fun pins s σ H Q I h => ?_⟩
  refine Subscript_ (thn (he.run pins s σ H _ I h) fun v sa ⟨x, Ha, Ia, ra, qa⟩ => ?_)
  obtain ⟨a, xs, ex, hx, q⟩ := qa
  subst ex
  cases ra
  have step : PO X (some (.UnaryOp .USub (.Constant (.int 1) k p1) p2)) (tPart (tUn (rU fun i => .int (-i)) (tC (.int 1)))) := po_some (pe_un un_neg pe_int)
  refine wpAny_Slice (thn (po_none.run pins sa σ Ha (fun o Hb => o = none ∧ Hb = Ha) Ia ⟨rfl, rfl⟩) fun vl sb ⟨l, Hb, Ib, pl, el, eb⟩ => ?_)
  subst el eb
  refine thn (po_none.run pins sb σ Hb (fun o Hc => o = none ∧ Hc = Hb) Ib ⟨rfl, rfl⟩) fun vu sc ⟨u, Hc, Ic, pu, eu, ec⟩ => ?_
  subst eu ec
  refine thn (step.run pins sc σ Hc (fun o Hd => o = some (-1) ∧ Hd = Hc) Ic ⟨1, rfl, -1, rfl, rfl, rfl⟩) fun vs sd ⟨o, Hd, Id, ps, eo, ed⟩ => ?_
  subst eo ed
  have Ie : Inv X pins σ Hd { sd with heap := sd.heap.push { cls := .type "slice", data := .fields #[vl, vu, vs] } } := Id.kept (t' := sd.toks) fun b ob z => Heap.get?_push_of_some _ z
  obtain ⟨its, r, ht, hz⟩ := Ie.tuple hx
  have hlen := r.length
  cases pl
  cases pu
  show wpAny (model X.prog X.w) X.A (subscriptTail e (.Slice none none (some (.UnaryOp .USub (.Constant (.int 1) k p1) p2)) p3) (.ref a) (.ref sd.heap.objs.size)) (EP X pins σ Q) X.xe _
  refine tail_any (ops := [.ref a, .ref sd.heap.objs.size]) (IsTup.typeIs ht) (PyProof.Rows.slot_tuple_getitem.lookup) ?_ (by with_unfolding_all rfl)
  refine getItem_rev ht (Heap.IsSliceOf.new _ .none .none vs) ps ?_ (by rw [List.size_toArray]; omega)
  refine ⟨.ref _, _, Ie.laid (t' := sd.toks) (o := .tup xs.reverse) (fun b ob z => Heap.get?_push_of_some _ z) (Nat.le_refl _) ?_, rfl, q _ (Ie.hok.fresh (Nat.le_refl _))⟩
  exact ⟨by rw [List.length_reverse]; exact hz, _, r.reverse, ⟨_, Heap.get?_push_size _ rfl, rfl, _, rfl⟩⟩
theorem pev_rev {e : Expr} {f : Ev} {k : Nat} {p1 p2 p3 pos : Pos} (he : PE X e (rdE f)) : PE X (.Subscript e (.Slice none none (some (.UnaryOp .USub (.Constant (.int 1) k p1) p2)) p3) pos) (rdE (ev1 revD f)) := by
  refine ⟨fun pins s σ H Q I h => ?_⟩
  obtain ⟨m, S, ρ, d, S', R, E, e, q⟩ := h
  unfold ev1 at e
  split at e
  · rename_i d0 S1 h1
    unfold revD at e
    split at e
    · cases e
      refine (pe_revT he).run pins s σ H Q I ⟨m, S, ρ, _, _, R, E, h1, fun m1 H1 v1 X1 r1 => ?_⟩
      obtain ⟨a, vs, rfl, ha, qs⟩ := r1
      exact ⟨a, vs, rfl, .of ha, goTup X1.rel qs.reverse fun m2 H2 v2 X2 r2 => q m2 H2 v2 (X1.trans X2) r2⟩
    · split at e
      · rename_i xs hl
        cases e
        refine (pe_revL he).run pins s σ H Q I ⟨m, S, ρ, _, _, R, E, h1, fun m1 H1 v1 X1 r1 => ?_⟩
        obtain ⟨vs, g1, g2, _⟩ := X1.rel.sqL (K := X.K) hl
        exact ⟨_, vs, r1.2, g1, goLst X1.rel g2.reverse fun m2 H2 v2 X2 r2 => q m2 H2 v2 (X1.trans X2) r2⟩
      · cases e
    · cases e
  · cases e
end
end Sw

/-! Eng12m: repr. -/
namespace Sw
open PySem PySem.Spec PyProof.Rows L2
/-! ### repr -/
def showN (S : Sto) (d : D) : Res D := match res S d with
  | some p => match p.showable && !p.hasDict && Nat.ble p.depth 60 && fits p.shown.length with
    | true => .ok (.str p.shown) S
    | false => .bad
  | none => .bad
def reprN : List D → Sto → Res D
  | [.tup ds], S => showN S (.tup ds)
  | [.ref n], S => showN S (.ref n)
  | [.bl b], S => .ok (.str (if b then "True" else "False")) S
  | [.non], S => .ok (.str "None") S
  | _, _ => .bad
section
variable {X : Cx}
theorem show_run {pins : List (Addr × Obj)} {s : Shared} {σ : L2.St} {H : Hp} {m : Nat → Addr} {S S' : Sto} {d d' : D} {a : Addr} {Q : VK} (hn : NoG X.A) (hu : X.A.units + 64 < cLine) (I : Inv X pins σ H s) (R : Rel m S H) (r : RD m S.len H d (.ref a)) (e : showN S d = .ok d' S')
    (q : ∀ m' H' v, Ext m m' S S' H H' → RD m' S'.len H' d' v → Q v H') : wpAny (model X.prog X.w) X.A (call (.builtin "repr") [.ref a]) (EP X pins σ Q) X.xe s := by
  unfold showN at e
  split at e
  · rename_i p hp
    split at e
    · rename_i hb
      cases e
      simp only [Bool.and_eq_true, Bool.not_eq_true'] at hb
      obtain ⟨d1, p1⟩ := res_dp (K := X.K) R r hp
      obtain ⟨as, r1⟩ := Dp.reads I p (.ref a) (.ref a) d1 rfl
      have hd := Nat.le_of_ble_eq_true hb.1.2
      exact PySem.repr_of_reads' r1 hb.1.1.1 (fun z => by rw [hb.1.1.2] at z; cases z) hn (by omega) (fun _ _ z => z) (fun h' u tk hk => ⟨.str p.shown, H, I.kept (t' := tk) hk, ⟨u, rfl⟩, rdPure R q rfl⟩) (fits_le hb.2)
    · cases e
  · cases e
theorem crv_repr (hn : NoG X.A) (hu : X.A.units + 64 < cLine) : CallR X (.builtin "repr") (rdN reprN) := by
  intro pins s σ H xs us Q I r h
  obtain ⟨m, S, ds, d, S', R, rr, e, q⟩ := h
  unfold reprN at e
  split at e
  · obtain ⟨v, rfl, hv⟩ := rr.one1
    obtain ⟨a, vs, rfl, ha, qs⟩ := id hv
    rw [Vals.ref1 r]
    exact show_run hn hu I R hv e q
  · obtain ⟨v, rfl, hv⟩ := rr.one1
    obtain ⟨h1, rfl⟩ := id hv
    rw [Vals.ref1 r]
    exact show_run hn hu I R hv e q
  · cases e
    obtain ⟨v, rfl, hv⟩ := rr.one1
    rw [show v = _ from hv] at r
    obtain ⟨u, rfl, ru⟩ := vals1 r
    cases ru
    exact PySem.P.repr_of_bool ⟨.str _, H, I.tok _, ⟨_, rfl⟩, rdPure R q rfl⟩
  · cases e
    obtain ⟨v, rfl, hv⟩ := rr.one1
    rw [show v = _ from hv] at r
    obtain ⟨u, rfl, ru⟩ := vals1 r
    cases ru
    exact PySem.P.repr_of_none ⟨.str _, H, I.tok _, ⟨_, rfl⟩, rdPure R q rfl⟩
  · cases e
end
end Sw

/-! Eng12n: dict(list of pairs). -/
namespace Sw
open PySem PySem.Spec PyProof.Rows L2
/-- the pairs of a list, their keys whole numbers or texts -/
def pairsOf : List D → Option (List (Key × D))
  | [] => some []
  | .tup [k, v] :: r => match keyOf k with
    | some q => match pairsOf r with
      | some ps => some ((q, v) :: ps)
      | none => none
    | none => none
  | _ :: _ => none
def putPairs (kvs : List (D × D)) : List (Key × D) → List (D × D)
  | [] => kvs
  | (q, v) :: r => putPairs (dPut keyOf kvs q (kD q) v) r
def dictN : List D → Sto → Res D
  | [.ref n], S => match S.list? n with
    | some xs => match pairsOf xs with
      | some ps => .ok (.ref S.len) (S.add (.dct (putPairs [] ps)))
      | none => .bad
    | none => .bad
  | _, _ => .bad
section
variable {m : Nat → Addr} {k : Nat} {H : Hp}
/-- how pairs stand -/
inductive PrV (m : Nat → Addr) (k : Nat) (H : Hp) : List (Key × D) → List V → List (Key × V) → Prop where
  | nil : PrV m k H [] [] []
  | cons {q : Key} {d : D} {v : V} {t : Addr} {ps : List (Key × D)} {vs : List V} {l : List (Key × V)} (ht : H t = some (.tup [kV q, v])) (hd : RD m k H d v) (r : PrV m k H ps vs l) : PrV m k H ((q, d) :: ps) (.ref t :: vs) ((q, v) :: l)
theorem kD_rd {q : Key} {v : V} (h : RD m k H (kD q) v) : v = kV q := by cases q <;> exact h
theorem prV_of : ∀ {xs : List D} {vs : List V} {ps : List (Key × D)}, RDs m k H xs vs → pairsOf xs = some ps → ∃ l, PrV m k H ps vs l
  | [], vs, ps, h, e => by cases e; rw [show vs = [] from h]; exact ⟨[], .nil⟩
  | x :: xs, vs, ps, h, e => by
    obtain ⟨v, r, rfl, h2, h3⟩ := h
    unfold pairsOf at e
    split at e
    · rename_i e0; cases e0
    · rename_i k' v' r' e0
      cases e0
      split at e
      · rename_i q hq
        split at e
        · rename_i ps' hp
          cases e
          obtain ⟨t, ws, rfl, ht, w1, r1, rfl, hk, w2, r2, rfl, hv, hr⟩ := h2
          have hr : r2 = [] := hr
          subst hr
          rw [keyOf_ok hq] at hk
          rw [kD_rd hk] at ht
          obtain ⟨l, hl⟩ := prV_of h3 hp
          exact ⟨_, .cons ht hv hl⟩
        · cases e
      · cases e
    · cases e
theorem putPairs_ok : ∀ {ps : List (Key × D)} {vs : List V} {l : List (Key × V)} {kvs : List (D × D)} {zs : List (Key × V)}, PrV m k H ps vs l → RKv m k H kD kvs zs → RKv m k H kD (putPairs kvs ps) (mergeK zs l)
  | _, _, _, kvs, zs, .nil, h => h
  | _, _, _, kvs, zs, .cons (q := q) (v := v) (l := l) ht hd r, h => by
    have := putPairs_ok r (dPut_ok (q := q) keyOf_kD h hd)
    exact this
theorem mergeK_length : ∀ (l zs : List (Key × V)), (mergeK zs l).length ≤ zs.length + l.length
  | [], zs => Nat.le_refl _
  | (q, v) :: l, zs => by
    have h1 := mergeK_length l (putK zs q v)
    have h2 := length_putK zs q v
    show (mergeK (putK zs q v) l).length ≤ _
    simp only [List.length_cons]
    omega
theorem KV.merge : ∀ {l : List (Key × V)} {ws : List (Key × Value)} {zs : List (Key × V)} {us : List (Key × Value)}, KV l ws → KV zs us → KV (mergeK zs l) (merged us ws)
  | _, _, _, _, .nil, h => h
  | _, _, _, _, .cons (a := a) (b := b) hab r, h => by
    have h2 := KV.put h a.1 hab.2
    have h3 := KV.merge r h2
    rw [hab.1] at h3
    show KV (mergeK (putK _ a.1 a.2) _) (merged (stored _ b.1 b.2) _)
    rw [hab.1]
    exact h3
end
section
variable {X : Cx}
/-- the items in the heap -/
theorem prV_heap {pins : List (Addr × Obj)} {σ : L2.St} {m : Nat → Addr} {k : Nat} {H : Hp} {s : Shared} (I : Inv X pins σ H s) : ∀ {ps : List (Key × D)} {vs : List V} {l : List (Key × V)} {its : List Value}, PrV m k H ps vs l → Vals vs its →
    ∃ (ts : List Addr) (prs : List (Value × Value)) (kws : List (Key × Value)), its = ts.map Value.ref ∧ ts.length = prs.length ∧ (∀ (j : Nat) (k v : Value), prs[j]? = some (k, v) → PairAt s.heap (ts.getD j 0) k v) ∧ KV l kws ∧ kws.length = prs.length ∧ (∀ (j : Nat) (k v : Value), prs[j]? = some (k, v) → ∃ q, kws[j]? = some (q, v) ∧ (mixKind X.prog X.w).is q k = true)
  | _, _, _, its, .nil, r => by
    cases r
    exact ⟨[], [], [], rfl, rfl, fun j k v e => by simp at e, .nil, rfl, fun j k v e => by simp at e⟩
  | _, _, _, _, .cons (q := q) (v := v) (t := t) ht hd hr, .cons rt r => by
    obtain ⟨ts, prs, kws, h1, h2, h3, h4, h5, h6⟩ := prV_heap I hr r
    obtain ⟨_, its2, rr, tp⟩ := I.hok _ _ ht
    cases rr with
    | cons rk rr =>
      cases rr with
      | cons rv rr =>
        cases rr
        rename_i kw vw
        refine ⟨t :: ts, (kw, vw) :: prs, (q, vw) :: kws, ?_, by simp [h2], fun j k' v' e => ?_, .cons ⟨rfl, rv⟩ h4, by simp [h5], fun j k' v' e => ?_⟩
        · rw [h1, show _ = Value.ref t from rt]; rfl
        · cases j with
          | zero =>
            simp only [List.getElem?_cons_zero, Option.some.injEq, Prod.mk.injEq] at e
            obtain ⟨rfl, rfl⟩ := e
            obtain ⟨o, o1, o2, o3⟩ := tp
            exact .inl ⟨o, o1, o2, o3⟩
          | succ j => exact h3 j k' v' (by simpa using e)
        · cases j with
          | zero =>
            simp only [List.getElem?_cons_zero, Option.some.injEq, Prod.mk.injEq] at e
            obtain ⟨rfl, rfl⟩ := e
            refine ⟨q, rfl, ?_⟩
            cases q with
            | inl i => obtain ⟨tk, rfl⟩ := rk; exact mixKind_int _ _ _ _
            | inr i => obtain ⟨tk, rfl⟩ := rk; exact mixKind_str _ _ _ _
          | succ j => exact h6 j k' v' (by simpa using e)
theorem prV_len {m : Nat → Addr} {k : Nat} {H : Hp} : ∀ {ps : List (Key × D)} {vs : List V} {l : List (Key × V)}, PrV m k H ps vs l → l.length = vs.length
  | _, _, _, .nil => rfl
  | _, _, _, .cons _ _ r => by simp [prV_len r]
theorem crv_dict (hc : X.calm = true) : CallR X (.type "dict") (rdN dictN) := by
  intro pins s σ H xs us Q I r h
  obtain ⟨m, S, ds, d, S', R, rr, e, q⟩ := h
  unfold dictN at e
  split at e
  · obtain ⟨v, rfl, hn, rfl⟩ := rr.one1
    split at e
    · rename_i ys hl
      split at e
      · rename_i ps hps
        cases e
        obtain ⟨vs, h1, h2, _⟩ := R.sqL (K := X.K) hl
        obtain ⟨its, rv, pl, hz⟩ := I.list h1
        rw [Vals.ref1 r]
        obtain ⟨l, hl2⟩ := prV_of h2 hps
        obtain ⟨ts, prs, kws, g1, g2, g3, g4, g5, g6⟩ := prV_heap I hl2 rv
        have hlen : prs.length ≤ sizeLine := by
          have := rv.length
          rw [g1, List.length_map] at this
          omega
        refine call_dict_pairs (knd := mixKind X.prog X.w) (kvs := kws) (PairArg.list _ its.toArray (fun j => ts.getD j 0) prs) (I.ok.hd hc) ⟨?_, ?_, fun j k v e => ⟨?_, g3 j k v e⟩⟩ ⟨g5, fun i key v hr => ?_⟩ hlen fun h' tk hd hk => ?_
        · exact pl
        · rw [List.size_toArray, g1, List.length_map, g2]
        · have hj : j < ts.length := by rw [g2]; exact (List.getElem?_eq_some_iff.mp e).1
          simp [g1, hj]
        · exact g6 i key v hr
        · have kpt : ∀ b o, s.heap.get? b = some o → h'.get? b = some o := fun b o z => hk b o (by simp) z
          have hp := I.hok.fresh (a := s.heap.objs.size) (Nat.le_refl _)
          have hl3 : (mergeK [] l).length ≤ sizeLine := by
            have h4 := mergeK_length l []
            have h5 := prV_len hl2
            simp only [List.length_nil] at h4
            omega
          have ns : (s.heap.objs.size == sysModules) = false := beq_eq_false_iff_ne.mpr (Nat.ne_of_gt I.big)
          refine ⟨.ref _, upd H s.heap.objs.size (.dK (mergeK [] l)), I.laid (t' := tk) kpt (Nat.le_refl _) ⟨hl3, ns, _, KV.merge g4 .nil, hd⟩, rfl, ?_⟩
          exact q (withAt m S.len s.heap.objs.size) _ _ (Ext.add R hp ⟨_, upd_same, RKv.mono' (Nat.le_refl _) (fun _ _ => rfl) (Keep.new hp) _ _ (putPairs_ok (kvs := []) (zs := []) hl2 rfl)⟩) ⟨by rw [Sto.add_len]; exact Nat.lt_succ_self _, by rw [withAt_same]⟩
      · cases e
    · cases e
  · cases e
end
end Sw

/-! Eng13: the small syntax, its evaluator, and the translation of Python's syntax into it. -/
namespace Sw
open PySem PySem.Spec PyProof.Rows L2
inductive Bo where
  | add | sub | mul | fdiv | mod | pow
inductive Co where
  | eq | ne | lt | le | gt | ge | is_in | notIn | is | isNot
inductive Bi where
  | len | int | min | max | all | any | sum | tuple | list | sorted | repr | dict
inductive Me where
  | append | pop | get
inductive Ao where
  | add | sub
mutual
inductive G where
  | name (i : Nat)
  | tup (n : Nat) (gs : Gs)
  | bad
inductive Gs where
  | nil
  | cons (g : G) (gs : Gs)
end
mutual
inductive E where
  | lit (d : D)
  | var (i : Nat)
  | bin (o : Bo) (a b : E)
  | cmp (o : Co) (a b : E)
  | chain (o p : Co) (a b c : E)
  | neg (a : E)
  | not (a : E)
  | and (a b : E)
  | or (a b : E)
  | ite (c a b : E)
  | tup (es : Es)
  | lst (es : Es)
  | dnew (t : Bool)
  | ix (a b : E)
  | sl (a : E) (lo hi : Eo)
  | call (f : Nat) (es : Es)
  | bi (b : Bi) (es : Es)
  | isi (ts : List Tn) (a : E)
  | meth (m : Me) (o : E) (es : Es)
  | comp (it : I) (vs : List Nat) (g : G) (t e : E)
  | comp2 (it : I) (vs : List Nat) (g : G) (t : E) (it1 : I) (vs1 : List Nat) (g1 : G) (t1 e : E)
  | scl (it : I) (vs : List Nat) (g : G) (t e : E)
  | disp (k v : E)
  | dispk (es : Es)
  | rev (a : E)
  | lenum (es : Es)
  | bad
inductive Es where
  | nil
  | cons (e : E) (es : Es)
  | star (e : E) (es : Es)
inductive Eo where
  | none
  | some (e : E)
inductive I where
  | e (a : E)
  | range1 (es : Es)
  | range2 (es : Es)
  | enum (es : Es)
  | zip (es : Es)
  | bad
end
mutual
inductive T where
  | expr (e : E)
  | ret (e : E)
  | asg (e : E) (g : G)
  | aug (i : Nat) (o : Ao) (e : E)
  | put (o i v : E)
  | ite (c : E) (a b : Ts)
  | wh (n : Nat) (c : E) (b : Ts)
  | fo (it : I) (g : G) (b : Ts)
  | pass
  | brk
  | cont
  | bad
inductive Ts where
  | nil
  | cons (s : T) (ss : Ts)
end

/-! ### the evaluator -/
def boD : Bo → D → D → Sto → Res D
  | .add => addD
  | .sub => subD
  | .mul => mulD2
  | .fdiv => fdivD
  | .mod => modD
  | .pow => powD
def coD : Co → D → D → Sto → Res D
  | .eq => eqD
  | .ne => neD
  | .lt => ltD
  | .le => leD
  | .gt => gtD
  | .ge => geD
  | .is_in => inD
  | .notIn => notInD
  | .is => isD
  | .isNot => isNotD
def biN : Bi → List D → Sto → Res D
  | .len => lenN
  | .int => intN
  | .min => minN
  | .max => maxN
  | .all => blN fun bs => bs.all id
  | .any => blN fun bs => bs.any id
  | .sum => sumN
  | .tuple => tupleN
  | .list => listN
  | .sorted => sortedN
  | .repr => reprN
  | .dict => dictN
def evMe : Me → Ev → EvA → Ev
  | .append => evM isLst appM
  | .pop => evM isLst popM
  | .get => evM isDct getM
def aoD : Ao → D → D → Sto → Res D
  | .add => iaddD
  | .sub => isubD
def evBad : Ev := fun _ _ => .bad
mutual
def gv : G → Gv
  | .name i => gvName i
  | .tup n gs => gvTup n (gvs gs)
  | .bad => fun _ _ _ => .bad
def gvs : Gs → Gvs
  | .nil => gvNil
  | .cons g gs => gvCons (gv g) (gvs gs)
end
mutual
def G.slots : G → List Nat
  | .name i => [i]
  | .tup _ gs => gs.slots
  | .bad => []
def Gs.slots : Gs → List Nat
  | .nil => []
  | .cons g gs => g.slots ++ gs.slots
end
mutual
def ev (F : Nat → Fn) : E → Ev
  | .lit d => evC d
  | .var i => evV i
  | .bin o a b => ev2 (boD o) (ev F a) (ev F b)
  | .cmp o a b => ev2 (coD o) (ev F a) (ev F b)
  | .chain o p a b c => evChain (coD o) (coD p) (ev F a) (ev F b) (ev F c)
  | .neg a => ev1 negD (ev F a)
  | .not a => ev1 notD (ev F a)
  | .and a b => evAnd (ev F a) (ev F b)
  | .or a b => evOr (ev F a) (ev F b)
  | .ite c a b => evIf (ev F c) (ev F a) (ev F b)
  | .tup es => evN tupN (evs F es)
  | .lst es => evN lstN (evs F es)
  | .dnew t => match t with
    | true => dNewT
    | false => dNewK
  | .ix a b => ev2 ixD (ev F a) (ev F b)
  | .sl a lo hi => evSl (ev F a) (evo F lo) (evo F hi)
  | .call f es => evN (F f) (evs F es)
  | .bi b es => evN (biN b) (evs F es)
  | .isi ts a => ev1 (isiD ts) (ev F a)
  | .meth m o es => evMe m (ev F o) (evs F es)
  | .comp it vs g t e => evComp (evi F it) vs (gv g) (ev F t) (ev F e)
  | .comp2 it vs g t it1 vs1 g1 t1 e => evComp2 (evi F it) vs (gv g) (ev F t) (evi F it1) vs1 (gv g1) (ev F t1) (ev F e)
  | .scl it vs g t e => evN lenSN (evCons (evSc (evi F it) vs (gv g) (ev F t) (ev F e)) evNil)
  | .disp k v => evDisp (ev F k) (ev F v)
  | .dispk es => evDispK (evs F es)
  | .rev a => ev1 revD (ev F a)
  | .lenum es => evN lenumN (evs F es)
  | .bad => evBad
def evs (F : Nat → Fn) : Es → EvA
  | .nil => evNil
  | .cons e es => evCons (ev F e) (evs F es)
  | .star e es => evStar (ev F e) (evs F es)
def evo (F : Nat → Fn) : Eo → Option Ev
  | .none => Option.none
  | .some e => Option.some (ev F e)
def evi (F : Nat → Fn) : I → Iv
  | .e a => ivE (ev F a)
  | .range1 es => ivR1 (evs F es)
  | .range2 es => ivR2 (evs F es)
  | .enum es => ivEnum (evs F es)
  | .zip es => ivZip (evs F es)
  | .bad => fun _ _ => .bad
end
mutual
def sv (F : Nat → Fn) : T → Sv
  | .expr e => svExpr (ev F e)
  | .ret e => svRet (ev F e)
  | .asg e g => svAsg (ev F e) (gv g)
  | .aug i o e => svAug i (aoD o) (ev F e)
  | .put o i v => svPut (ev F o) (ev F i) (ev F v)
  | .ite c a b => svIf (ev F c) (svs F a) (svs F b)
  | .wh n c b => svWhile (ev F c) (svs F b) n
  | .fo it g b => svForI (evi F it) (gv g) (svs F b)
  | .pass => svNext
  | .brk => fun ρ S => .bk ρ S
  | .cont => fun ρ S => .ct ρ S
  | .bad => fun _ _ => .bad
def svs (F : Nat → Fn) : Ts → Sv
  | .nil => svNext
  | .cons s ss => svSeq (sv F s) (svs F ss)
end

/-! ### the translation -/
structure CC where
  N : List Str
  sc : Scope
  fn : Str → Bool
  fs : List Str
  cs : List (Str × D)
  tk : Bool
  wn : Nat
def isDbg (x : Str) : Bool := (x == ("__debug__" : Str)) || (x == ("__classdict__" : Str)) || (x == ("__name__" : Str))
def cName (C : CC) (x : Str) : E := match isDbg x with
  | true => .bad
  | false => match C.sc.names.lookup x with
    | some .globalImplicit => match C.cs.lookup x with
      | some d => .lit d
      | none => .bad
    | some .globalExplicit => .bad
    | some _ => match C.N.findIdx? (· == x) with
      | some i => .var i
      | none => .bad
    | none => .bad
def cConst : Const → E
  | .none => .lit .non
  | .bool b => .lit (.bl b)
  | .int i => .lit (.int i)
  | .str x => .lit (.str x)
  | _ => .bad
def cBo : Operator → Option Bo
  | .Add => some .add
  | .Sub => some .sub
  | .Mult => some .mul
  | .FloorDiv => some .fdiv
  | .Mod => some .mod
  | .Pow => some .pow
  | _ => none
def cCo : CmpOp → Co
  | .Eq => .eq
  | .NotEq => .ne
  | .Lt => .lt
  | .LtE => .le
  | .Gt => .gt
  | .GtE => .ge
  | .In => .is_in
  | .NotIn => .notIn
  | .Is => .is
  | .IsNot => .isNot
def cEs (f : Expr → E) : List Expr → Es
  | [] => .nil
  | .Starred e _ :: r => .star (f e) (cEs f r)
  | e :: r => .cons (f e) (cEs f r)
def cBs (f : Expr → E) (j : E → E → E) : List Expr → E
  | [] => .bad
  | [a] => f a
  | a :: b :: r => j (f a) (cBs f j (b :: r))
def cEo (f : Expr → E) : Option Expr → Eo
  | none => .none
  | some e => .some (f e)
def cPs (f : Expr → E) : List (Option Expr) → List Expr → Es
  | some k :: ks, v :: vs => .cons (f k) (.cons (f v) (cPs f ks vs))
  | _, _ => .nil
/-- a module's or built-in name -/
def isGl (C : CC) (x : Str) : Bool := (match C.sc.names.lookup x with
  | some .globalImplicit => true
  | _ => false) && !isDbg x
def biOf1 (x : Str) : Option Bi :=
  if x == ("len" : Str) then some .len else if x == ("int" : Str) then some .int else if x == ("min" : Str) then some .min else if x == ("max" : Str) then some .max else
  if x == ("all" : Str) then some .all else if x == ("any" : Str) then some .any else if x == ("sum" : Str) then some .sum else if x == ("tuple" : Str) then some .tuple else if x == ("list" : Str) then some .list else if x == ("sorted" : Str) then some .sorted else if x == ("repr" : Str) then some .repr else none
def biOf2 (x : Str) : Option Bi := if x == ("dict" : Str) then some .dict else none
def biOf (x : Str) : Option Bi := match biOf1 x with
  | some b => some b
  | none => biOf2 x
def tnOf (x : Str) : Option Tn :=
  if x == ("int" : Str) then some .int else if x == ("bool" : Str) then some .bool else if x == ("str" : Str) then some .str else if x == ("tuple" : Str) then some .tuple else if x == ("list" : Str) then some .list else if x == ("dict" : Str) then some .dict else none
def cIsi (C : CC) (f : Expr → E) (a t : Expr) : E := match t with
  | .Name y _ => match isGl C y, tnOf y with
    | true, some T => .isi [T] (f a)
    | _, _ => .bad
  | .Tuple [.Name y _, .Name z _] _ _ => match isGl C y && isGl C z, tnOf y, tnOf z with
    | true, some T, some U => .isi [T, U] (f a)
    | _, _, _ => .bad
  | _ => .bad
def cCall (C : CC) (f : Expr → E) (x : Str) (es : List Expr) : E := match isGl C x && es.all noStar with
  | true => match C.fs.findIdx? (· == x) with
    | some i => .call i (cEs f es)
    | none => match biOf x with
      | some b => match es with
        | [] => .bad
        | _ => .bi b (cEs f es)
      | none => match x == ("isinstance" : Str), es with
        | true, [a, t] => cIsi C f a t
        | _, _ => .bad
  | false => .bad
def meOf (x : Str) : Option Me :=
  if x == ("append" : Str) then some .append else if x == ("pop" : Str) then some .pop else if x == ("get" : Str) then some .get else none
def cMeth (f : Expr → E) (o : Expr) (name : Str) (apos cpos : Pos) (es : List Expr) : E := match noSuper o && (apos.endLine == cpos.line) && es.all noStar && decide (es.length < 20) with
  | true => match meOf name with
    | some .append => match es with
      | [] => .bad
      | _ => .meth .append (f o) (cEs f es)
    | some .pop => .meth .pop (f o) (cEs f es)
    | some .get => match es with
      | [_] => .meth .get (f o) (cEs f es)
      | _ => .bad
    | none => .bad
  | false => .bad
def cI (C : CC) (f : Expr → E) (tg iter : Expr) : I := match noSet iter with
  | true => match iter with
    | .Call (.Name x _) es [] _ => match isGl C x && es.all noStar && (C.fs.findIdx? (· == x)).isNone with
      | true => match x == ("range" : Str), es with
        | true, [_] => .range1 (cEs f es)
        | true, [_, _] => .range2 (cEs f es)
        | true, _ => .bad
        | false, es => match tg with
          | .Tuple _ _ _ => match x == ("enumerate" : Str), x == ("zip" : Str), es with
            | true, _, [_] => .enum (cEs f es)
            | true, _, _ => .bad
            | false, true, [_, _] => .zip (cEs f es)
            | false, true, _ => .bad
            | false, false, _ => .e (f iter)
          | _ => .e (f iter)
      | false => .e (f iter)
    | _ => .e (f iter)
  | false => .bad
mutual
def cG (C : CC) : Nat → Expr → G
  | 0, _ => .bad
  | n + 1, tg => match tg with
    | .Name x _ => match C.sc.names.lookup x, C.fn x with
      | some .local, _ => match C.N.findIdx? (· == x) with
        | some i => .name i
        | none => .bad
      | some .cell, true => match C.N.findIdx? (· == x) with
        | some i => .name i
        | none => .bad
      | _, _ => .bad
    | .Tuple es _ _ => match es.all noStar with
      | true => .tup es.length (cGs C n es)
      | false => .bad
    | _ => .bad
def cGs (C : CC) : Nat → List Expr → Gs
  | 0, _ => .cons .bad .nil
  | n + 1, es => match es with
    | [] => .nil
    | e :: r => .cons (cG C n e) (cGs C n r)
end
def ownOf (N : List Str) (scope : Scope) : List (Str × Nat) := scope.names.filterMap fun y => match y.2 with
  | .local => (N.findIdx? (· == y.1)).map fun i => (y.1, i)
  | .cell => (N.findIdx? (· == y.1)).map fun i => (y.1, i)
  | _ => none
def CC.blk (C : CC) (scope : Scope) : CC := { C with sc := relS scope C.sc, fn := fun x => scope.names.lookup x == some .cell }
/-- an expression (t: as a test) -/
def cX : Nat → CC → Bool → Expr → E
  | 0, _, _, _ => .bad
  | n + 1, C, t, e => match e with
    | .Name x _ => cName C x
    | .Constant c _ _ => cConst c
    | .BinOp a o b _ => match cBo o with
      | some o => .bin o (cX n C false a) (cX n C false b)
      | none => .bad
    | .UnaryOp .Not a _ => .not (cX n C t a)
    | .UnaryOp .USub a _ => .neg (cX n C false a)
    | .BoolOp .And vs _ => cBs (cX n C t) .and vs
    | .BoolOp .Or vs _ => cBs (cX n C t) .or vs
    | .IfExp c a b _ => match t with
      | true => .bad
      | false => .ite (cX n C true c) (cX n C false a) (cX n C false b)
    | .Compare a [o] [b] _ => match noSet b with
      | true => .cmp (cCo o) (cX n C false a) (cX n C false b)
      | false => .bad
    | .Compare a [o, p] [b, c] _ => match noSet c with
      | true => .chain (cCo o) (cCo p) (cX n C false a) (cX n C false b) (cX n C false c)
      | false => .bad
    | .Tuple es _ _ => .tup (cEs (cX n C false) es)
    | .List es _ => .lst (cEs (cX n C false) es)
    | .Dict [] [] _ => .dnew C.tk
    | .Dict [some k] [v] _ => match C.tk with
      | true => .disp (cX n C false k) (cX n C false v)
      | false => .dispk (cPs (cX n C false) [some k] [v])
    | .Dict (k0 :: ks) vs _ => match (k0 :: ks).all (·.isSome) && Nat.beq (ks.length + 1) vs.length && Nat.ble (ks.length + 1) 15 with
      | true => .dispk (cPs (cX n C false) (k0 :: ks) vs)
      | false => .bad
    | .Subscript a (.Slice none none (some (.UnaryOp .USub (.Constant (.int 1) _ _) _)) _) _ => .rev (cX n C false a)
    | .Subscript a (.Slice lo hi none _) _ => .sl (cX n C false a) (cEo (cX n C false) lo) (cEo (cX n C false) hi)
    | .Subscript a b _ => match noSlice b with
      | true => .ix (cX n C false a) (cX n C false b)
      | false => .bad
    | .Call (.Name x _) [.Call (.Name y p1) [a] [] p2] [] _ => match isGl C x && isGl C y && (C.fs.findIdx? (· == x)).isNone && (C.fs.findIdx? (· == y)).isNone && (x == ("list" : Str)) && (y == ("enumerate" : Str)) && noStar a with
      | true => .lenum (cEs (cX n C false) [a])
      | false => cCall C (cX n C false) x [.Call (.Name y p1) [a] [] p2]
    | .Call (.Name x _) [.SetComp elt [⟨tg, iter, ifs, 0⟩] scope _] [] _ => match isGl C x && (C.fs.findIdx? (· == x)).isNone && (x == ("len" : Str)) && blkC C.N C.sc scope (ownOf C.N scope) && noSet iter && ((cG (C.blk scope) n tg).slots.all fun i => ((ownOf C.N scope).map (·.2)).contains i) with
      | true => match ifs with
        | [] => .scl (cI C (cX n C false) tg iter) ((ownOf C.N scope).map (·.2)) (cG (C.blk scope) n tg) (.lit (.bl true)) (cX n (C.blk scope) false elt)
        | [c] => .scl (cI C (cX n C false) tg iter) ((ownOf C.N scope).map (·.2)) (cG (C.blk scope) n tg) (cX n (C.blk scope) true c) (cX n (C.blk scope) false elt)
        | _ => .bad
      | false => .bad
    | .Call (.Name x _) es [] _ => cCall C (cX n C false) x es
    | .Call (.Attribute o name apos) es [] cpos => cMeth (cX n C false) o name apos cpos es
    | .ListComp elt [⟨tg, iter, ifs, 0⟩] scope _ => match blkC C.N C.sc scope (ownOf C.N scope) && noSet iter && ((cG (C.blk scope) n tg).slots.all fun i => ((ownOf C.N scope).map (·.2)).contains i) with
      | true => match ifs with
        | [] => .comp (cI C (cX n C false) tg iter) ((ownOf C.N scope).map (·.2)) (cG (C.blk scope) n tg) (.lit (.bl true)) (cX n (C.blk scope) false elt)
        | [c] => .comp (cI C (cX n C false) tg iter) ((ownOf C.N scope).map (·.2)) (cG (C.blk scope) n tg) (cX n (C.blk scope) true c) (cX n (C.blk scope) false elt)
        | _ => .bad
      | false => .bad
    | .ListComp elt [⟨tg, iter, ifs, 0⟩, ⟨tg1, iter1, ifs1, 0⟩] scope _ => match blkC C.N C.sc scope (ownOf C.N scope) && noSet iter && noSet iter1 && ((cG (C.blk scope) n tg).slots.all fun i => ((ownOf C.N scope).map (·.2)).contains i) && ((cG (C.blk scope) n tg1).slots.all fun i => ((ownOf C.N scope).map (·.2)).contains i) with
      | true => match ifs, ifs1 with
        | [], [] => .comp2 (cI C (cX n C false) tg iter) ((ownOf C.N scope).map (·.2)) (cG (C.blk scope) n tg) (.lit (.bl true)) (cI (C.blk scope) (cX n (C.blk scope) false) tg1 iter1) (cG (C.blk scope) n tg1).slots (cG (C.blk scope) n tg1) (.lit (.bl true)) (cX n (C.blk scope) false elt)
        | [], [c] => .comp2 (cI C (cX n C false) tg iter) ((ownOf C.N scope).map (·.2)) (cG (C.blk scope) n tg) (.lit (.bl true)) (cI (C.blk scope) (cX n (C.blk scope) false) tg1 iter1) (cG (C.blk scope) n tg1).slots (cG (C.blk scope) n tg1) (cX n (C.blk scope) true c) (cX n (C.blk scope) false elt)
        | _, _ => .bad
      | false => .bad
    | _ => .bad
/-! ### statements -/
def isLoc (C : CC) (x : Str) : Bool := match C.sc.names.lookup x with
  | some .local => true
  | _ => false
/-- does «y = [..]» store at once -/
def swB (C : CC) (y : Str) (py : Pos) (scope : Scope) (pos : Pos) : Bool := isLoc C y && (py.line == pos.line) && !(scope.names.any fun (n, k) => n == y && (k == .local || k == .cell))
/-- the stores of «a, b = x, y»: some none: in their order; some names: from the right -/
def swp (C : CC) (ts vs : List Expr) : Option (Option (List Str)) :=
  if (!(ts.length == 2 || ts.length == 3) || vs.length != ts.length) = true then some none else
  if (vs.any fun | .Starred .. => true | _ => false) = true then some none else
  let line := (ts.head?.map (·.pos.line)).getD 0
  let names := ts.filterMap fun
    | .Name id pos => if C.sc.names.lookup id == some .local && pos.line == line then some id else none
    | _ => none
  if (names.length != ts.length || names.eraseDups.length != names.length) = true then some none else
  if vs.all (foldedForSure 8) = true then some none else
  if vs.all (constantsAlone 8) = true then none else some (some names)
/-- a plain store of a name -/
def cAsgN (C : CC) (x : Str) (v : E) : T := match C.sc.names.lookup x, C.fn x with
  | some .local, _ => match C.N.findIdx? (· == x) with
    | some i => .asg v (.name i)
    | none => .bad
  | some .cell, true => match C.N.findIdx? (· == x) with
    | some i => .asg v (.name i)
    | none => .bad
  | _, _ => .bad
def sameStrs : List Str → List Str → Bool
  | [], [] => true
  | a :: r, b :: s => (a == b) && sameStrs r s
  | _, _ => false
def cPar (C : CC) (n : Nat) (ts vs : List Expr) : T := match swp C ts vs with
  | some none => match ts.all noStar with
    | true => .asg (.tup (cEs (cX n C false) vs)) (.tup ts.length (cGs C n ts))
    | false => .bad
  | some (some names) => match ts, vs with
    | [.Name x _, .Name y _], [a, b] => match sameStrs names [x, y] && isLoc C x && isLoc C y, C.N.findIdx? (· == x), C.N.findIdx? (· == y) with
      | true, some i, some j => match Nat.beq i j with
        | false => .asg (.tup (cEs (cX n C false) [a, b])) (.tup 2 (.cons (.name i) (.cons (.name j) .nil)))
        | true => .bad
      | _, _, _ => .bad
    | [.Name x _, .Name y _, .Name z _], [a, b, c] => match sameStrs names [x, y, z] && isLoc C x && isLoc C y && isLoc C z, C.N.findIdx? (· == x), C.N.findIdx? (· == y), C.N.findIdx? (· == z) with
      | true, some i, some j, some l => match Nat.beq i j || Nat.beq i l || Nat.beq j l with
        | false => .asg (.tup (cEs (cX n C false) [a, b, c])) (.tup 3 (.cons (.name i) (.cons (.name j) (.cons (.name l) .nil))))
        | true => .bad
      | _, _, _, _ => .bad
    | _, _ => .bad
  | none => .bad
def cAsg (C : CC) (n : Nat) (tg v : Expr) : T := match tg with
  | .Name x py => match noComp v with
    | true => cAsgN C x (cX n C false v)
    | false => match v with
      | .ListComp _ [⟨_, _, _, 0⟩] scope pos => match swB C x py scope pos with
        | false => cAsgN C x (cX n C false v)
        | true => match n with
          | 0 => .bad
          | _ + 1 => cAsgN C x (cX n C false v)
      | .ListComp _ [⟨_, _, _, 0⟩, ⟨_, _, _, 0⟩] scope pos => match swB C x py scope pos with
        | false => cAsgN C x (cX n C false v)
        | true => match n with
          | 0 => .bad
          | _ + 1 => cAsgN C x (cX n C false v)
      | _ => .bad
  | .Tuple ts _ _ => match v with
    | .Tuple vs _ _ => cPar C n ts vs
    | _ => match ts.all noStar && noComp v with
      | true => .asg (cX n C false v) (.tup ts.length (cGs C n ts))
      | false => .bad
  | .Subscript o i _ => .put (cX n C false o) (cX n C false i) (cX n C false v)
  | _ => .bad
def cAo : Operator → Option Ao
  | .Add => some .add
  | .Sub => some .sub
  | _ => none
mutual
def cT : Nat → CC → Stmt → T
  | 0, _, _ => .bad
  | n + 1, C, st => match st with
    | .Expr e _ => match noComp e with
      | true => .expr (cX n C false e)
      | false => .bad
    | .Return (some e) _ => .ret (cX n C false e)
    | .Return none _ => .ret (.lit .non)
    | .Assign [tg] v _ => cAsg C n tg v
    | .AugAssign (.Name x _) op e _ => match cAo op, C.sc.names.lookup x, C.fn x, C.N.findIdx? (· == x) with
      | some o, some .local, _, some i => .aug i o (cX n C false e)
      | some o, some .cell, true, some i => .aug i o (cX n C false e)
      | _, _, _, _ => .bad
    | .If c a b _ => .ite (cX n C true c) (cTs n C a) (cTs n C b)
    | .While c b [] _ => .wh C.wn (cX n C true c) (cTs n C b)
    | .For tg iter b [] _ => match noSet iter with
      | true => .fo (cI C (cX n C false) tg iter) (cG C n tg) (cTs n C b)
      | false => .bad
    | .Pass _ => .pass
    | .Break _ => .brk
    | .Continue _ => .cont
    | _ => .bad
def cTs : Nat → CC → List Stmt → Ts
  | 0, _, _ => .cons .bad .nil
  | n + 1, C, ss => match ss with
    | [] => .nil
    | s :: r => .cons (cT n C s) (cTs n C r)
end
end Sw

/-! Eng14: the translation of expressions is right. -/
namespace Sw
open PySem PySem.Spec PyProof.Rows L2
def bltNames : List Str := ["len", "int", "min", "max", "all", "any", "sum", "tuple", "list", "isinstance", "bool", "str", "dict", "range", "enumerate", "zip", "sorted", "repr"]
/-- a context of the translation -/
structure Good (C : CC) (X : Cx) (F : Nat → Fn) (k : Nat) : Prop where
  N : X.N = C.N
  nd : C.N.Nodup
  sc : X.env.scope = C.sc
  kind : C.sc.kind = .function
  fn : ∀ x, X.fn x = C.fn x
  calm : X.calm = true
  xe : X.xe = fun _ _ => False
  room : Room k X.A
  nog : NoG X.A
  defs : ∀ i x, C.fs[i]? = some x → ∃ ar, Def X.prog X.w X.K X.mg X.base k x ar (F i)
  con : ∀ x d, C.cs.lookup x = some d → ∃ v u, X.mg x = some u ∧ RelV v u ∧ ∀ m k H, RD m k H d v
  blt : ∀ x ∈ bltNames, X.mg x = none
section
variable {C : CC} {X : Cx} {F : Nat → Fn} {k : Nat} {e a b c : Expr} {es : List Expr} {pos : Pos} {x : Str}
theorem Good.hu (G : Good C X F k) : X.A.units + 64 < cLine := by have := G.room.un; omega
theorem Good.hu1 (G : Good C X F k) : X.A.units + 1 < cLine := by have := G.room.un; omega
theorem pev_bad : PE X e (rdE evBad) := ⟨fun _ _ _ _ _ _ h => by obtain ⟨_, _, _, _, _, _, _, e, _⟩ := h; cases e⟩
theorem ptv_bad : PT X e (rdT evBad) := ⟨fun _ _ _ _ _ _ h => by obtain ⟨_, _, _, _, _, _, _, e, _⟩ := h; cases e⟩
theorem pi_bad {tg : Expr} : PI X tg e (rdI fun _ _ => .bad) := ⟨fun _ _ _ _ _ _ h => by obtain ⟨_, _, _, _, _, _, _, e, _⟩ := h; cases e⟩
theorem pg_bad {sl : List Nat} : PG X e (rdG sl fun _ _ _ => .bad) := ⟨fun _ _ _ _ _ _ _ _ _ h => by obtain ⟨_, _, _, _, _, _, _, _, _, e, _⟩ := h; cases e⟩
theorem find_at {N : List Str} {i : Nat} (h : N.findIdx? (· == x) = some i) : N[i]? = some x := by
  obtain ⟨h1, h2, _⟩ := List.findIdx?_eq_some_iff_getElem.mp h
  rw [List.getElem?_eq_getElem h1]
  exact congrArg some (by simpa using h2)
theorem dbg1 (h : isDbg x = false) : (x == ("__debug__" : Str)) = false := by
  unfold isDbg at h
  simp only [Bool.or_eq_false_iff] at h
  exact h.1.1
theorem dbg2 (h : isDbg x = false) : (x == ("__classdict__" : Str)) = false := by
  unfold isDbg at h
  simp only [Bool.or_eq_false_iff] at h
  exact h.1.2
theorem dbg3 (h : isDbg x = false) : x ≠ "__name__" := by
  unfold isDbg at h
  simp only [Bool.or_eq_false_iff] at h
  exact fun z => by rw [z] at h; simp at h
theorem isGl_ok (G : Good C X F k) (h : isGl C x = true) : Gl X x ∧ isDbg x = false := by
  unfold isGl at h
  simp only [Bool.and_eq_true, Bool.not_eq_true'] at h
  refine ⟨?_, h.2⟩
  have h1 := h.1
  split at h1
  · rename_i e
    show X.env.kindOf x = _
    unfold Env.kindOf
    rw [G.sc]; exact e
  · cases h1
theorem cName_ok (G : Good C X F k) : PE X (.Name x pos) (rdE (ev F (cName C x))) := by
  unfold cName
  split
  · simp only [ev]; exact pev_bad
  · rename_i hd
    split
    · rename_i hl
      split
      · rename_i d hc
        simp only [ev]
        obtain ⟨v, u, h1, h2, h3⟩ := G.con x d hc
        exact pev_glob (show X.env.kindOf x = _ by unfold Env.kindOf; rw [G.sc]; exact hl) h1 h2 h3 (dbg1 hd)
      · simp only [ev]; exact pev_bad
    · simp only [ev]; exact pev_bad
    · rename_i kk h1 h2 hl
      split
      · rename_i i hi
        simp only [ev]
        refine pev_var (by rw [G.N]; exact find_at hi) ?_ (dbg1 hd) (dbg2 hd)
        unfold Vis
        rw [G.sc, hl]
        cases kk with
        | «local» => exact .inl rfl
        | cell => exact .inr (.inl rfl)
        | free => exact .inr (.inr rfl)
        | globalExplicit => exact absurd rfl h2
        | globalImplicit => exact absurd rfl h1
      · simp only [ev]; exact pev_bad
    · simp only [ev]; exact pev_bad
theorem cConst_ok {v : Const} {j : Nat} : PE X (.Constant v j pos) (rdE (ev F (cConst v))) := by
  unfold cConst
  split <;> simp only [ev]
  · exact pev_non
  · exact pev_bl
  · exact pev_int
  · exact pev_str
  · exact pev_bad
theorem bo_ok {o : Operator} {b : Bo} (h : cBo o = some b) : OpR X (binaryOp o) (rd2 (boD b)) := by
  cases o <;> simp only [cBo] at h <;> cases h
  · exact opv_add
  · exact opv_sub
  · exact opv_mul2
  · exact opv_mod
  · exact opv_pow
  · exact opv_fdiv
theorem co_ok (G : Good C X F k) (o : CmpOp) : OpR X (compareOp o) (rd2 (coD (cCo o))) := by
  cases o <;> simp only [cCo, coD]
  · exact opv_eq G.hu
  · exact opv_ne G.hu
  · exact opv_ord op_lt (fun a b c d e f => PySem.W.lt_data a b c d e f) G.hu
  · exact opv_ord op_le (fun a b c d e f => PySem.W.le_data a b c d e f) G.hu
  · exact opv_ord op_gt (fun a b c d e f => PySem.W.gt_data a b c d e f) G.hu
  · exact opv_ord op_ge (fun a b c d e f => PySem.W.ge_data a b c d e f) G.hu
  · exact opv_is
  · exact opv_isNot
  · exact opv_in G.hu
  · exact opv_notIn G.hu
theorem cEs_ok {f : Expr → E} (hf : ∀ e, PE X e (rdE (ev F (f e)))) : ∀ es : List Expr, PA X es (rdA (evs F (cEs f es)))
  | [] => by simp only [cEs, evs]; exact pav_nil
  | e :: es => by
    have ih := cEs_ok hf es
    unfold cEs
    split
    · rename_i h; cases h
    · rename_i e' p r h
      cases h
      simp only [evs]
      exact pav_star (hf _) ih
    · rename_i e' r hn h
      cases h
      simp only [evs]
      refine pav_cons (hf _) ih (star_cons ?_)
      cases e <;> first | rfl | exact absurd rfl (hn _ _)
theorem bi_ok (G : Good C X F k) {b : Bi} (h : biOf x = some b) (hg : Gl X x) (hd : isDbg x = false) (ha : PA X (e :: es) (rdA (evs F (.cons (.bad) .nil)))) : True := trivial
theorem biCall1_ok (G : Good C X F k) {b : Bi} {g : EvA} {p : Pos} (h : biOf1 x = some b) (hg : Gl X x) (hd : isDbg x = false) (ha : PA X (e :: es) (rdA g)) (hs : (e :: es).all noStar = true) : PE X (.Call (.Name x p) (e :: es) [] pos) (rdE (evN (biN b) g)) := by
  have hs' : noStar e = true ∧ es.all noStar = true := by simpa using hs
  have s1 : starEach (e :: es) X.env = (false, eval e X.env) :: starEach es X.env := star_cons hs'.1
  have s2 : (backTo pos (starEach es X.env)).any (·.1) = false := star_plain hs'.2
  unfold biOf1 at h
  split at h
  · rename_i hx; cases h; have hx := eq_of_beq hx; subst hx
    exact pev_callB crv_len hg (G.blt _ (by simp [bltNames])) boot_len ha (dbg3 hd) (dbg1 hd) s1 s2
  · split at h
    · rename_i hx; cases h; have hx := eq_of_beq hx; subst hx
      exact pev_callTy crv_int hg (G.blt _ (by simp [bltNames])) PyProof.Rows.boot_int ha (dbg3 hd) (dbg1 hd) s1 s2
    · split at h
      · rename_i hx; cases h; have hx := eq_of_beq hx; subst hx
        exact pev_callB (crv_min G.calm) hg (G.blt _ (by simp [bltNames])) boot_min ha (dbg3 hd) (dbg1 hd) s1 s2
      · split at h
        · rename_i hx; cases h; have hx := eq_of_beq hx; subst hx
          exact pev_callB (crv_max G.calm) hg (G.blt _ (by simp [bltNames])) boot_max ha (dbg3 hd) (dbg1 hd) s1 s2
        · split at h
          · rename_i hx; cases h; have hx := eq_of_beq hx; subst hx
            exact pev_callB (crv_all G.calm) hg (G.blt _ (by simp [bltNames])) (by decide +kernel) ha (dbg3 hd) (dbg1 hd) s1 s2
          · split at h
            · rename_i hx; cases h; have hx := eq_of_beq hx; subst hx
              exact pev_callB (crv_any G.calm) hg (G.blt _ (by simp [bltNames])) (by decide +kernel) ha (dbg3 hd) (dbg1 hd) s1 s2
            · split at h
              · rename_i hx; cases h; have hx := eq_of_beq hx; subst hx
                exact pev_callB (crv_sum G.calm) hg (G.blt _ (by simp [bltNames])) boot_sum ha (dbg3 hd) (dbg1 hd) s1 s2
              · split at h
                · rename_i hx; cases h; have hx := eq_of_beq hx; subst hx
                  exact pev_callTy crv_tuple hg (G.blt _ (by simp [bltNames])) PyProof.Rows.boot_tuple ha (dbg3 hd) (dbg1 hd) s1 s2
                · split at h
                  · rename_i hx; cases h; have hx := eq_of_beq hx; subst hx
                    exact pev_callTy crv_list hg (G.blt _ (by simp [bltNames])) PyProof.Rows.boot_list ha (dbg3 hd) (dbg1 hd) s1 s2
                  · split at h
                    · rename_i hx; cases h; have hx := eq_of_beq hx; subst hx
                      exact pev_callB (crv_sorted G.hu) hg (G.blt _ (by simp [bltNames])) (by decide +kernel) ha (dbg3 hd) (dbg1 hd) s1 s2
                    · split at h
                      · rename_i hx; cases h; have hx := eq_of_beq hx; subst hx
                        exact pev_callB (crv_repr G.nog G.hu) hg (G.blt _ (by simp [bltNames])) (by decide +kernel) ha (dbg3 hd) (dbg1 hd) s1 s2
                      · cases h
theorem biCall_ok (G : Good C X F k) {b : Bi} {g : EvA} {p : Pos} (h : biOf x = some b) (hg : Gl X x) (hd : isDbg x = false) (ha : PA X (e :: es) (rdA g)) (hs : (e :: es).all noStar = true) : PE X (.Call (.Name x p) (e :: es) [] pos) (rdE (evN (biN b) g)) := by
  unfold biOf at h
  split at h
  · rename_i b' hb
    cases h
    exact biCall1_ok G hb hg hd ha hs
  · have hs' : noStar e = true ∧ es.all noStar = true := by simpa using hs
    have s1 : starEach (e :: es) X.env = (false, eval e X.env) :: starEach es X.env := star_cons hs'.1
    have s2 : (backTo pos (starEach es X.env)).any (·.1) = false := star_plain hs'.2
    unfold biOf2 at h
    split at h
    · rename_i hx; cases h; have hx := eq_of_beq hx; subst hx
      exact pev_callTy (crv_dict G.calm) hg (G.blt _ (by simp [bltNames])) PyProof.Rows.boot_dict ha (dbg3 hd) (dbg1 hd) s1 s2
    · cases h
theorem tn_ok (G : Good C X F k) {T : Tn} (h : tnOf x = some T) : X.mg x = none ∧ bootBuiltins x = some (.type T.name) := by
  unfold tnOf at h
  split at h
  · rename_i hx; cases h; have hx := eq_of_beq hx; subst hx; exact ⟨G.blt _ (by simp [bltNames]), PyProof.Rows.boot_int⟩
  · split at h
    · rename_i hx; cases h; have hx := eq_of_beq hx; subst hx; exact ⟨G.blt _ (by simp [bltNames]), PyProof.Rows.boot_bool⟩
    · split at h
      · rename_i hx; cases h; have hx := eq_of_beq hx; subst hx; exact ⟨G.blt _ (by simp [bltNames]), PyProof.Rows.boot_str⟩
      · split at h
        · rename_i hx; cases h; have hx := eq_of_beq hx; subst hx; exact ⟨G.blt _ (by simp [bltNames]), PyProof.Rows.boot_tuple⟩
        · split at h
          · rename_i hx; cases h; have hx := eq_of_beq hx; subst hx; exact ⟨G.blt _ (by simp [bltNames]), PyProof.Rows.boot_list⟩
          · split at h
            · rename_i hx; cases h; have hx := eq_of_beq hx; subst hx; exact ⟨G.blt _ (by simp [bltNames]), PyProof.Rows.boot_dict⟩
            · cases h
theorem cCall_ok (G : Good C X F k) {f : Expr → E} {p : Pos} (hf : ∀ e, PE X e (rdE (ev F (f e)))) : PE X (.Call (.Name x p) es [] pos) (rdE (ev F (cCall C f x es))) := by
  unfold cCall
  split
  · rename_i hh
    obtain ⟨h1, h2⟩ := Bool.and_eq_true_iff.mp hh
    obtain ⟨hg, hd⟩ := isGl_ok G h1
    have ha := cEs_ok (F := F) hf es
    split
    · rename_i i hi
      simp only [ev]
      obtain ⟨ar, Df⟩ := G.defs i x (find_at hi)
      cases es with
      | nil => simp only [cEs, evs]; exact pev_call0 Df G.room G.nog hg (dbg1 hd)
      | cons e es =>
        have hs' : noStar e = true ∧ es.all noStar = true := by simpa using h2
        exact pev_call Df G.room G.nog hg ha (dbg1 hd) (star_cons hs'.1) (star_plain hs'.2)
    · split
      · rename_i b hb
        cases es with
        | nil => simp only [ev]; exact pev_bad
        | cons e es => simp only [ev]; exact biCall_ok G hb hg hd ha h2
      · split
        · rename_i a t hx
          have hx := eq_of_beq hx
          subst hx
          have hs' : noStar a = true ∧ noStar t = true := by simpa using h2
          unfold cIsi
          split
          · rename_i y p1
            split
            · rename_i T hy hT
              obtain ⟨hg1, hd1⟩ := isGl_ok G hy
              obtain ⟨m1, b1⟩ := tn_ok G hT
              simp only [ev]
              exact pev_isi (p2 := p1) (hf a) hg (G.blt _ (by simp [bltNames])) hg1 m1 b1 (dbg3 hd1) (dbg1 hd1) (star_cons hs'.1)
            · simp only [ev]; exact pev_bad
          · rename_i y p1 z p2 kk p3
            split
            · rename_i T U hy hT hU
              obtain ⟨hy1, hy2⟩ := Bool.and_eq_true_iff.mp hy
              obtain ⟨hg1, hd1⟩ := isGl_ok G hy1
              obtain ⟨hg2, hd2⟩ := isGl_ok G hy2
              obtain ⟨m1, b1⟩ := tn_ok G hT
              obtain ⟨m2, b2⟩ := tn_ok G hU
              simp only [ev]
              exact pev_isi2 (hf a) hg (G.blt _ (by simp [bltNames])) hg1 m1 b1 (dbg3 hd1) (dbg1 hd1) hg2 m2 b2 (dbg3 hd2) (dbg1 hd2) (fun es => star_cons hs'.1)
            · simp only [ev]; exact pev_bad
          · simp only [ev]; exact pev_bad
        · simp only [ev]; exact pev_bad
  · simp only [ev]; exact pev_bad
theorem few_ok {env : Env} {cpos : Pos} (h : es.all noStar = true) (hl : es.length < 20) : ((backTo cpos (starEach es env)).all (fun x => !x.1) && (backToKw cpos (keywordEach [] env)).all (fun x => x.1.isSome)
      && decide (es.length + ([] : List Keyword).length + (if ([] : List Keyword).isEmpty then 0 else 1) < 30)) = true := by
  rw [star_few h]
  simp [backToKw, keywordEach]
  omega
theorem cMeth_ok (G : Good C X F k) {f : Expr → E} {o : Expr} {name : Str} {apos cpos : Pos} (hf : ∀ e, PE X e (rdE (ev F (f e)))) : PE X (.Call (.Attribute o name apos) es [] cpos) (rdE (ev F (cMeth f o name apos cpos es))) := by
  unfold cMeth
  split
  · rename_i hh
    simp only [Bool.and_eq_true, decide_eq_true_eq] at hh
    obtain ⟨⟨⟨h1, h2⟩, h3⟩, h4⟩ := hh
    have ha := cEs_ok (F := F) hf es
    split
    · rename_i hn
      unfold meOf at hn
      split at hn
      · rename_i hx
        have hx := eq_of_beq hx
        subst hx
        cases es with
        | nil => simp only [ev]; exact pev_bad
        | cons e es =>
          have hs' : noStar e = true ∧ es.all noStar = true := by simpa using h3
          simp only [ev, evMe]
          exact pev_bm PySem.F.plainAttrs_list PySem.F.slot_list_append PySem.F.type_list_append mtv_app tyV_lst (hf o) ha (base_of h1) (few_ok h3 h4) h2 (star_cons hs'.1) (star_plain hs'.2)
      · split at hn
        · cases hn
        · split at hn <;> cases hn
    · rename_i hn
      unfold meOf at hn
      split at hn
      · cases hn
      · split at hn
        · rename_i hx
          have hx := eq_of_beq hx
          subst hx
          cases es with
          | nil =>
            simp only [ev, evMe, cEs, evs]
            exact pev_bm0 PySem.F.plainAttrs_list PySem.F.slot_list_pop PySem.F.type_list_pop mtv_pop tyV_lst (hf o) (base_of h1) h2
          | cons e es =>
            have hs' : noStar e = true ∧ es.all noStar = true := by simpa using h3
            simp only [ev, evMe]
            exact pev_bm PySem.F.plainAttrs_list PySem.F.slot_list_pop PySem.F.type_list_pop mtv_pop tyV_lst (hf o) ha (base_of h1) (few_ok h3 h4) h2 (star_cons hs'.1) (star_plain hs'.2)
        · split at hn <;> cases hn
    · rename_i hn
      unfold meOf at hn
      split at hn
      · cases hn
      · split at hn
        · cases hn
        · split at hn
          · rename_i hx
            have hx := eq_of_beq hx
            subst hx
            split
            · rename_i e
              have hs' : noStar e = true := by simpa using h3
              have e1 : cEs f [e] = .cons (f e) .nil := by cases e <;> first | rfl | cases hs'
              rw [e1]
              simp only [ev, evMe, evs]
              refine pev_get1 G.hu1 (hf o) (hf e) ⟨base_of h1, few_ok h3 h4, h2, ?_⟩
              rw [star_cons hs']
              rfl
            · simp only [ev]; exact pev_bad
          · cases hn
    · simp only [ev]; exact pev_bad
  · simp only [ev]; exact pev_bad
end
end Sw

/-! Eng15: the translation of expressions is right, the whole. -/
namespace Sw
open PySem PySem.Spec PyProof.Rows L2
section
variable {C : CC} {X : Cx} {F : Nat → Fn} {k : Nat} {e a b c : Expr} {es : List Expr} {pos : Pos} {x : Str}
theorem star1 {env : Env} (h : noStar a = true) : starEach [a] env = [(false, eval a env)] := star_cons h
theorem star2 {env : Env} (h : noStar a = true) (h' : noStar b = true) : starEach [a, b] env = [(false, eval a env), (false, eval b env)] := by rw [star_cons h, star1 h']
theorem cI_ok (G : Good C X F k) {f : Expr → E} {tg iter : Expr} (hf : ∀ e, PE X e (rdE (ev F (f e)))) : PI X tg iter (rdI (evi F (cI C f tg iter))) := by
  unfold cI
  split
  · split
    · rename_i x p es pos _
      have ha := cEs_ok (F := F) hf es
      split
      · rename_i hh
        simp only [Bool.and_eq_true] at hh
        obtain ⟨⟨h1, h2⟩, h3⟩ := hh
        obtain ⟨hg, hd⟩ := isGl_ok G h1
        split
        · have hx := eq_of_beq (show (x == ("range" : Str)) = true by assumption)
          subst hx
          simp only [evi]
          exact piv_range1 hg (G.blt _ (by simp [bltNames])) ha (star1 (by simpa using h2))
        · have hx := eq_of_beq (show (x == ("range" : Str)) = true by assumption)
          subst hx
          simp only [List.all_cons, List.all_nil, Bool.and_eq_true, Bool.and_true] at h2
          simp only [evi]
          exact piv_range2 hg (G.blt _ (by simp [bltNames])) ha (star2 h2.1 h2.2) (star1 h2.2)
        · simp only [evi]; exact pi_bad
        · split
          · split
            · have hx := eq_of_beq (show (x == ("enumerate" : Str)) = true by assumption)
              subst hx
              simp only [evi]
              exact piv_enum hg (G.blt _ (by simp [bltNames])) ha (star1 (by simpa using h2))
            · simp only [evi]; exact pi_bad
            · have hx := eq_of_beq (show (x == ("zip" : Str)) = true by assumption)
              subst hx
              simp only [List.all_cons, List.all_nil, Bool.and_eq_true, Bool.and_true] at h2
              simp only [evi]
              exact piv_zip hg (G.blt _ (by simp [bltNames])) ha (star2 h2.1 h2.2) (star1 h2.2)
            · simp only [evi]; exact pi_bad
            · simp only [evi]; exact piv_e (hf _)
          · simp only [evi]; exact piv_e (hf _)
      · simp only [evi]; exact piv_e (hf _)
    · simp only [evi]; exact piv_e (hf _)
  · simp only [evi]; exact pi_bad
theorem asg_cons {env : Env} (h : noStar e = true) : (assignEach (e :: es) env).map (·.2) = assign e env :: (assignEach es env).map (·.2) := by
  cases e <;> first | rfl | cases h
theorem asg_len {env : Env} : ∀ {es : List Expr}, es.all noStar = true → (assignEach es env).length = es.length ∧ (assignEach es env).findIdx? (·.1) = none
  | [], _ => ⟨rfl, rfl⟩
  | e :: es, h => by
    simp only [List.all_cons, Bool.and_eq_true] at h
    obtain ⟨h1, h2⟩ := asg_len (env := env) h.2
    have e1 : assignEach (e :: es) env = (false, assign e env) :: assignEach es env := by
      cases e <;> first | rfl | cases h.1
    rw [e1]
    refine ⟨by simp [h1], ?_⟩
    rw [List.findIdx?_cons]
    simp [h2]
mutual
theorem cG_ok (G : Good C X F k) {sl : List Nat} : ∀ (n : Nat) (tg : Expr), (∀ i ∈ (cG C n tg).slots, i ∈ sl) → PG X tg (rdG sl (gv (cG C n tg)))
  | 0, tg, _ => by simp only [cG, gv]; exact pg_bad
  | n + 1, tg, h => by
    unfold cG at h ⊢
    split
    · rename_i x p
      split
      · rename_i hl
        split
        · rename_i i hi
          simp only [gv]
          refine pgv_name (h i ?_) (by rw [G.N]; exact G.nd) (by rw [G.N]; exact find_at hi) (.inl (by rw [G.sc]; exact hl)) (.inr (by rw [G.sc]; exact hl))
          simp only [hl, hi, Sw.G.slots, List.mem_singleton]
        · simp only [gv]; exact pg_bad
      · rename_i hl hfn
        split
        · rename_i i hi
          simp only [gv]
          refine pgv_name (h i ?_) (by rw [G.N]; exact G.nd) (by rw [G.N]; exact find_at hi) (.inr (by rw [G.sc]; exact hl)) (.inl (by rw [G.fn]; exact hfn))
          simp only [hl, hfn, hi, Sw.G.slots, List.mem_singleton]
        · simp only [gv]; exact pg_bad
      · simp only [gv]; exact pg_bad
    · rename_i es kk p
      split
      · rename_i hs
        simp only [gv]
        refine pgv_tup G.calm (cGs_ok G n es hs fun i hi => h i ?_) (asg_len hs).1 (asg_len hs).2
        simp only [hs, Sw.G.slots]; exact hi
      · simp only [gv]; exact pg_bad
    · simp only [gv]; exact pg_bad
theorem cGs_ok (G : Good C X F k) {sl : List Nat} : ∀ (n : Nat) (es : List Expr), es.all noStar = true → (∀ i ∈ (cGs C n es).slots, i ∈ sl) → PGs X es (rdGs sl (gvs (cGs C n es)))
  | 0, es, _, _ => by
    simp only [cGs, gvs, gv]
    exact ⟨fun _ _ _ _ _ _ _ _ _ h => by
      obtain ⟨_, _, _, ds, _, _, _, _, _, e, _⟩ := h
      unfold gvCons at e
      split at e <;> cases e⟩
  | n + 1, es, hs, h => by
    unfold cGs at h ⊢
    cases es with
    | nil => simp only [gvs]; exact pgvs_nil
    | cons e es =>
      simp only [List.all_cons, Bool.and_eq_true] at hs
      simp only [gvs]
      exact pgvs_cons (cG_ok G n e fun i hi => h i (by simp only [Gs.slots]; exact List.mem_append_left _ hi)) (cGs_ok G n es hs.2 fun i hi => h i (by simp only [Gs.slots]; exact List.mem_append_right _ hi)) (asg_cons hs.1)
end
theorem cBs_and {f : Expr → E} (hf : ∀ e, PE X e (rdE (ev F (f e)))) : ∀ vs : List Expr, PE X (.BoolOp .And vs pos) (rdE (ev F (cBs f .and vs)))
  | [] => by simp only [cBs, ev]; exact pev_bad
  | [a] => by simp only [cBs]; exact pev_one (hf a)
  | a :: b :: r => by
    have ih := cBs_and hf (b :: r)
    simp only [cBs, ev]
    exact pev_and (hf a) ih
theorem cBs_or {f : Expr → E} (hf : ∀ e, PE X e (rdE (ev F (f e)))) : ∀ vs : List Expr, PE X (.BoolOp .Or vs pos) (rdE (ev F (cBs f .or vs)))
  | [] => by simp only [cBs, ev]; exact pev_bad
  | [a] => by simp only [cBs]; exact pev_one (hf a)
  | a :: b :: r => by
    have ih := cBs_or hf (b :: r)
    simp only [cBs, ev]
    exact pev_or (hf a) ih
theorem pwv_bad : PW X e (rdT evBad) := ⟨fun _ _ _ _ _ _ _ h => by obtain ⟨_, _, _, _, _, _, _, e, _⟩ := h; cases e⟩
theorem cBs_andT {f : Expr → E} (hf : ∀ e, PT X e (rdT (ev F (f e)))) : ∀ vs : List Expr, PW X (.BoolOp .And vs pos) (rdT (ev F (cBs f .and vs)))
  | [] => by simp only [cBs, ev]; exact pwv_bad
  | [a] => by simp only [cBs]; exact pwv_and1 (hf a)
  | a :: b :: r => by
    have ih := cBs_andT hf (b :: r)
    simp only [cBs, ev]
    exact pwv_and (hf a) ih
theorem cBs_orT {f : Expr → E} (hf : ∀ e, PT X e (rdT (ev F (f e)))) : ∀ vs : List Expr, PW X (.BoolOp .Or vs pos) (rdT (ev F (cBs f .or vs)))
  | [] => by simp only [cBs, ev]; exact pwv_bad
  | [a] => by simp only [cBs]; exact pwv_or1 (hf a)
  | a :: b :: r => by
    have ih := cBs_orT hf (b :: r)
    simp only [cBs, ev]
    exact pwv_or (hf a) ih
theorem Good.blk (G : Good C X F k) {scope : Scope} (hk : scope.kind = .function) (s : Shared) (H : Hp) (Ca : Addr) (cl : List (Str × Addr)) (fp : List Addr) : Good (C.blk scope) (X.blk s H scope (compEnvC scope cl Ca X.env) fp) F k where
  N := G.N
  nd := G.nd
  sc := by
    show (compEnvC scope cl Ca X.env).scope = relS scope C.sc
    rw [← G.sc]
    rfl
  kind := hk
  fn := fun _ => rfl
  calm := G.calm
  xe := rfl
  room := G.room
  nog := G.nog
  defs := G.defs
  con := G.con
  blt := G.blt
theorem cEo_ok {f : Expr → E} (hf : ∀ e, PE X e (rdE (ev F (f e)))) : ∀ o : Option Expr, PO X o (rdO (evo F (cEo f o)))
  | none => by simp only [cEo, evo]; exact pov_none
  | some e => by simp only [cEo, evo]; exact pov_some (hf e)
def prs (F : Nat → Fn) (f : Expr → E) : List (Option Expr) → List Expr → List (Ev × Ev)
  | some k :: ks, v :: vs => (ev F (f k), ev F (f v)) :: prs F f ks vs
  | _, _ => []
theorem cPs_alt {f : Expr → E} : ∀ (ks : List (Option Expr)) (vs : List Expr), evs F (cPs f ks vs) = altE (prs F f ks vs)
  | [], vs => by simp only [cPs, prs, evs, altE]
  | none :: ks, vs => by simp only [cPs, prs, evs, altE]
  | some k :: ks, [] => by simp only [cPs, prs, evs, altE]
  | some k :: ks, v :: vs => by simp only [cPs, prs, evs, altE, cPs_alt ks vs]
theorem cPs_ok {f : Expr → E} (hf : ∀ e, PE X e (rdE (ev F (f e)))) : ∀ (ks : List (Option Expr)) (vs : List Expr), ks.all (·.isSome) = true → ks.length = vs.length → PPs X pos ks vs ((prs F f ks vs).map fun p => (rdE p.1, rdE p.2))
  | [], [], _, _ => pps_nil
  | [], _ :: _, _, h => by cases h
  | _ :: _, [], _, h => by cases h
  | none :: ks, v :: vs, h, _ => by simp at h
  | some k :: ks, v :: vs, h, hl => pps_cons (hf k) (hf v) (cPs_ok hf ks vs (by simpa using h) (by simpa using hl))
/-- what a comprehension needs -/
theorem blk_ok (G : Good C X F k) {scope : Scope} {n : Nat} {tg iter : Expr} (h : (blkC C.N C.sc scope (ownOf C.N scope) && noSet iter && ((cG (C.blk scope) n tg).slots.all fun i => ((ownOf C.N scope).map (·.2)).contains i)) = true) :
    BlkOk X.N X.env.scope scope (ownOf C.N scope) ∧ scope.kind = .function ∧ noSet iter = true ∧ ∀ i ∈ (cG (C.blk scope) n tg).slots, i ∈ (ownOf C.N scope).map (·.2) := by
  simp only [Bool.and_eq_true] at h
  have hb := blkOk_by h.1.1
  refine ⟨by rw [G.N, G.sc]; exact hb, hb.kind, h.1.2, fun i hi => ?_⟩
  have := List.all_eq_true.mp h.2 i hi
  simpa using this
theorem plain_eq {n : Nat} (h : plainT e = true) : cX (n + 1) C true e = cX (n + 1) C false e := by
  unfold cX
  split <;> first | rfl | cases h | (split <;> first | rfl | simp_all)
theorem cX_ok : ∀ (n : Nat) (C : CC) (X : Cx), Good C X F k → (∀ e, PE X e (rdE (ev F (cX n C false e)))) ∧ ∀ e, PT X e (rdT (ev F (cX n C true e)))
  | 0, C, X, G => ⟨fun e => by simp only [cX, ev]; exact pev_bad, fun e => by simp only [cX, ev]; exact ptv_bad⟩
  | n + 1, C, X, G => by
    obtain ⟨ihE, ihT⟩ := cX_ok n C X G
    have pe : ∀ e, PE X e (rdE (ev F (cX (n + 1) C false e))) := fun e => by
      unfold cX
      split
      · exact cName_ok G
      · exact cConst_ok
      · split
        · rename_i o ho; simp only [ev]; exact pev_bin (bo_ok ho) (ihE _) (ihE _)
        · simp only [ev]; exact pev_bad
      · simp only [ev]; exact pev_not (ihE _)
      · simp only [ev]; exact pev_neg (ihE _)
      · exact cBs_and ihE _
      · exact cBs_or ihE _
      · simp only [ev]; exact pev_if (ihT _) (ihE _) (ihE _)
      · split
        · rename_i hs; simp only [ev]; exact pev_cmp (co_ok G _) (ihE _) (ihE _) (behind_of hs)
        · simp only [ev]; exact pev_bad
      · split
        · rename_i hs; simp only [ev]; exact pev_chain (co_ok G _) (co_ok G _) (ihE _) (ihE _) (ihE _) (last_of hs)
        · simp only [ev]; exact pev_bad
      · simp only [ev]; exact pev_tup (cEs_ok ihE _)
      · simp only [ev]; exact pev_lst (cEs_ok ihE _)
      · cases htk : C.tk <;> simp only [ev]
        · exact pev_dnewK
        · exact pev_dnewT
      · split
        · simp only [ev]; exact pev_disp G.hu1 (ihE _) (ihE _)
        · simp only [ev]
          rw [cPs_alt]
          exact pev_dispK (cPs_ok ihE _ _ rfl rfl) rfl rfl (by simp) (by simp)
      · split
        · rename_i hh
          simp only [Bool.and_eq_true] at hh
          have hl := Nat.eq_of_beq_eq_true hh.1.2
          have h15 := Nat.le_of_ble_eq_true hh.2
          simp only [ev]
          rw [cPs_alt]
          exact pev_dispK (cPs_ok ihE _ _ hh.1.1 (by simpa using hl)) hh.1.1 (by simpa using hl) (by simp) (by simpa using h15)
        · simp only [ev]; exact pev_bad
      · simp only [ev]; exact pev_rev (ihE _)
      · simp only [ev]; exact pev_slice (ihE _) (cEo_ok ihE _) (cEo_ok ihE _)
      · split
        · rename_i hs; simp only [ev]; exact pev_ix G.hu1 (ihE _) (ihE _) (plainIx_of hs)
        · simp only [ev]; exact pev_bad
      · rename_i x p0 y p1 a p2 p3
        split
        · rename_i hh
          simp only [Bool.and_eq_true] at hh
          obtain ⟨⟨⟨⟨⟨⟨h1, h2⟩, h3⟩, h4⟩, h5⟩, h6⟩, h7⟩ := hh
          have h5 := eq_of_beq h5
          have h6 := eq_of_beq h6
          subst h5 h6
          simp only [ev]
          exact pev_lenum G.calm (isGl_ok G h1).1 (G.blt _ (by simp [bltNames])) (isGl_ok G h2).1 (G.blt _ (by simp [bltNames])) (cEs_ok ihE [a]) (star1 h7)
        · exact cCall_ok G ihE
      · rename_i x p0 elt tg iter ifs scope p1 p2
        split
        · rename_i hh
          simp only [Bool.and_eq_true] at hh
          obtain ⟨⟨⟨⟨⟨h1, h2⟩, h3⟩, h4⟩, h5⟩, h6⟩ := hh
          have h3 := eq_of_beq h3
          subst h3
          obtain ⟨hg, hd⟩ := isGl_ok G h1
          obtain ⟨b1, b2, b3, b4⟩ := blk_ok (n := n) (tg := tg) (iter := iter) (scope := scope) G (by simp only [Bool.and_eq_true]; exact ⟨⟨h4, h5⟩, h6⟩)
          split
          · simp only [ev]
            exact pev_callB crv_lenS hg (G.blt _ (by simp [bltNames])) boot_len (pav_cons (pev_sc G.calm (by rw [G.N]; exact G.nd) (cI_ok G ihE) b1 (fun s H Ca cl fp => cG_ok (G.blk b2 s H Ca cl fp) n tg b4) (fun _ _ _ _ _ => ptsv_nil) (fun s H Ca cl fp => (cX_ok n _ _ (G.blk b2 s H Ca cl fp)).1 _) (folded_of b3)) pav_nil rfl) (dbg3 hd) (dbg1 hd) rfl rfl
          · simp only [ev]
            exact pev_callB crv_lenS hg (G.blt _ (by simp [bltNames])) boot_len (pav_cons (pev_sc G.calm (by rw [G.N]; exact G.nd) (cI_ok G ihE) b1 (fun s H Ca cl fp => cG_ok (G.blk b2 s H Ca cl fp) n tg b4) (fun s H Ca cl fp => ptsv_one ((cX_ok n _ _ (G.blk b2 s H Ca cl fp)).2 _)) (fun s H Ca cl fp => (cX_ok n _ _ (G.blk b2 s H Ca cl fp)).1 _) (folded_of b3)) pav_nil rfl) (dbg3 hd) (dbg1 hd) rfl rfl
          · simp only [ev]; exact pev_bad
        · simp only [ev]; exact pev_bad
      · exact cCall_ok G ihE
      · exact cMeth_ok G ihE
      · rename_i elt tg iter ifs scope p
        split
        · rename_i hh
          obtain ⟨b1, b2, b3, b4⟩ := blk_ok G hh
          split
          · simp only [ev]
            exact pev_comp G.calm (by rw [G.N]; exact G.nd) (cI_ok G ihE) b1 (fun s H Ca cl fp => cG_ok (G.blk b2 s H Ca cl fp) n tg b4) (fun _ _ _ _ _ => ptsv_nil) (fun s H Ca cl fp => (cX_ok n _ _ (G.blk b2 s H Ca cl fp)).1 _) (folded_of b3)
          · simp only [ev]
            exact pev_comp G.calm (by rw [G.N]; exact G.nd) (cI_ok G ihE) b1 (fun s H Ca cl fp => cG_ok (G.blk b2 s H Ca cl fp) n tg b4) (fun s H Ca cl fp => ptsv_one ((cX_ok n _ _ (G.blk b2 s H Ca cl fp)).2 _)) (fun s H Ca cl fp => (cX_ok n _ _ (G.blk b2 s H Ca cl fp)).1 _) (folded_of b3)
          · simp only [ev]; exact pev_bad
        · simp only [ev]; exact pev_bad
      · rename_i elt tg iter ifs tg1 iter1 ifs1 scope p
        split
        · rename_i hh
          simp only [Bool.and_eq_true] at hh
          obtain ⟨⟨⟨⟨h1, h2⟩, h3⟩, h4⟩, h5⟩ := hh
          obtain ⟨b1, b2, b3, b4⟩ := blk_ok (n := n) (tg := tg) (iter := iter) (scope := scope) G (by simp only [Bool.and_eq_true]; exact ⟨⟨h1, h2⟩, h4⟩)
          have hv : ∀ i ∈ (cG (C.blk scope) n tg1).slots, i ∈ (ownOf C.N scope).map (·.2) := fun i hi => by
            have := List.all_eq_true.mp h5 i hi
            simpa using this
          split
          · simp only [ev]
            exact pev_comp2 G.calm (by rw [G.N]; exact G.nd) (cI_ok G ihE) b1 hv (fun s H Ca cl fp => cG_ok (G.blk b2 s H Ca cl fp) n tg b4) (fun _ _ _ _ _ => ptsv_nil) (fun s H Ca cl fp => cI_ok (G.blk b2 s H Ca cl fp) (cX_ok n _ _ (G.blk b2 s H Ca cl fp)).1) (fun s H Ca cl fp => cG_ok (G.blk b2 s H Ca cl fp) n tg1 fun _ z => z) (fun _ _ _ _ _ => ptsv_nil) (fun s H Ca cl fp => (cX_ok n _ _ (G.blk b2 s H Ca cl fp)).1 _) (folded_of b3) (fun env x => folded_of h3 x)
          · simp only [ev]
            exact pev_comp2 G.calm (by rw [G.N]; exact G.nd) (cI_ok G ihE) b1 hv (fun s H Ca cl fp => cG_ok (G.blk b2 s H Ca cl fp) n tg b4) (fun _ _ _ _ _ => ptsv_nil) (fun s H Ca cl fp => cI_ok (G.blk b2 s H Ca cl fp) (cX_ok n _ _ (G.blk b2 s H Ca cl fp)).1) (fun s H Ca cl fp => cG_ok (G.blk b2 s H Ca cl fp) n tg1 fun _ z => z) (fun s H Ca cl fp => ptsv_one ((cX_ok n _ _ (G.blk b2 s H Ca cl fp)).2 _)) (fun s H Ca cl fp => (cX_ok n _ _ (G.blk b2 s H Ca cl fp)).1 _) (folded_of b3) (fun env x => folded_of h3 x)
          · simp only [ev]; exact pev_bad
        · simp only [ev]; exact pev_bad
      · simp only [ev]; exact pev_bad
    refine ⟨pe, fun e => ?_⟩
    have plain : plainT e = true → PT X e (rdT (ev F (cX (n + 1) C true e))) := fun h1 => by
      rw [plain_eq h1]
      exact ptv_val (pe e) (true_of h1)
    cases e with
    | UnaryOp op x p =>
      cases op with
      | Not => unfold cX; simp only [ev]; exact ptv_not (ihT _)
      | USub => exact plain rfl
      | UAdd => exact plain rfl
      | Invert => exact plain rfl
    | BoolOp op vs p =>
      cases op with
      | And => unfold cX; exact (cBs_andT ihT _).pt
      | Or => unfold cX; exact (cBs_orT ihT _).pt
    | IfExp c a b p => unfold cX; simp only [ev]; exact ptv_bad
    | Compare a ops cs p =>
      unfold cX
      split <;> try (rename_i h; cases h; done)
      all_goals try (simp only [ev]; exact ptv_bad)
      · rename_i h; cases h
        split
        · rename_i hs; simp only [ev]; exact ptv_cmp (co_ok G _) (ihE _) (ihE _) (behind_of hs)
        · simp only [ev]; exact ptv_bad
      · rename_i h; cases h
        split
        · rename_i hs; simp only [ev]; exact ptv_chain (co_ok G _) (co_ok G _) (ihE _) (ihE _) (ihE _) (last_of hs)
        · simp only [ev]; exact ptv_bad
    | _ => exact plain rfl
end
end Sw

/-! Eng16: the translation of statements and defs. -/
namespace Sw
open PySem PySem.Spec PyProof.Rows L2
section
variable {C : CC} {X : Cx} {F : Nat → Fn} {k : Nat} {e a b c : Expr} {es : List Expr} {pos : Pos} {x : Str}
theorem Good.blockKind (G : Good C X F k) : X.env.blockKind = .function := by
  unfold Env.blockKind
  rw [G.sc, G.kind]; rfl
theorem swp_ok (G : Good C X F k) {ts vs : List Expr} {r : Option (List Str)} {k1 k2 : Nat} {p1 p2 : Pos} (h : swp C ts vs = some r) : swappedStores [.Tuple ts k1 p1] (.Tuple vs k2 p2) X.env = pure r := by
  unfold swp at h
  unfold swappedStores
  have hk : ∀ id, X.env.kindOf id = C.sc.names.lookup id := fun id => by unfold Env.kindOf; rw [G.sc]
  have hb : (X.env.blockKind != .function) = false := by rw [G.blockKind]; rfl
  simp only [hb, Bool.or_false, hk]
  split at h
  · rename_i h1
    cases h
    exact if_pos h1
  · rename_i h1
    refine (if_neg h1).trans ?_
    split at h
    · rename_i h2
      cases h
      exact if_pos h2
    · rename_i h2
      refine (if_neg ?_).trans ?_
      · exact h2
      dsimp only at h
      split at h
      · rename_i h3
        cases h
        exact if_pos h3
      · rename_i h3
        refine (if_neg ?_).trans ?_
        · exact h3
        split at h
        · rename_i h4
          cases h
          exact if_pos h4
        · rename_i h4
          refine (if_neg h4).trans ?_
          split at h
          · cases h
          · rename_i h5
            cases h
            exact if_neg h5
theorem swB_ok (G : Good C X F k) {y : Str} {py : Pos} {elt : Expr} {gs : List Comprehension} {scope : Scope} {l : Nat} : swapsWith (.ListComp elt gs scope pos) (some (.Name y py)) l X.env = pure (swB C y py scope pos) := by
  unfold swapsWith swB isLoc
  have hk : X.env.kindOf y = C.sc.names.lookup y := by unfold Env.kindOf; rw [G.sc]
  simp only [G.blockKind, hk, Expr.pos]
  cases h : C.sc.names.lookup y with
  | none => simp
  | some kk => cases kk <;> first | rfl | (simp; done)
end
section
variable {C : CC} {X : Cx} {F : Nat → Fn} {k : Nat} {e a b c : Expr} {es : List Expr} {pos : Pos} {x : Str}
theorem sameStrs_ok : ∀ {a b : List Str}, sameStrs a b = true → a = b
  | [], [], _ => rfl
  | x :: r, y :: s, h => by
    simp only [sameStrs, Bool.and_eq_true] at h
    rw [eq_of_beq h.1, sameStrs_ok h.2]
  | [], _ :: _, h => by cases h
  | _ :: _, [], h => by cases h
theorem isLoc_ok (G : Good C X F k) (h : isLoc C x = true) : X.env.scope.names.lookup x = some .local := by
  unfold isLoc at h
  rw [G.sc]
  split at h
  · assumption
  · cases h
theorem cAsgN_ok (G : Good C X F k) {v : E} {py : Pos} (he : PE X e (rdE (ev F v))) (hs : swapsWith e (some (.Name x py)) pos.line X.env = pure false) : PS X (.Assign [.Name x py] e pos) (rdS (sv F (cAsgN C x v))) := by
  unfold cAsgN
  split
  · rename_i hl
    split
    · rename_i i hi
      simp only [sv, gv]
      exact psv_set (by rw [G.N]; exact G.nd) (by rw [G.N]; exact find_at hi) (.inl (by rw [G.sc]; exact hl)) he hs (.inr (by rw [G.sc]; exact hl))
    · simp only [sv]; exact psv_bad
  · rename_i hl hfn
    split
    · rename_i i hi
      simp only [sv, gv]
      exact psv_set (by rw [G.N]; exact G.nd) (by rw [G.N]; exact find_at hi) (.inr (by rw [G.sc]; exact hl)) he hs (.inl (by rw [G.fn]; exact hfn))
    · simp only [sv]; exact psv_bad
  · simp only [sv]; exact psv_bad
theorem cEs2 {f : Expr → E} (hf : ∀ e, PE X e (rdE (ev F (f e)))) (es : List Expr) : PA X es (rdA (evs F (cEs f es))) := cEs_ok hf es
theorem cPar_ok (G : Good C X F k) {n : Nat} {ts vs : List Expr} {k1 k2 : Nat} {p1 p2 : Pos} : PS X (.Assign [.Tuple ts k1 p1] (.Tuple vs k2 p2) pos) (rdS (sv F (cPar C n ts vs))) := by
  have ihE := (cX_ok (F := F) n C X G).1
  unfold cPar
  split
  · rename_i hw
    split
    · rename_i hs
      simp only [sv, gv, ev]
      exact psv_asg (sl := (cGs C n ts).slots) (pev_tup (cEs_ok ihE vs)) (pgv_tup G.calm (cGs_ok G n ts hs fun _ h => h) (asg_len hs).1 (asg_len hs).2) rfl (swp_ok G hw) rfl
    · simp only [sv]; exact psv_bad
  · rename_i names hw
    split
    · rename_i x px y py a b
      split
      · rename_i i j hh hi hj
        simp only [Bool.and_eq_true] at hh
        have hnm := sameStrs_ok hh.1.1
        split
        · rename_i hij
          simp only [sv, gv, gvs, ev]
          refine psv_par G.calm (by rw [G.N]; exact G.nd) (by rw [G.N]; exact find_at hi) (by rw [G.N]; exact find_at hj) (fun z => ?_) (isLoc_ok G hh.1.2) (isLoc_ok G hh.2) (cEs_ok ihE _) (by rw [swp_ok G hw, hnm])
          rw [z, Nat.beq_refl] at hij; cases hij
        · simp only [sv]; exact psv_bad
      · simp only [sv]; exact psv_bad
    · rename_i x px y py z pz a b c
      split
      · rename_i i j l hh hi hj hl
        simp only [Bool.and_eq_true] at hh
        have hnm := sameStrs_ok hh.1.1.1
        split
        · rename_i hij
          simp only [Bool.or_eq_false_iff] at hij
          simp only [sv, gv, gvs, ev]
          refine psv_par3 G.calm (by rw [G.N]; exact G.nd) (by rw [G.N]; exact find_at hi) (by rw [G.N]; exact find_at hj) (by rw [G.N]; exact find_at hl) (fun z => ?_) (fun z => ?_) (fun z => ?_) (isLoc_ok G hh.1.1.2) (isLoc_ok G hh.1.2) (isLoc_ok G hh.2) (cEs_ok ihE _) (by rw [swp_ok G hw, hnm])
          · have := hij.1.1; rw [z, Nat.beq_refl] at this; cases this
          · have := hij.1.2; rw [z, Nat.beq_refl] at this; cases this
          · have := hij.2; rw [z, Nat.beq_refl] at this; cases this
        · simp only [sv]; exact psv_bad
      · simp only [sv]; exact psv_bad
    · simp only [sv]; exact psv_bad
  · simp only [sv]; exact psv_bad
/-- «y = [..]» that stores at once -/
theorem cAsgC_ok (G : Good C X F k) {n : Nat} {y : Str} {py spos : Pos} {elt tg iter : Expr} {ifs : List Expr} {scope : Scope} (hsw : swB C y py scope pos = true) :
    PS X (.Assign [.Name y py] (.ListComp elt [⟨tg, iter, ifs, 0⟩] scope pos) spos) (rdS (sv F (cAsgN C y (cX (n + 1) C false (.ListComp elt [⟨tg, iter, ifs, 0⟩] scope pos))))) := by
  have ihE := (cX_ok (F := F) n C X G).1
  have hl : isLoc C y = true := by unfold swB at hsw; simp only [Bool.and_eq_true] at hsw; exact hsw.1.1
  have hl' : C.sc.names.lookup y = some .local := by rw [← G.sc]; exact isLoc_ok G hl
  have hs := swB_ok (pos := pos) (py := py) (y := y) (scope := scope) (elt := elt) (gs := [⟨tg, iter, ifs, 0⟩]) (l := spos.line) G
  rw [hsw] at hs
  unfold cAsgN
  rw [hl']
  dsimp only
  split
  · rename_i i hi
    simp only [sv, gv, cX]
    split
    · rename_i hh
      obtain ⟨b1, b2, b3, b4⟩ := blk_ok G hh
      split
      · simp only [ev]
        exact psv_setComp G.calm (by rw [G.N]; exact G.nd) (by rw [G.N]; exact find_at hi) (by rw [G.sc]; exact hl') hs (cI_ok G ihE) b1 (fun s H Ca cl fp => cG_ok (G.blk b2 s H Ca cl fp) n tg b4) (fun _ _ _ _ _ => ptsv_nil) (fun s H Ca cl fp => (cX_ok n _ _ (G.blk b2 s H Ca cl fp)).1 _) (folded_of b3)
      · simp only [ev]
        exact psv_setComp G.calm (by rw [G.N]; exact G.nd) (by rw [G.N]; exact find_at hi) (by rw [G.sc]; exact hl') hs (cI_ok G ihE) b1 (fun s H Ca cl fp => cG_ok (G.blk b2 s H Ca cl fp) n tg b4) (fun s H Ca cl fp => ptsv_one ((cX_ok n _ _ (G.blk b2 s H Ca cl fp)).2 _)) (fun s H Ca cl fp => (cX_ok n _ _ (G.blk b2 s H Ca cl fp)).1 _) (folded_of b3)
      · simp only [ev]
        exact PS.of psv_bad fun D σ H h => by obtain ⟨m, S, ρ, R, E, q⟩ := h; exact ⟨m, S, ρ, R, E, q⟩
    · simp only [ev]
      exact PS.of psv_bad fun D σ H h => by obtain ⟨m, S, ρ, R, E, q⟩ := h; exact ⟨m, S, ρ, R, E, q⟩
  · simp only [sv]; exact psv_bad
/-- «y = [..]» of two loops that stores at once -/
theorem cAsgC2_ok (G : Good C X F k) {n : Nat} {y : Str} {py spos : Pos} {elt tg iter tg1 iter1 : Expr} {ifs ifs1 : List Expr} {scope : Scope} (hsw : swB C y py scope pos = true) :
    PS X (.Assign [.Name y py] (.ListComp elt [⟨tg, iter, ifs, 0⟩, ⟨tg1, iter1, ifs1, 0⟩] scope pos) spos) (rdS (sv F (cAsgN C y (cX (n + 1) C false (.ListComp elt [⟨tg, iter, ifs, 0⟩, ⟨tg1, iter1, ifs1, 0⟩] scope pos))))) := by
  have ihE := (cX_ok (F := F) n C X G).1
  have hl : isLoc C y = true := by unfold swB at hsw; simp only [Bool.and_eq_true] at hsw; exact hsw.1.1
  have hl' : C.sc.names.lookup y = some .local := by rw [← G.sc]; exact isLoc_ok G hl
  have hs := swB_ok (pos := pos) (py := py) (y := y) (scope := scope) (elt := elt) (gs := [⟨tg, iter, ifs, 0⟩, ⟨tg1, iter1, ifs1, 0⟩]) (l := spos.line) G
  rw [hsw] at hs
  unfold cAsgN
  rw [hl']
  dsimp only
  split
  · rename_i i hi
    simp only [sv, gv, cX]
    split
    · rename_i hh
      simp only [Bool.and_eq_true] at hh
      obtain ⟨⟨⟨⟨h1, h2⟩, h3⟩, h4⟩, h5⟩ := hh
      obtain ⟨b1, b2, b3, b4⟩ := blk_ok (n := n) (tg := tg) (iter := iter) (scope := scope) G (by simp only [Bool.and_eq_true]; exact ⟨⟨h1, h2⟩, h4⟩)
      have hv : ∀ i ∈ (cG (C.blk scope) n tg1).slots, i ∈ (ownOf C.N scope).map (·.2) := fun i hi => by
        have := List.all_eq_true.mp h5 i hi
        simpa using this
      split
      · simp only [ev]
        exact psv_setComp2 G.calm (by rw [G.N]; exact G.nd) (by rw [G.N]; exact find_at hi) (by rw [G.sc]; exact hl') hs (cI_ok G ihE) b1 hv (fun s H Ca cl fp => cG_ok (G.blk b2 s H Ca cl fp) n tg b4) (fun _ _ _ _ _ => ptsv_nil) (fun s H Ca cl fp => cI_ok (G.blk b2 s H Ca cl fp) (cX_ok n _ _ (G.blk b2 s H Ca cl fp)).1) (fun s H Ca cl fp => cG_ok (G.blk b2 s H Ca cl fp) n tg1 fun _ z => z) (fun _ _ _ _ _ => ptsv_nil) (fun s H Ca cl fp => (cX_ok n _ _ (G.blk b2 s H Ca cl fp)).1 _) (folded_of b3) (fun env x => folded_of h3 x)
      · simp only [ev]
        exact psv_setComp2 G.calm (by rw [G.N]; exact G.nd) (by rw [G.N]; exact find_at hi) (by rw [G.sc]; exact hl') hs (cI_ok G ihE) b1 hv (fun s H Ca cl fp => cG_ok (G.blk b2 s H Ca cl fp) n tg b4) (fun _ _ _ _ _ => ptsv_nil) (fun s H Ca cl fp => cI_ok (G.blk b2 s H Ca cl fp) (cX_ok n _ _ (G.blk b2 s H Ca cl fp)).1) (fun s H Ca cl fp => cG_ok (G.blk b2 s H Ca cl fp) n tg1 fun _ z => z) (fun s H Ca cl fp => ptsv_one ((cX_ok n _ _ (G.blk b2 s H Ca cl fp)).2 _)) (fun s H Ca cl fp => (cX_ok n _ _ (G.blk b2 s H Ca cl fp)).1 _) (folded_of b3) (fun env x => folded_of h3 x)
      · simp only [ev]
        exact PS.of psv_bad fun D σ H h => by obtain ⟨m, S, ρ, R, E, q⟩ := h; exact ⟨m, S, ρ, R, E, q⟩
    · simp only [ev]
      exact PS.of psv_bad fun D σ H h => by obtain ⟨m, S, ρ, R, E, q⟩ := h; exact ⟨m, S, ρ, R, E, q⟩
  · simp only [sv]; exact psv_bad
theorem cAsg_ok (G : Good C X F k) {n : Nat} {tg v : Expr} : PS X (.Assign [tg] v pos) (rdS (sv F (cAsg C n tg v))) := by
  have ihE := (cX_ok (F := F) n C X G).1
  unfold cAsg
  split
  · rename_i x py
    split
    · rename_i hn; exact cAsgN_ok G (ihE _) (swap_of hn)
    · split
      · rename_i elt tg iter ifs scope pos' hn
        split
        · rename_i hsw
          refine cAsgN_ok G (ihE _) ?_
          rw [swB_ok G, hsw]
        · rename_i hsw
          cases n with
          | zero => simp only [sv]; exact psv_bad
          | succ n => exact cAsgC_ok G hsw
      · rename_i hn
        split
        · rename_i hsw
          refine cAsgN_ok G (ihE _) ?_
          rw [swB_ok G, hsw]
        · rename_i hsw
          cases n with
          | zero => simp only [sv]; exact psv_bad
          | succ n => exact cAsgC2_ok G hsw
      · simp only [sv]; exact psv_bad
  · rename_i ts k1 p1
    split
    · exact cPar_ok G
    · rename_i hv
      split
      · rename_i hh
        obtain ⟨hs, hn⟩ := Bool.and_eq_true_iff.mp hh
        simp only [sv, gv]
        refine psv_asg (sl := (cGs C n ts).slots) (ihE _) (pgv_tup G.calm (cGs_ok G n ts hs fun _ h => h) (asg_len hs).1 (asg_len hs).2) (show swapsWithSole [.Tuple ts k1 p1] v pos.line X.env = pure false from swap_of (t := some (.Tuple ts k1 p1)) (l := pos.line) (env := X.env) hn) (sws_of ?_) rfl
        cases v <;> first | rfl | exact absurd rfl (hv _ _ _)
      · simp only [sv]; exact psv_bad
  · simp only [sv]; exact psv_put G.hu1 (ihE _) (ihE _) (ihE _) swap_sub
  · simp only [sv]; exact psv_bad
theorem psv_retN : PS X (.Return none pos) (rdS (svRet (evC .non))) := PS.of ps_retN fun D σ H h => by
  obtain ⟨m, S, ρ, R, E, q⟩ := h
  exact q m H .non (Ext.refl R) rfl
theorem ao_ok {o : Operator} {b : Ao} (h : cAo o = some b) : OpR X (inplaceOp o) (rd2 (aoD b)) := by
  cases o <;> simp only [cAo] at h <;> cases h
  · exact opv_iadd
  · exact opv_isub
mutual
theorem cT_ok (G : Good C X F k) : ∀ (n : Nat) (st : Stmt), PS X st (rdS (sv F (cT n C st)))
  | 0, st => by simp only [cT, sv]; exact psv_bad
  | n + 1, st => by
    have ih := cX_ok (F := F) n C X G
    have po : PassesOwn (model X.prog X.w) X.A X.env X.xe := by rw [G.xe]; exact PassesOwn.never
    unfold cT
    split
    · split
      · rename_i hn; simp only [sv]; exact psv_expr (ih.1 _) (swap_of hn)
      · simp only [sv]; exact psv_bad
    · simp only [sv]; exact psv_ret (ih.1 _)
    · simp only [sv, ev]; exact psv_retN
    · exact cAsg_ok G
    · split
      · rename_i o i ho hl hi
        simp only [sv]
        exact psv_aug (by rw [G.N]; exact G.nd) (by rw [G.N]; exact find_at hi) (.inl (by rw [G.sc]; exact hl)) (ih.1 _) (ao_ok ho) (.inr (by rw [G.sc]; exact hl))
      · rename_i o i ho hl hfn hi
        simp only [sv]
        exact psv_aug (by rw [G.N]; exact G.nd) (by rw [G.N]; exact find_at hi) (.inr (by rw [G.sc]; exact hl)) (ih.1 _) (ao_ok ho) (.inl (by rw [G.fn]; exact hfn))
      · simp only [sv]; exact psv_bad
    · simp only [sv]; exact psv_if (ih.2 _) (cTs_ok G n _) (cTs_ok G n _)
    · simp only [sv]; exact psv_while po (ih.2 _) (cTs_ok G n _)
    · split
      · rename_i hs
        simp only [sv]
        exact psv_for (sl := (cG C n _).slots) po G.calm (cI_ok G ih.1) (cG_ok G n _ fun _ h => h) (cTs_ok G n _) (folded_of hs)
      · simp only [sv]; exact psv_bad
    · simp only [sv]; exact psv_pass
    · simp only [sv]; exact psv_break
    · simp only [sv]; exact psv_cont
    · simp only [sv]; exact psv_bad
theorem cTs_ok (G : Good C X F k) : ∀ (n : Nat) (ss : List Stmt), PSs X ss (rdS (svs F (cTs n C ss)))
  | 0, ss => by
    simp only [cTs, svs, sv]
    exact PSs.of pss_never fun D σ H h => by
      obtain ⟨m, S, ρ, R, E, q⟩ := h
      exact q
  | n + 1, ss => by
    unfold cTs
    cases ss with
    | nil => simp only [svs]; exact psv_nil
    | cons s r => simp only [svs]; exact psv_cons (cT_ok G n s) (cTs_ok G n r)
end
end
end Sw

/-! Eng17: the defs of a module, all at once, by depth of calls. -/
namespace Sw
open PySem PySem.Spec PyProof.Rows L2
/-- a def: its name, its text, its parameters, its names, its dicts' keys are tuples, fuel of its while loops -/
structure Df where
  x : Str
  st : Stmt
  ps : List Str
  N : List Str
  tk : Bool
  wn : Nat
def Df.cc (fs : List Str) (cs : List (Str × D)) (d : Df) : CC := ⟨d.N, defScope d.st, fun _ => true, fs, cs, d.tk, d.wn⟩
structure Bd where
  n : Nat
  ar : Nat
  b : Ts
def badFn : Fn := fun _ _ => .bad
/-- the defs that may call k deep -/
def tabF (bs : List Bd) : Nat → Nat → Fn
  | 0, _ => badFn
  | k + 1, i => match bs[i]? with
    | some b => fnSem b.n b.ar (svs (tabF bs k) b.b)
    | none => badFn
/-- what must hold of one def -/
structure DfOk (K : Frg) (mg : Str → Option Value) (fs : List Str) (cs : List (Str × D)) (fu : Nat) (d : Df) (b : Bd) : Prop where
  fn : ∃ f fd, FunD K d.x d.x (defArgs d.st) (defBody d.st) (defScope d.st) [] [] f fd ∧ mg d.x = some (.ref f)
  sc : FnScope d.N d.ps (defScope d.st)
  bd : ∀ (kV doc pm : Value) (an : Option Addr) (cdv ct : Value) (us : List Value), us.length = d.ps.length → bindArgs (PySem.W.fnOf d.x d.x (defArgs d.st) (defBody d.st) (defScope d.st) .none kV doc pm an cdv ct) ⟨us, []⟩ = pure (d.ps.zip us)
  tx : cTs fu (d.cc fs cs) (defBody d.st) = b.b
  n : d.N.length = b.n
  ar : d.ps.length = b.ar
inductive AllOk (K : Frg) (mg : Str → Option Value) (fs : List Str) (cs : List (Str × D)) (fu : Nat) : List Str → List Bd → Prop where
  | nil : AllOk K mg fs cs fu [] []
  | cons {d : Df} {b : Bd} {xs : List Str} {bs : List Bd} (h : DfOk K mg fs cs fu d b) (r : AllOk K mg fs cs fu xs bs) : AllOk K mg fs cs fu (d.x :: xs) (b :: bs)
theorem AllOk.get {K : Frg} {mg : Str → Option Value} {fs : List Str} {cs : List (Str × D)} {fu : Nat} : ∀ {xs : List Str} {bs : List Bd}, AllOk K mg fs cs fu xs bs → ∀ (i : Nat) (x : Str), xs[i]? = some x → ∃ d b, DfOk K mg fs cs fu d b ∧ d.x = x ∧ bs[i]? = some b
  | _, _, .nil, i, x, h => by simp at h
  | _, _, .cons h r, 0, x, e => ⟨_, _, h, by simpa using e, rfl⟩
  | _, _, .cons h r, i + 1, x, e => r.get i x (by simpa using e)
structure Home (mg : Str → Option Value) (cs : List (Str × D)) : Prop where
  con : ∀ x d, cs.lookup x = some d → ∃ v u, mg x = some u ∧ RelV v u ∧ ∀ m k H, RD m k H d v
  blt : ∀ x ∈ bltNames, mg x = none
section
variable {P : Program} {w : World} {K : Frg} {mg : Str → Option Value} {base : Heap} {fs : List Str} {cs : List (Str × D)} {fu : Nat} {bs : List Bd}
theorem def_bad {d : Df} {b : Bd} (h : DfOk K mg fs cs fu d b) {k : Nat} : Def P w K mg base k d.x b.ar badFn := by
  obtain ⟨f, fd, F, hm⟩ := h.fn
  refine ⟨⟨f, fd, d.ps, ⟨fun vs H Q E q => q.1.trans h.ar.symm, fun A outer s H args us vs Q E _ _ _ _ _ q => ?_⟩, hm, F.kp, F.bindsN h.bd⟩, fun _ _ _ _ e => by cases e⟩
  obtain ⟨_, _, _, _, _, _, _, _, e, _⟩ := q
  cases e
theorem defs_ok (hA : AllOk K mg fs cs fu fs bs) (hH : Home mg cs) : ∀ (k i : Nat) (x : Str), fs[i]? = some x → ∃ ar, Def P w K mg base k x ar (tabF bs k i)
  | 0, i, x, e => by
    obtain ⟨d, b, h, rfl, _⟩ := hA.get i x e
    exact ⟨b.ar, def_bad h⟩
  | k + 1, i, x, e => by
    obtain ⟨d, b, h, rfl, eb⟩ := hA.get i x e
    refine ⟨b.ar, ?_⟩
    unfold tabF
    rw [eb]
    dsimp only
    obtain ⟨f, fd, F, hm⟩ := h.fn
    refine ⟨⟨f, fd, d.ps, fnG_of F h.sc (fun vs H Q E q => q.1.trans h.ar.symm) (fun cdv A outer s H vs Q E hr hn q => ?_), hm, F.kp, F.bindsN h.bd⟩, fun ds S r S' e => fn_len e⟩
    have G : Good (d.cc fs cs) (cxOf CX0 P w K mg base d.N d.x (defScope d.st) f cdv A outer s H E).nox (tabF bs k) k :=
      { N := rfl, nd := h.sc.nd, sc := rfl, kind := h.sc.kind, fn := fun _ => rfl, calm := rfl, xe := rfl, room := hr, nog := hn, defs := fun i x e => defs_ok hA hH k i x e, con := hH.con, blt := hH.blt }
    have T := cTs_ok G fu (defBody d.st)
    rw [h.tx] at T
    exact ⟨_, PSs.nox T, rd_fn h.n q.2⟩
end
end Sw

/-! Eng18: results that are known; laws that look at nothing. -/
namespace Sw
open PySem PySem.Spec PyProof.Rows L2
def beqS (a b : Str) : Bool := decide (a = b)
mutual
def beqD : D → D → Bool
  | .non, .non => true
  | .bl a, .bl b => a == b
  | .int i, .int j => decide (i = j)
  | .str a, .str b => beqS a b
  | .tup xs, .tup ys => beqDs xs ys
  | .ref n, .ref k => Nat.beq n k
  | _, _ => false
def beqDs : List D → List D → Bool
  | [], [] => true
  | x :: xs, y :: ys => beqD x y && beqDs xs ys
  | _, _ => false
end
mutual
theorem beqD_ok : ∀ {x y : D}, beqD x y = true → x = y
  | .non, .non, _ => rfl
  | .bl a, .bl b, h => by simp only [beqD] at h; rw [eq_of_beq h]
  | .int a, .int b, h => by simp only [beqD] at h; rw [of_decide_eq_true h]
  | .str a, .str b, h => by simp only [beqD, beqS] at h; rw [of_decide_eq_true h]
  | .tup xs, .tup ys, h => by simp only [beqD] at h; rw [beqDs_ok h]
  | .ref a, .ref b, h => by simp only [beqD] at h; rw [Nat.eq_of_beq_eq_true h]
  | .non, .bl _, h | .non, .int _, h | .non, .str _, h | .non, .tup _, h | .non, .ref _, h => by simp [beqD] at h
  | .bl _, .non, h | .bl _, .int _, h | .bl _, .str _, h | .bl _, .tup _, h | .bl _, .ref _, h => by simp [beqD] at h
  | .int _, .non, h | .int _, .bl _, h | .int _, .str _, h | .int _, .tup _, h | .int _, .ref _, h => by simp [beqD] at h
  | .str _, .non, h | .str _, .bl _, h | .str _, .int _, h | .str _, .tup _, h | .str _, .ref _, h => by simp [beqD] at h
  | .tup _, .non, h | .tup _, .bl _, h | .tup _, .int _, h | .tup _, .str _, h | .tup _, .ref _, h => by simp [beqD] at h
  | .ref _, .non, h | .ref _, .bl _, h | .ref _, .int _, h | .ref _, .str _, h | .ref _, .tup _, h => by simp [beqD] at h
theorem beqDs_ok : ∀ {xs ys : List D}, beqDs xs ys = true → xs = ys
  | [], [], _ => rfl
  | x :: xs, y :: ys, h => by simp only [beqDs, Bool.and_eq_true] at h; rw [beqD_ok h.1, beqDs_ok h.2]
  | [], _ :: _, h => by simp [beqDs] at h
  | _ :: _, [], h => by simp [beqDs] at h
end
def beqO : O → O → Bool
  | .lst xs, .lst ys => beqDs xs ys
  | .frz xs, .frz ys => beqDs xs ys
  | _, _ => false
theorem beqO_ok {x y : O} (h : beqO x y = true) : x = y := by
  unfold beqO at h
  split at h
  · rw [beqDs_ok h]
  · rw [beqDs_ok h]
  · cases h
def beqOs : List O → List O → Bool
  | [], [] => true
  | x :: xs, y :: ys => beqO x y && beqOs xs ys
  | _, _ => false
theorem beqOs_ok : ∀ {xs ys : List O}, beqOs xs ys = true → xs = ys
  | [], [], _ => rfl
  | x :: xs, y :: ys, h => by simp only [beqOs, Bool.and_eq_true] at h; rw [beqO_ok h.1, beqOs_ok h.2]
  | [], _ :: _, h => by simp [beqOs] at h
  | _ :: _, [], h => by simp [beqOs] at h
def beqNs : List Nat → List Nat → Bool
  | [], [] => true
  | x :: xs, y :: ys => Nat.beq x y && beqNs xs ys
  | _, _ => false
theorem beqNs_ok : ∀ {xs ys : List Nat}, beqNs xs ys = true → xs = ys
  | [], [], _ => rfl
  | x :: xs, y :: ys, h => by simp only [beqNs, Bool.and_eq_true] at h; rw [Nat.eq_of_beq_eq_true h.1, beqNs_ok h.2]
  | [], _ :: _, h => by simp [beqNs] at h
  | _ :: _, [], h => by simp [beqNs] at h
def beqSto (S T : Sto) : Bool := beqOs S.objs T.objs && beqNs S.bs T.bs && (S.dirty == T.dirty)
theorem beqSto_ok {S T : Sto} (h : beqSto S T = true) : S = T := by
  unfold beqSto at h
  simp only [Bool.and_eq_true] at h
  cases S; cases T
  simp only at h
  rw [beqOs_ok h.1.1, beqNs_ok h.1.2, eq_of_beq h.2]
/-- a known result -/
structure Mo where
  i : Nat
  ds : List D
  S : Sto
  d : D
  T : Sto
def Mo.hit (e : Mo) (i : Nat) (ds : List D) (S : Sto) : Bool := Nat.beq e.i i && beqDs e.ds ds && beqSto e.S S
def memoF (F : Nat → Fn) : List Mo → Nat → Fn
  | [], i, ds, S => F i ds S
  | e :: r, i, ds, S => match e.hit i ds S with
    | true => .ok e.d e.T
    | false => memoF F r i ds S
def Mo.Ok (F : Nat → Fn) (e : Mo) : Prop := F e.i e.ds e.S = .ok e.d e.T
theorem memoF_eq {F : Nat → Fn} : ∀ {es : List Mo}, (∀ e ∈ es, e.Ok F) → memoF F es = F
  | [], _ => rfl
  | e :: r, h => by
    have ih := memoF_eq (F := F) (es := r) fun e he => h e (List.mem_cons_of_mem _ he)
    have h0 := h e List.mem_cons_self
    funext i ds S
    simp only [memoF]
    split
    · rename_i hh
      unfold Mo.hit at hh
      simp only [Bool.and_eq_true] at hh
      rw [← Nat.eq_of_beq_eq_true hh.1.1, ← beqDs_ok hh.1.2, ← beqSto_ok hh.2]
      exact h0.symm
    · rw [ih]
theorem tab_at {bs : List Bd} {k i : Nat} {b : Bd} (h : bs[i]? = some b) : tabF bs (k + 1) i = fnSem b.n b.ar (svs (tabF bs k) b.b) := by
  rw [tabF, h]
theorem mo_nil {F : Nat → Fn} : ∀ e ∈ ([] : List Mo), e.Ok F := fun _ h => nomatch h
theorem mo_cons {F : Nat → Fn} {e : Mo} {r : List Mo} (h : e.Ok F) (t : ∀ e ∈ r, e.Ok F) : ∀ x ∈ e :: r, x.Ok F := fun x hx => (List.mem_cons.mp hx).elim (fun z => z ▸ h) fun z => t x z
/-! ### a law that looks at nothing -/
def isRT : SR → Bool
  | .rt (.bl true) _ => true
  | _ => false
def spG : Sp := fun vs _ Q _ => vs.length = 1 ∧ ∀ H', Q (.bl true) H'
theorem law_ground {P : Program} {w : World} {K : Frg} {mg : Str → Option Value} {base : Heap} {fs : List Str} {cs : List (Str × D)} {fu k : Nat} {bs : List Bd} {d : Df} {b : Bd} {f : Addr} {fd : FuncData}
    (hA : AllOk K mg fs cs fu fs bs) (hH : Home mg cs) (h : DfOk K mg fs cs fu d b) (h1 : d.ps.length = 1) (F : FunD K d.x d.x (defArgs d.st) (defBody d.st) (defScope d.st) [] [] f fd)
    (ev : isRT (svs (tabF bs k) b.b (List.replicate d.N.length none) ⟨[], [], false⟩) = true) (hN : 1 ≤ d.N.length) : FnG P w K mg base (k + 1) f fd d.ps spG := by
  refine fnG_of F h.sc (fun vs H Q E q => q.1.trans h1.symm) (fun cdv A outer s H vs Q E hr hn q => ?_)
  have G : Good (d.cc fs cs) (cxOf CX0 P w K mg base d.N d.x (defScope d.st) f cdv A outer s H E).nox (tabF bs k) k :=
    { N := rfl, nd := h.sc.nd, sc := rfl, kind := h.sc.kind, fn := fun _ => rfl, calm := rfl, xe := rfl, room := hr, nog := hn, defs := fun i x e => defs_ok hA hH k i x e, con := hH.con, blt := hH.blt }
  have T := cTs_ok G fu (defBody d.st)
  rw [h.tx] at T
  refine ⟨_, PSs.nox T, fun _ => 0, ⟨[], [], false⟩, List.replicate d.N.length none, ⟨fun n o e => by simp at e, fun i j hi => absurd hi (by simp [Sto.len]), fun _ b hb => by simp at hb, fun b hb => by simp at hb, fun b hb => by simp at hb⟩, ⟨?_, fun i d e => ?_⟩, ?_⟩
  · simp only [List.length_replicate, L2.start, List.length_append, List.length_map, q.1]
    omega
  · rw [List.getElem?_replicate] at e
    split at e <;> cases e
  · unfold isRT at ev
    split at ev
    · rename_i S' hS
      rw [hS]
      intro m' H' v X r
      rw [show v = .bl true from r]
      exact q.2 H'
    · cases ev
theorem con_nil {mg : Str → Option Value} : ∀ x d, ([] : List (Str × D)).lookup x = some d → ∃ v u, mg x = some u ∧ RelV v u ∧ ∀ m k H, RD m k H d v := fun _ _ h => nomatch h
theorem con_cons {mg : Str → Option Value} {x : Str} {d : D} {cs : List (Str × D)} (h : ∃ v u, mg x = some u ∧ RelV v u ∧ ∀ m k H, RD m k H d v) (r : ∀ y e, cs.lookup y = some e → ∃ v u, mg y = some u ∧ RelV v u ∧ ∀ m k H, RD m k H e v) :
    ∀ y e, ((x, d) :: cs).lookup y = some e → ∃ v u, mg y = some u ∧ RelV v u ∧ ∀ m k H, RD m k H e v := fun y e hl => by
  rw [List.lookup_cons] at hl
  split at hl
  · rename_i hb
    cases hl
    rw [eq_of_beq hb]
    exact h
  · exact r y e hl
theorem con_int {mg : Str → Option Value} {x : Str} {i : Int} (h : ∃ t, mg x = some (.int i t)) : ∃ v u, mg x = some u ∧ RelV v u ∧ ∀ m k H, RD m k H (.int i) v := by
  obtain ⟨t, ht⟩ := h
  exact ⟨.int i, _, ht, ⟨t, rfl⟩, fun _ _ _ => rfl⟩
theorem con_str {mg : Str → Option Value} {x z : Str} (h : ∃ t, mg x = some (.str z t)) : ∃ v u, mg x = some u ∧ RelV v u ∧ ∀ m k H, RD m k H (.str z) v := by
  obtain ⟨t, ht⟩ := h
  exact ⟨.str z, _, ht, ⟨t, rfl⟩, fun _ _ _ => rfl⟩
end Sw

/-! Eng19: a def that is called on things without numbers runs as if the store were empty. -/
namespace Sw
open PySem PySem.Spec PyProof.Rows L2
def emp : Sto := ⟨[], [], false⟩
def liftF (f : Fn) : Fn := fun ds S => match D.blws 0 ds with
  | true => match f ds emp with
    | .ok d S' => match d.blw 0 with
      | true => .ok d S
      | false => match d with
        | .ref n => match S'.objs[n]? with
          | some o => match o.blw 0 with
            | true => .ok (.ref S.len) (S.add o)
            | false => .bad
          | none => .bad
        | _ => .bad
    | .bad => .bad
  | false => f ds S
theorem rel_emp (m : Nat → Addr) (H : Hp) : Rel m emp H := ⟨fun n o e => by simp [emp] at e, fun i j hi => absurd hi (by simp [emp, Sto.len]), fun _ b hb => by simp [emp] at hb, fun b hb => by simp [emp] at hb, fun b hb => by simp [emp] at hb⟩
theorem rdN_lift {f : Fn} {vs : List V} {H : Hp} {Q : VK} (h : rdN (liftF f) vs H Q) : rdN f vs H Q := by
  obtain ⟨m, S, ds, d, S2, R, r, e, q⟩ := h
  unfold liftF at e
  split at e
  · rename_i hb
    have r0 : RDs m emp.len H ds vs := RDs.cutk ds vs r hb
    split at e
    · rename_i d0 S0 h0
      refine ⟨m, emp, ds, d0, S0, rel_emp m H, r0, h0, fun m' H' v X' r' => ?_⟩
      have up : ∀ b o, H b = some o → H' b = some o := fun b o z => X'.oth b o z fun n hn => absurd hn (by simp [emp, Sto.len])
      split at e
      · rename_i hd
        cases e
        exact q m H' v (Ext.more R up) (RD.mono' (Nat.zero_le _) (fun n hn => absurd hn (Nat.not_lt_zero n)) (Keep.refl _) _ _ (RD.cut _ _ r' hd))
      · split at e
        · rename_i n hn0
          split at e
          · rename_i o ho
            split at e
            · rename_i hob
              cases e
              have hnl : n < S0.len := (List.getElem?_eq_some_iff.mp ho).1
              have hno : H (m' n) = none := X'.new n (Nat.zero_le _) hnl
              obtain ⟨u, hu⟩ := X'.rel.alive hnl
              have ok1 : OOk m S.len H' (m' n) o := ((X'.rel.obj n o ho).cutk hob).mono' (Nat.zero_le _) (fun j hj => absurd hj (Nat.not_lt_zero j)) (Keep.refl _) rfl
              have X1 : Ext m m S S H (fun b => if b = m' n then none else H' b) := Ext.more R fun b o' z => by
                have nb : b ≠ m' n := fun w => by rw [w, hno] at z; cases z
                show (if b = m' n then none else H' b) = some o'
                rw [if_neg nb]
                exact up b o' z
              have eH : upd (fun b => if b = m' n then none else H' b) (m' n) u = H' := by
                funext b
                by_cases nb : b = m' n
                · rw [nb, upd_same]; exact hu.symm
                · rw [upd_ne nb, if_neg nb]
              have X2 := Ext.add (p := m' n) (o := o) (ho := u) X1.rel (by rw [if_pos rfl]) (by rw [eH]; exact ok1)
              rw [eH] at X2
              have hv : v = .ref (m' n) := r'.2
              exact q _ H' v (X1.trans X2) ⟨by rw [Sto.add_len]; exact Nat.lt_succ_self _, by rw [withAt_same]; exact hv⟩
            · cases e
          · cases e
        · cases e
    · cases e
  · exact ⟨m, S, ds, d, S2, R, r, e, q⟩
theorem liftF_len {f : Fn} {ar : Nat} (h : ∀ ds S d S', f ds S = .ok d S' → ds.length = ar) : ∀ ds S d S', liftF f ds S = .ok d S' → ds.length = ar := fun ds S d S' e => by
  unfold liftF at e
  split at e
  · split at e
    · rename_i h0; exact h _ _ _ _ h0
    · cases e
  · exact h _ _ _ _ e
theorem Def.lift {P : Program} {w : World} {K : Frg} {mg : Str → Option Value} {base : Heap} {k : Nat} {x : Str} {ar : Nat} {f : Fn} (h : Def P w K mg base k x ar f) : Def P w K mg base k x ar (liftF f) := by
  obtain ⟨⟨a, fd, ps, F, hm, hk, hb⟩, hl⟩ := h
  exact ⟨⟨a, fd, ps, F.imp fun vs H Q E q => ⟨q.1, rdN_lift q.2⟩, hm, hk, hb⟩, liftF_len hl⟩
/-- the defs that may call k deep, lifted -/
def tabL (bs : List Bd) : Nat → Nat → Fn
  | 0, _ => badFn
  | k + 1, i => match bs[i]? with
    | some b => liftF (fnSem b.n b.ar (svs (tabL bs k) b.b))
    | none => badFn
section
variable {P : Program} {w : World} {K : Frg} {mg : Str → Option Value} {base : Heap} {fs : List Str} {cs : List (Str × D)} {fu : Nat} {bs : List Bd}
theorem defs_okL (hA : AllOk K mg fs cs fu fs bs) (hH : Home mg cs) : ∀ (k i : Nat) (x : Str), fs[i]? = some x → ∃ ar, Def P w K mg base k x ar (tabL bs k i)
  | 0, i, x, e => by
    obtain ⟨d, b, h, rfl, _⟩ := hA.get i x e
    exact ⟨b.ar, def_bad h⟩
  | k + 1, i, x, e => by
    obtain ⟨d, b, h, rfl, eb⟩ := hA.get i x e
    refine ⟨b.ar, ?_⟩
    unfold tabL
    rw [eb]
    refine Def.lift ?_
    obtain ⟨f, fd, F, hm⟩ := h.fn
    refine ⟨⟨f, fd, d.ps, fnG_of F h.sc (fun vs H Q E q => q.1.trans h.ar.symm) (fun cdv A outer s H vs Q E hr hn q => ?_), hm, F.kp, F.bindsN h.bd⟩, fun ds S r S' e => fn_len e⟩
    have G : Good (d.cc fs cs) (cxOf CX0 P w K mg base d.N d.x (defScope d.st) f cdv A outer s H E).nox (tabL bs k) k :=
      { N := rfl, nd := h.sc.nd, sc := rfl, kind := h.sc.kind, fn := fun _ => rfl, calm := rfl, xe := rfl, room := hr, nog := hn, defs := fun i x e => defs_okL hA hH k i x e, con := hH.con, blt := hH.blt }
    have T := cTs_ok G fu (defBody d.st)
    rw [h.tx] at T
    exact ⟨_, PSs.nox T, rd_fn h.n q.2⟩
end
end Sw

/-! Eng20: the law's call, its promise asked where no repr is under way. -/
namespace Sw
open PySem PySem.Spec PyProof.Rows L2
theorem law_callG {P : Program} {w : World} {K : Frg} {mg mb : Str → Option Value} {k : Nat} {fa a : Addr} {fd : FuncData} {x : Str} {sp : Sp} {s1 : Shared} {vs : List Value} {ns : List Int}
    (KX : K.In s1.heap) (g0 : s1.heap.Ns mainGlobals mg) (gb : s1.heap.Ns builtinsNs mb) (bb : ∀ x : Str, x ≠ "__name__" → mb x = bootBuiltins x) (nolim : s1.heap.NoLimit) (gens : s1.gens = #[])
    (ha : s1.heap.get? a = some { cls := .type "list", data := .seq vs.toArray }) (hi : IntsAre vs ns) (hl : ns.length ≤ sizeLine) (hr : Room k callerA)
    (F : ∀ base : Heap, K.In base → base.Ns mainGlobals mg → FnG P w K mg base k fa fd [x] sp) (bind : ∀ (s : Shared) (u : Value), BindsTo s fd ⟨[u], []⟩ [(x, u)])
    (hsp : ∀ H : Hp, Only H → SqL K H a (ns.map V.int) → sp [.ref a] H (fun v _ => v = .bl true) fun _ _ _ => False) :
    codeAny (model P w) callerA (.call (.ref fa) ⟨[.ref a], []⟩) (fun r s' => r = .ok (.ret (.bool true)) ∧ OldK s1.heap s'.heap ∧ s'.os = s1.os ∧ AllBare s'.gens) s1 := by
  have rv := vals_ints hi
  have core : ∀ H : Hp, Only H → SqL K H a (ns.map V.int) → HOk P w H s1.heap → (∀ b, H b ≠ none → b = a) → (H a ≠ none → K.lookup a = none) →
      codeAny (model P w) callerA (.call (.ref fa) ⟨[.ref a], []⟩) (fun r s' => r = .ok (.ret (.bool true)) ∧ OldK s1.heap s'.heap ∧ s'.os = s1.os ∧ AllBare s'.gens) s1 := fun H only sq hok onlyA offK => by
    have free : ∀ {b : Addr} {o : Obj} {es : Array DictEntry} {ep : Nat}, s1.heap.get? b = some o → o.data = .dict es ep → H b = none := fun {b o es ep} z d => by
      cases hq : H b with
      | none => rfl
      | some u =>
        have eb : b = a := onlyA b (by rw [hq]; simp)
        rw [eb, ha] at z
        cases z
        exact nomatch (show Data.seq vs.toArray _ = Data.dict es ep from d)
    have nsH : ∀ {b : Addr} {m : Str → Option Value}, s1.heap.Ns b m → (hidT s1.heap H).Ns b m := fun {b m} ⟨o, es, ep, z, d, r⟩ => ⟨o, es, ep, hidT_get z (free z d), d, r⟩
    have kH : K.In (hidT s1.heap H) := fun b o z => hidT_get (KX b o z) (by
      cases hq : H b with
      | none => rfl
      | some u =>
        have eb : b = a := onlyA b (by rw [hq]; simp)
        have no := offK (by rw [← eb, hq]; simp)
        rw [eb, no] at z
        cases z)
    have md : Mod K mg (hidT s1.heap H) := ⟨kH, nsH g0, ⟨mb, nsH gb, bb⟩, let ⟨mc, z1, z2⟩ := nolim; ⟨mc, nsH z1, z2⟩⟩
    have e0 : Env0 P w K mg (hidT s1.heap H) callerA [] s1 H := ⟨rfl, md, fun b o z => of_hidT z, Nat.le_of_eq (hidT_size _ _), trivial, fun b hb => absurd (show b ∈ ([] : List Addr) from hb) (by simp), hok, .of_eq gens⟩
    refine codeAny_mono ((F _ kH (nsH g0)).run callerA [] s1 H ⟨[.ref a], []⟩ [.ref a] [.ref a] _ _ hr rfl e0 (bind s1 (.ref a)) (.cons rfl .nil) (hsp H only sq)) fun r s' h => ?_
    cases r with
    | error e => exact (show False from h).elim
    | ok fl => cases fl with
      | next => exact (show False from h).elim
      | brk => exact (show False from h).elim
      | cont => exact (show False from h).elim
      | ret u =>
        obtain ⟨v, H', os, bare, un, hok', r', q⟩ := h
        have q : v = .bl true := q
        subst q
        obtain rfl : u = Value.bool true := r'
        refine ⟨rfl, OldK.of_keep fun b o z => ?_, os, bare⟩
        rcases only b with n | ⟨ob, xs, n⟩
        · exact un.keep b o z n (by intro y; exact absurd (show b ∈ ([] : List Addr) from y) (by simp)) (by simp)
        · obtain ⟨e1, _⟩ := hok b _ n
          obtain ⟨e2, _⟩ := hok' b _ (un.frzs b ob _ n)
          rw [z] at e1
          cases e1
          exact e2
  cases hk : K.lookup a with
  | some o =>
    have z := KX a o hk
    rw [ha] at z
    cases z
    exact core (fun _ => none) (fun _ => .inl rfl) (.inr ⟨_, vs.toArray, _, hk, rfl, rfl, rfl, by rw [List.size_toArray, hi.length]; exact hl, by simpa using rv⟩) (fun b u y => nomatch (show (none : Option HO) = some u from y)) (fun b y => absurd rfl y) fun y => absurd rfl y
  | none =>
    refine core (upd (fun _ => none) a (.frz { cls := .type "list", data := .seq vs.toArray } (.lst (ns.map V.int)))) (fun b => ?_) (.inl (.inr ⟨_, upd_same⟩)) (fun b u y => ?_) (fun b y => ?_) fun _ => hk
    · by_cases hb : b = a
      · rw [hb]; exact .inr ⟨_, _, upd_same⟩
      · exact .inl (upd_ne hb)
    · by_cases hb : b = a
      · rw [hb, upd_same] at y
        cases y
        rw [hb]
        exact ⟨ha, by rw [List.length_map]; exact hl, vs, _, rv, ha⟩
      · rw [upd_ne hb] at y
        cases y
    · by_cases hb : b = a
      · exact hb
      · exact absurd (upd_ne hb) y
theorem walk_ofG {l : PySem.W.OpenLaw} {n k : Nat} {q : Program} {loose : List Str} {XP : (Str → Option Value) → Heap → Prop} {YP : World → Heap → Prop} {d : DefRec} {x : Str}
    (hn : l.most = some n) (hn2 : n ≤ sizeLine) (hdf : d.params.defaults = []) (hr : Room k callerA)
    (F : ∀ (w : World) (mg : Str → Option Value) (fa : Addr) (h : Heap), YP w h → h.Ns mainGlobals mg → mg d.name = some (.ref fa) →
      ∃ (K : Frg) (fd : FuncData) (sp : Sp), K.In h ∧ (∀ (s : Shared) (u : Value), BindsTo s fd ⟨[u], []⟩ [(x, u)]) ∧
        (∀ (H : Hp) (a : Addr) (ns : List Int), ns.length ≤ n → Only H → SqL K H a (ns.map V.int) → sp [.ref a] H (fun v _ => v = .bl true) fun _ _ _ => False) ∧
        ∀ base : Heap, K.In base → base.Ns mainGlobals mg → FnG l.prog w K mg base k fa fd [x] sp) :
    PySem.W.WalkO q loose XP YP l.row.toRowW d [] (fun f vs => PySem.call f vs) := by
  refine Att.attach_call hn hdf fun w s0 s1 mg mb fa o pm cd doc a vs ns G Y ho hd hcd hmg hobj hints hlen hg => ?_
  obtain ⟨K, fd, sp, KX, hb, hsp, hF⟩ := F w mg fa _ Y G.T.g hmg
  exact law_callG KX G.T.g G.T.b G.T.builtins G.T.nolimit hg hobj hints (Nat.le_trans hlen hn2) hr hF hb (fun H hO hS => hsp H a ns hlen hO hS)
end Sw

/-! Eng21: laws that look at their script. -/
namespace Sw
open PySem PySem.Spec PyProof.Rows L2
def noListO (o : Obj) : Bool := match o.cls with
  | .type c => !decide (c = "list")
  | _ => true
def noLists (K : Frg) : Bool := K.all fun p => noListO p.2
theorem noLists_ok {K : Frg} (h : noLists K = true) {a : Addr} {o : Obj} (e : K.lookup a = some o) : o.cls ≠ .type "list" := fun hc => by
  have hm : (a, o) ∈ K := by
    clear h
    induction K with
    | nil => cases e
    | cons p r ih =>
      obtain ⟨b, u⟩ := p
      rw [List.lookup_cons] at e
      split at e
      · rename_i hb
        cases e
        rw [eq_of_beq hb]
        exact List.mem_cons_self
      · exact List.mem_cons_of_mem _ (ih e)
  have := List.all_eq_true.mp h _ hm
  simp [noListO, hc] at this
def obsN (fa : List He.Fa) (fn : List He.DefD) (K : Frg) : He.AlD × Bool := (He.obsD fa fn K, noLists K)
def obsNG (n : Nat) (fa : List He.Fa) (fn : List He.DefD) (g : Addr → Option Obj) : He.AlD × Bool := obsN fa fn (He.frG g (He.asD g n))
def SaysN (fa : List He.Fa) (fn : List He.DefD) (K : Frg) : Prop := He.SaysD fa fn K ∧ noLists K = true
def hookN (n : Nat) (fa : List He.Fa) (fn : List He.DefD) : PySem.W.Hook where
  α := He.AlD × Bool
  obs := fun s => obsNG n fa fn s.heap.get?
  val := fun _ => (He.valD fn, true)
  says := fun _ h => ∃ K : Frg, K.In h ∧ SaysN fa fn K
  of := fun _ _ e => ⟨_, He.frG_in, congrArg Prod.fst e, congrArg Prod.snd e⟩
  keeps := fun _ _ _ ⟨K, hK, c⟩ k => ⟨K, PySem.W.Frag.In.keeps hK k, c⟩
theorem obsNG_eq {n : Nat} {fa : List He.Fa} {fn : List He.DefD} {g : Addr → Option Obj} {s : Shared} (h : ∀ a, g a = s.heap.get? a) : obsNG n fa fn g = (hookN n fa fn).obs s := by
  have e : g = s.heap.get? := funext h
  rw [e] <;> rfl
def spN : Sp := fun vs H Q _ => ∃ (a : Addr) (ns : List Int) (o : Obj), vs = [.ref a] ∧ ns.length ≤ 63 ∧ H a = some (.frz o (.lst (ns.map V.int))) ∧ ∀ H', Q (.bl true) H'
theorem spN_of {K : Frg} {H : Hp} {a : Addr} {ns : List Int} (hn : noLists K = true) (hl : ns.length ≤ 63) (hO : Only H) (hS : SqL K H a (ns.map V.int)) : spN [.ref a] H (fun v _ => v = .bl true) fun _ _ _ => False := by
  rcases hS with (h | ⟨o, h⟩) | ⟨o, its, n, h, hc, _⟩
  · rcases hO a with z | ⟨o, xs, z⟩
    · rw [z] at h; cases h
    · rw [z] at h; cases h
  · exact ⟨a, ns, o, rfl, hl, h, fun _ => rfl⟩
  · exact absurd hc (noLists_ok hn h)
theorem rds_ints {m : Nat → Addr} {k : Nat} {H : Hp} : ∀ ns : List Int, RDs m k H (ns.map D.int) (ns.map V.int)
  | [] => rfl
  | i :: r => ⟨_, _, rfl, rfl, rds_ints r⟩
theorem law_drawn {P : Program} {w : World} {K : Frg} {mg : Str → Option Value} {base : Heap} {fs : List Str} {cs : List (Str × D)} {fu k : Nat} {bs : List Bd} {d : Df} {b : Bd} {f : Addr} {fd : FuncData}
    (hA : AllOk K mg fs cs fu fs bs) (hH : Home mg cs) (h : DfOk K mg fs cs fu d b) (h1 : d.ps.length = 1) (F : FunD K d.x d.x (defArgs d.st) (defBody d.st) (defScope d.st) [] [] f fd)
    (ev : ∀ ns : List Int, ns.length ≤ 63 → isRT (svs (tabL bs k) b.b (some (.ref 0) :: List.replicate (d.N.length - 1) none) ⟨[.frz (ns.map D.int)], [], false⟩) = true) (hN : 1 ≤ d.N.length) : FnG P w K mg base (k + 1) f fd d.ps spN := by
  refine fnG_of F h.sc (fun vs H Q E q => ?_) (fun cdv A outer s H vs Q E hr hn q => ?_)
  · obtain ⟨a, ns, o, rfl, _⟩ := q
    exact h1.symm
  have G : Good (d.cc fs cs) (cxOf CX0 P w K mg base d.N d.x (defScope d.st) f cdv A outer s H E).nox (tabL bs k) k :=
    { N := rfl, nd := h.sc.nd, sc := rfl, kind := h.sc.kind, fn := fun _ => rfl, calm := rfl, xe := rfl, room := hr, nog := hn, defs := fun i x e => defs_okL hA hH k i x e, con := hH.con, blt := hH.blt }
  have T := cTs_ok G fu (defBody d.st)
  rw [h.tx] at T
  obtain ⟨a, ns, o, rfl, hl, ha, q⟩ := q
  refine ⟨_, PSs.nox T, fun _ => a, ⟨[.frz (ns.map D.int)], [], false⟩, some (.ref 0) :: List.replicate (d.N.length - 1) none, ⟨fun n o' e => ?_, fun i j hi hj _ => ?_, fun _ b hb => by simp at hb, fun b hb => by simp at hb, fun b hb => by simp at hb⟩, ⟨?_, fun i d' e => ?_⟩, ?_⟩
  · cases n with
    | zero =>
      simp only [List.getElem?_cons_zero, Option.some.injEq] at e
      subst e
      exact ⟨_, o, ha, rds_ints ns⟩
    | succ n => simp at e
  · simp [Sto.len] at hi hj; omega
  · simp only [List.length_cons, List.length_replicate, L2.start, List.length_append, List.length_map, List.length_nil]
    omega
  · cases i with
    | zero =>
      simp only [List.getElem?_cons_zero, Option.some.injEq] at e
      subst e
      exact ⟨.ref a, rfl, by simp [Sto.len], rfl⟩
    | succ i =>
      rw [List.getElem?_cons_succ, List.getElem?_replicate] at e
      split at e <;> cases e
  · have ev := ev ns hl
    unfold isRT at ev
    split at ev
    · rename_i S' hS
      rw [hS]
      intro m' H' v X r
      rw [show v = .bl true from r]
      exact q H'
    · cases ev
end Sw

/-! W1: what a run of the evaluator comes to (To), rule by rule. -/
namespace Sw
open PySem
/-- a plain equation (not by unfolding, for the kernel's sake) -/
theorem nr {α : Sort _} {a b : α} (h : a = b) : a = b := h
def Res.To {α : Type} (r : Res α) (Q : α → Sto → Prop) : Prop := match r with
  | .ok a S => Q a S
  | .bad => False
structure Ks where
  nx : En → Sto → Prop
  rt : D → Sto → Prop
  bk : En → Sto → Prop
  ct : En → Sto → Prop
def SR.To (r : SR) (k : Ks) : Prop := match r with
  | .nx ρ S => k.nx ρ S
  | .rt d S => k.rt d S
  | .bk ρ S => k.bk ρ S
  | .ct ρ S => k.ct ρ S
  | .bad => False
/-- a slot that is set -/
def look (ρ : En) (i : Nat) (Q : D → Prop) : Prop := match ρ[i]? with
  | some (some d) => Q d
  | _ => False
/-- a truth -/
def tb (x : D) (Q : Bool → Prop) : Prop := match x with
  | .bl b => Q b
  | _ => False
def ti (x : D) (Q : Int → Prop) : Prop := match x with
  | .int b => Q b
  | _ => False
def tr (x : D) (Q : Nat → Prop) : Prop := match x with
  | .ref b => Q b
  | _ => False
def tt (x : D) (Q : List D → Prop) : Prop := match x with
  | .tup b => Q b
  | _ => False
/-- something is there -/
def op {α : Type} (x : Option α) (Q : α → Prop) : Prop := match x with
  | some a => Q a
  | none => False
section
variable {α β : Type} {F : Nat → Fn} {ρ : En} {S : Sto} {k : Ks}
theorem to_ok {a : α} {Q : α → Sto → Prop} : (Res.ok a S).To Q = Q a S := nr rfl
theorem to_bad {Q : α → Sto → Prop} : (Res.bad).To Q = False := nr rfl
theorem st_nx : (SR.nx ρ S).To k = k.nx ρ S := nr rfl
theorem st_rt {d : D} : (SR.rt d S).To k = k.rt d S := nr rfl
theorem st_bk : (SR.bk ρ S).To k = k.bk ρ S := nr rfl
theorem st_ct : (SR.ct ρ S).To k = k.ct ρ S := nr rfl
theorem st_bad : SR.bad.To k = False := nr rfl
theorem look_z {d : D} {Q : D → Prop} : look (some d :: ρ) 0 Q = Q d := nr rfl
theorem look_s {d : Option D} {i : Nat} {Q : D → Prop} : look (d :: ρ) (i + 1) Q = look ρ i Q := nr rfl
theorem tb_bl {b : Bool} {Q : Bool → Prop} : tb (.bl b) Q = Q b := nr rfl
theorem ti_int {b : Int} {Q : Int → Prop} : ti (.int b) Q = Q b := nr rfl
theorem tr_ref {b : Nat} {Q : Nat → Prop} : tr (.ref b) Q = Q b := nr rfl
theorem tt_tup {b : List D} {Q : List D → Prop} : tt (.tup b) Q = Q b := nr rfl
theorem op_some {a : α} {Q : α → Prop} : op (some a) Q = Q a := nr rfl
theorem Res.To.mono {r : Res α} {P Q : α → Sto → Prop} (h : r.To P) (i : ∀ a S, P a S → Q a S) : r.To Q := by
  cases r with
  | ok a S => exact i a S h
  | bad => exact h
theorem Res.To.eq {r : Res α} {a : α} {T : Sto} (h : r.To fun b S => b = a ∧ S = T) : r = .ok a T := by
  cases r with
  | ok b S => obtain ⟨rfl, rfl⟩ := h; rfl
  | bad => exact h.elim
theorem to_eq {r : Res α} {a : α} {T : Sto} (h : r = .ok a T) {Q : α → Sto → Prop} : r.To Q = Q a T := by rw [h]; rfl
theorem SR.To.mono {r : SR} {k k' : Ks} (h : r.To k) (h1 : ∀ ρ S, k.nx ρ S → k'.nx ρ S) (h2 : ∀ d S, k.rt d S → k'.rt d S) (h3 : ∀ ρ S, k.bk ρ S → k'.bk ρ S) (h4 : ∀ ρ S, k.ct ρ S → k'.ct ρ S) : r.To k' := by
  cases r with
  | nx ρ S => exact h1 ρ S h
  | rt ρ S => exact h2 ρ S h
  | bk ρ S => exact h3 ρ S h
  | ct ρ S => exact h4 ρ S h
  | bad => exact h
/-! ### joints -/
variable {Q : D → Sto → Prop} {QA : List D → Sto → Prop} {fa fb fc : Ev} {ga : EvA}
theorem to_ev2 {g : D → D → Sto → Res D} : (ev2 g fa fb ρ S).To Q = (fa ρ S).To fun x S1 => (fb ρ S1).To fun y S2 => (g x y S2).To Q := by
  unfold ev2; cases fa ρ S with
  | bad => rfl
  | ok x S1 => simp only [to_ok]; cases fb ρ S1 <;> rfl
theorem to_ev1 {g : D → Sto → Res D} : (ev1 g fa ρ S).To Q = (fa ρ S).To fun x S1 => (g x S1).To Q := by
  unfold ev1; cases fa ρ S <;> rfl
theorem to_evN {g : List D → Sto → Res D} : (evN g ga ρ S).To Q = (ga ρ S).To fun x S1 => (g x S1).To Q := by
  unfold evN; cases ga ρ S <;> rfl
theorem to_evB {kk : Bool → Ev} : (evB fa kk ρ S).To Q = (fa ρ S).To fun x S1 => tb x fun b => (kk b ρ S1).To Q := by
  unfold evB
  cases h : fa ρ S with
  | bad => rfl
  | ok x S1 => cases x <;> rfl
theorem to_kAnd {b : Bool} : (kAnd fb b ρ S).To Q = (if b = true then (fb ρ S).To Q else Q (.bl false) S) := by cases b <;> rfl
theorem to_kOr {b : Bool} : (kOr fb b ρ S).To Q = (if b = true then Q (.bl true) S else (fb ρ S).To Q) := by cases b <;> rfl
theorem to_kIf {b : Bool} : (kIf fa fb b ρ S).To Q = (if b = true then (fa ρ S).To Q else (fb ρ S).To Q) := by cases b <;> rfl
theorem to_evNil : (evNil ρ S).To QA = QA [] S := nr rfl
theorem to_evCons : (evCons fa ga ρ S).To QA = (fa ρ S).To fun x S1 => (ga ρ S1).To fun xs S2 => QA (x :: xs) S2 := by
  unfold evCons; cases fa ρ S with
  | bad => rfl
  | ok x S1 => simp only [to_ok]; cases ga ρ S1 <;> rfl
def seqOf (S : Sto) : D → Option (List D)
  | .tup xs => some xs
  | .ref n => S.list? n
  | _ => none
theorem seqOf_tup {xs : List D} : seqOf S (.tup xs) = some xs := nr rfl
theorem seqOf_ref {n : Nat} : seqOf S (.ref n) = S.list? n := nr rfl
theorem to_evStar : (evStar fa ga ρ S).To QA = (fa ρ S).To fun x S1 => (ga ρ S1).To fun xs S2 => op (seqOf S1 x) fun ys => QA (ys ++ xs) S2 := by
  unfold evStar; cases fa ρ S with
  | bad => rfl
  | ok x S1 =>
    simp only [to_ok]
    cases ga ρ S1 with
    | bad => rfl
    | ok xs S2 =>
      cases x with
      | ref n => simp only [seqOf, to_ok]; cases S1.list? n <;> rfl
      | _ => rfl
theorem to_evSl {lo hi : Option Ev} : (evSl fa lo hi ρ S).To Q = (fa ρ S).To fun x S1 => (evPart lo ρ S1).To fun l S2 => (evPart hi ρ S2).To fun h S3 => (slD x l h S3).To Q := by
  unfold evSl; cases fa ρ S with
  | bad => rfl
  | ok x S1 =>
    simp only [to_ok]
    cases evPart lo ρ S1 with
    | bad => rfl
    | ok l S2 => simp only [to_ok]; cases evPart hi ρ S2 <;> rfl
variable {QO : Option Int → Sto → Prop}
theorem to_partN : (evPart none ρ S).To QO = QO none S := nr rfl
theorem to_partS : (evPart (some fa) ρ S).To QO = (fa ρ S).To fun x S1 => ti x fun i => QO (some i) S1 := by
  simp only [evPart]
  cases fa ρ S with
  | bad => rfl
  | ok x S1 => cases x <;> rfl
theorem to_evM {kk : O → Bool} {gg : Nat → List D → Sto → Res D} : (evM kk gg fa ga ρ S).To Q = (fa ρ S).To fun x S1 => tr x fun n => op S1.objs[n]? fun ob => kk ob = true ∧ (ga ρ S1).To fun xs S2 => (gg n xs S2).To Q := by
  unfold evM; cases fa ρ S with
  | bad => rfl
  | ok x S1 =>
    cases x with
    | ref n =>
      simp only [to_ok, tr]
      cases S1.objs[n]? with
      | none => rfl
      | some ob =>
        dsimp only [op]
        cases kk ob with
        | false => simp [to_bad]
        | true => cases ga ρ S1 <;> simp [to_ok, to_bad]
    | _ => rfl
theorem to_chain {g h : D → D → Sto → Res D} : (evChain g h fa fb fc ρ S).To Q = (fa ρ S).To fun x S1 => (fb ρ S1).To fun y S2 => (g x y S2).To fun z S3 => tb z fun b => (if b = true then (fc ρ S3).To fun z S4 => (h y z S4).To Q else Q (.bl false) S3) := by
  unfold evChain; cases fa ρ S with
  | bad => rfl
  | ok x S1 =>
    simp only [to_ok]
    cases fb ρ S1 with
    | bad => rfl
    | ok y S2 =>
      simp only [to_ok]
      cases g x y S2 with
      | bad => rfl
      | ok z S3 =>
        cases z with
        | bl b =>
          cases b with
          | false => rfl
          | true => simp only [to_ok, tb]; cases fc ρ S3 <;> rfl
        | _ => rfl
/-! ### the syntax -/
theorem e_lit {d : D} : (ev F (.lit d) ρ S).To Q = Q d S := nr rfl
theorem e_var {i : Nat} : (ev F (.var i) ρ S).To Q = look ρ i fun d => Q d S := by
  unfold ev evV look
  cases ρ[i]? with
  | none => rfl
  | some o => cases o <;> rfl
variable {a b c : E} {es : Es}
theorem e_bin {o : Bo} : (ev F (.bin o a b) ρ S).To Q = (ev F a ρ S).To fun x S1 => (ev F b ρ S1).To fun y S2 => (boD o x y S2).To Q := to_ev2
theorem e_cmp {o : Co} : (ev F (.cmp o a b) ρ S).To Q = (ev F a ρ S).To fun x S1 => (ev F b ρ S1).To fun y S2 => (coD o x y S2).To Q := to_ev2
theorem e_chain {o p : Co} : (ev F (.chain o p a b c) ρ S).To Q = (ev F a ρ S).To fun x S1 => (ev F b ρ S1).To fun y S2 => (coD o x y S2).To fun z S3 => tb z fun t => (if t = true then (ev F c ρ S3).To fun z S4 => (coD p y z S4).To Q else Q (.bl false) S3) := to_chain
theorem e_neg : (ev F (.neg a) ρ S).To Q = (ev F a ρ S).To fun x S1 => ti x fun i => Q (.int (-i)) S1 := by
  refine to_ev1.trans ?_; congr 1; funext x S1; cases x <;> rfl
theorem e_not : (ev F (.not a) ρ S).To Q = (ev F a ρ S).To fun x S1 => tb x fun t => Q (.bl (!t)) S1 := by
  refine to_ev1.trans ?_; congr 1; funext x S1; cases x <;> rfl
theorem e_and : (ev F (.and a b) ρ S).To Q = (ev F a ρ S).To fun x S1 => tb x fun t => if t = true then (ev F b ρ S1).To Q else Q (.bl false) S1 := by
  refine to_evB.trans ?_; simp only [to_kAnd]
theorem e_or : (ev F (.or a b) ρ S).To Q = (ev F a ρ S).To fun x S1 => tb x fun t => if t = true then Q (.bl true) S1 else (ev F b ρ S1).To Q := by
  refine to_evB.trans ?_; simp only [to_kOr]
theorem e_ite : (ev F (.ite c a b) ρ S).To Q = (ev F c ρ S).To fun x S1 => tb x fun t => if t = true then (ev F a ρ S1).To Q else (ev F b ρ S1).To Q := by
  refine to_evB.trans ?_; simp only [to_kIf]
theorem e_tup : (ev F (.tup es) ρ S).To Q = (evs F es ρ S).To fun xs S1 => fits xs.length = true ∧ Q (.tup xs) S1 := by
  refine to_evN.trans ?_; congr 1; funext x S1; unfold tupN; cases fits x.length <;> simp [to_ok, to_bad]
theorem e_lst : (ev F (.lst es) ρ S).To Q = (evs F es ρ S).To fun xs S1 => fits xs.length = true ∧ Q (.ref S1.len) (S1.add (.lst xs)) := by
  refine to_evN.trans ?_; congr 1; funext x S1; unfold lstN newL; cases fits x.length <;> simp [to_ok, to_bad]
theorem e_dnewT : (ev F (.dnew true) ρ S).To Q = Q (.ref S.len) (S.add (.dctT [])) := nr rfl
theorem e_dnewF : (ev F (.dnew false) ρ S).To Q = Q (.ref S.len) (S.add (.dct [])) := nr rfl
theorem e_ix : (ev F (.ix a b) ρ S).To Q = (ev F a ρ S).To fun x S1 => (ev F b ρ S1).To fun y S2 => (ixD x y S2).To Q := to_ev2
theorem e_sl {lo hi : Eo} : (ev F (.sl a lo hi) ρ S).To Q = (ev F a ρ S).To fun x S1 => (evPart (evo F lo) ρ S1).To fun l S2 => (evPart (evo F hi) ρ S2).To fun h S3 => (slD x l h S3).To Q := to_evSl
theorem p_none : (evPart (evo F .none) ρ S).To QO = QO none S := nr rfl
theorem p_some : (evPart (evo F (.some a)) ρ S).To QO = (ev F a ρ S).To fun x S1 => ti x fun i => QO (some i) S1 := to_partS
theorem e_call {f : Nat} : (ev F (.call f es) ρ S).To Q = (evs F es ρ S).To fun xs S1 => (F f xs S1).To Q := to_evN
theorem e_bi {o : Bi} : (ev F (.bi o es) ρ S).To Q = (evs F es ρ S).To fun xs S1 => (biN o xs S1).To Q := to_evN
theorem e_isi {ts : List Tn} : (ev F (.isi ts a) ρ S).To Q = (ev F a ρ S).To fun x S1 => (isiD ts x S1).To Q := to_ev1
theorem e_app : (ev F (.meth .append a es) ρ S).To Q = (ev F a ρ S).To fun x S1 => tr x fun n => op S1.objs[n]? fun ob => isLst ob = true ∧ (evs F es ρ S1).To fun xs S2 => (appM n xs S2).To Q := to_evM
theorem e_pop : (ev F (.meth .pop a es) ρ S).To Q = (ev F a ρ S).To fun x S1 => tr x fun n => op S1.objs[n]? fun ob => isLst ob = true ∧ (evs F es ρ S1).To fun xs S2 => (popM n xs S2).To Q := to_evM
theorem e_get : (ev F (.meth .get a es) ρ S).To Q = (ev F a ρ S).To fun x S1 => tr x fun n => op S1.objs[n]? fun ob => isDct ob = true ∧ (evs F es ρ S1).To fun xs S2 => (getM n xs S2).To Q := to_evM
theorem e_rev : (ev F (.rev a) ρ S).To Q = (ev F a ρ S).To fun x S1 => (revD x S1).To Q := to_ev1
theorem e_lenum : (ev F (.lenum es) ρ S).To Q = (evs F es ρ S).To fun xs S1 => (lenumN xs S1).To Q := to_evN
theorem a_nil : (evs F .nil ρ S).To QA = QA [] S := nr rfl
theorem a_cons : (evs F (.cons a es) ρ S).To QA = (ev F a ρ S).To fun x S1 => (evs F es ρ S1).To fun xs S2 => QA (x :: xs) S2 := to_evCons
theorem a_star : (evs F (.star a es) ρ S).To QA = (ev F a ρ S).To fun x S1 => (evs F es ρ S1).To fun xs S2 => op (seqOf S1 x) fun ys => QA (ys ++ xs) S2 := to_evStar
/-! ### targets -/
variable {QE : En → Sto → Prop} {d : D}
theorem g_name {i : Nat} : (gv (.name i) d ρ S).To QE = QE (ρ.set i (some d)) S := nr rfl
theorem g_tup {n : Nat} {gs : Gs} : (gv (.tup n gs) d ρ S).To QE = tt d fun ds => Nat.beq ds.length n = true ∧ (gvs gs ds ρ S).To QE := by
  simp only [gv]
  unfold gvTup tt
  cases d <;> try rfl
  rename_i xs
  cases h : Nat.beq xs.length n <;> simp [h, to_bad]
theorem gs_nil : (gvs .nil [] ρ S).To QE = QE ρ S := nr rfl
theorem gs_cons {g : G} {gs : Gs} {ds : List D} : (gvs (.cons g gs) (d :: ds) ρ S).To QE = (gv g d ρ S).To fun ρ1 S1 => (gvs gs ds ρ1 S1).To QE := by
  simp only [gvs]
  unfold gvCons
  dsimp only
  cases gv g d ρ S <;> rfl
/-! ### statements -/
variable {t : T} {ts u v : Ts}
theorem s_nil : (svs F .nil ρ S).To k = k.nx ρ S := nr rfl
theorem s_cons : (svs F (.cons t ts) ρ S).To k = (sv F t ρ S).To ⟨fun ρ1 S1 => (svs F ts ρ1 S1).To k, k.rt, k.bk, k.ct⟩ := by
  show (svSeq (sv F t) (svs F ts) ρ S).To k = _
  unfold svSeq; cases sv F t ρ S <;> rfl
theorem s_expr : (sv F (.expr a) ρ S).To k = (ev F a ρ S).To fun _ S1 => k.nx ρ S1 := by
  show (svExpr (ev F a) ρ S).To k = _
  unfold svExpr; cases ev F a ρ S <;> rfl
theorem s_ret : (sv F (.ret a) ρ S).To k = (ev F a ρ S).To fun d S1 => k.rt d S1 := by
  show (svRet (ev F a) ρ S).To k = _
  unfold svRet; cases ev F a ρ S <;> rfl
theorem s_asg {g : G} : (sv F (.asg a g) ρ S).To k = (ev F a ρ S).To fun d S1 => (gv g d ρ S1).To fun ρ1 S2 => k.nx ρ1 S2 := by
  show (svAsg (ev F a) (gv g) ρ S).To k = _
  unfold svAsg; cases ev F a ρ S with
  | bad => rfl
  | ok d S1 => simp only [to_ok]; cases gv g d ρ S1 <;> rfl
theorem s_aug {i : Nat} {o : Ao} : (sv F (.aug i o a) ρ S).To k = look ρ i fun x => (ev F a ρ S).To fun y S1 => (aoD o x y S1).To fun z S2 => k.nx (ρ.set i (some z)) S2 := by
  show (svAug i (aoD o) (ev F a) ρ S).To k = _
  unfold svAug look
  cases ρ[i]? with
  | none => rfl
  | some x =>
    cases x with
    | none => rfl
    | some x =>
      dsimp only
      cases ev F a ρ S with
      | bad => rfl
      | ok y S1 => simp only [to_ok]; cases aoD o x y S1 <;> rfl
theorem s_put : (sv F (.put a b c) ρ S).To k = (ev F c ρ S).To fun v S1 => (ev F a ρ S1).To fun x S2 => tr x fun n => (ev F b ρ S2).To fun q S3 => op (S3.dput n q v) fun S4 => k.nx ρ S4 := by
  show (svPut (ev F a) (ev F b) (ev F c) ρ S).To k = _
  unfold svPut
  cases ev F c ρ S with
  | bad => rfl
  | ok v S1 =>
    simp only [to_ok]
    cases ev F a ρ S1 with
    | bad => rfl
    | ok x S2 =>
      cases x with
      | ref n =>
        simp only [to_ok, tr]
        cases ev F b ρ S2 with
        | bad => rfl
        | ok q S3 => simp only [to_ok]; cases S3.dput n q v <;> rfl
      | _ => rfl
theorem s_ite : (sv F (.ite a u v) ρ S).To k = (ev F a ρ S).To fun x S1 => tb x fun t => if t = true then (svs F u ρ S1).To k else (svs F v ρ S1).To k := by
  show (svIf (ev F a) (svs F u) (svs F v) ρ S).To k = _
  unfold svIf
  cases ev F a ρ S with
  | bad => rfl
  | ok x S1 =>
    cases x with
    | bl t => cases t <;> simp [to_ok, tb]
    | _ => rfl
theorem s_pass : (sv F .pass ρ S).To k = k.nx ρ S := nr rfl
theorem s_brk : (sv F .brk ρ S).To k = k.bk ρ S := nr rfl
theorem s_cont : (sv F .cont ρ S).To k = k.ct ρ S := nr rfl
/-! ### what is walked -/
variable {QI : Src → Sto → Prop} {it : I}
def srcOf (S : Sto) : D → Option Src
  | .tup ds => some (.items ds)
  | .ref n => match S.list? n with
    | some _ => some (.live n)
    | none => none
  | _ => none
theorem i_e : (evi F (.e a) ρ S).To QI = (ev F a ρ S).To fun x S1 => op (srcOf S1 x) fun s => QI s S1 := by
  show (ivE (ev F a) ρ S).To QI = _
  unfold ivE; cases ev F a ρ S with
  | bad => rfl
  | ok x S1 =>
    cases x with
    | ref n => simp only [to_ok, srcOf]; cases S1.list? n <;> rfl
    | _ => rfl
theorem src_tup {ds : List D} : srcOf S (.tup ds) = some (.items ds) := nr rfl
theorem src_ref {n : Nat} {xs : List D} (h : S.list? n = some xs) : srcOf S (.ref n) = some (.live n) := by simp only [srcOf, h]
theorem i_r1 : (evi F (.range1 (.cons a .nil)) ρ S).To QI = (ev F a ρ S).To fun x S1 => ti x fun j => okR j = true ∧ QI (.range 0 j.toNat) S1 := by
  show (ivR1 (evs F (.cons a .nil)) ρ S).To QI = _
  unfold ivR1
  simp only [evs, evCons, evNil]
  cases ev F a ρ S with
  | bad => rfl
  | ok x S1 =>
    cases x with
    | int j => simp only [to_ok, ti]; cases okR j <;> simp [to_ok, to_bad]
    | _ => rfl
theorem i_r2 : (evi F (.range2 (.cons a (.cons b .nil))) ρ S).To QI = (ev F a ρ S).To fun x S1 => (ev F b ρ S1).To fun y S2 => ti x fun i => ti y fun j => (okR i && okR j) = true ∧ QI (.range i (j - i).toNat) S2 := by
  show (ivR2 (evs F (.cons a (.cons b .nil))) ρ S).To QI = _
  unfold ivR2
  simp only [evs, evCons, evNil]
  cases ev F a ρ S with
  | bad => rfl
  | ok x S1 =>
    simp only [to_ok]
    cases ev F b ρ S1 with
    | bad => rfl
    | ok y S2 =>
      cases x with
      | int i =>
        cases y with
        | int j => simp only [to_ok, ti]; cases okR i && okR j <;> simp [to_ok, to_bad]
        | _ => rfl
      | _ => cases y <;> rfl
def enumOf (S : Sto) : D → Option Src
  | .tup ds => some (.enumI ds)
  | .ref n => match S.list? n with
    | some _ => some (.enumL n)
    | none => none
  | _ => none
theorem i_enum : (evi F (.enum (.cons a .nil)) ρ S).To QI = (ev F a ρ S).To fun x S1 => op (enumOf S1 x) fun s => QI s S1 := by
  show (ivEnum (evs F (.cons a .nil)) ρ S).To QI = _
  unfold ivEnum
  simp only [evs, evCons, evNil]
  cases ev F a ρ S with
  | bad => rfl
  | ok x S1 =>
    cases x with
    | ref n => simp only [to_ok, enumOf]; cases S1.list? n <;> rfl
    | _ => rfl
theorem enum_tup {ds : List D} : enumOf S (.tup ds) = some (.enumI ds) := nr rfl
theorem enum_ref {n : Nat} {xs : List D} (h : S.list? n = some xs) : enumOf S (.ref n) = some (.enumL n) := by simp only [enumOf, h]
def zipOf (S : Sto) : D → D → Option Src
  | .tup xs, .tup ys => some (.zipI xs ys)
  | .ref n, .ref k => match S.list? n, S.list? k with
    | some _, some _ => some (.zipL n k)
    | _, _ => none
  | _, _ => none
theorem i_zip : (evi F (.zip (.cons a (.cons b .nil))) ρ S).To QI = (ev F a ρ S).To fun x S1 => (ev F b ρ S1).To fun y S2 => op (zipOf S2 x y) fun s => QI s S2 := by
  show (ivZip (evs F (.cons a (.cons b .nil))) ρ S).To QI = _
  unfold ivZip
  simp only [evs, evCons, evNil]
  cases ev F a ρ S with
  | bad => rfl
  | ok x S1 =>
    simp only [to_ok]
    cases ev F b ρ S1 with
    | bad => rfl
    | ok y S2 =>
      cases x with
      | ref n =>
        cases y with
        | ref k => simp only [to_ok, zipOf]; cases S2.list? n <;> cases S2.list? k <;> rfl
        | _ => rfl
      | tup xs => cases y <;> rfl
      | _ => cases y <;> rfl
theorem zip_tup {xs ys : List D} : zipOf S (.tup xs) (.tup ys) = some (.zipI xs ys) := nr rfl
theorem s_fo {g : G} : (sv F (.fo it g u) ρ S).To k = (evi F it ρ S).To fun s S1 => (svFor s (gv g) (svs F u) (s.turns S1 + 1) 0 ρ S1).To k := by
  show (svForI (evi F it) (gv g) (svs F u) ρ S).To k = _
  unfold svForI; cases evi F it ρ S <;> rfl
/-! ### a loop, by what holds of what is done -/
/-- the items that a source gives -/
def Src.Gives (s : Src) (S : Sto) (l : List D) : Prop := s.turns S = l.length ∧ ∀ i, i ≤ l.length → s.next S i = some l[i]?
theorem gives_items {ds : List D} : (Src.items ds).Gives S ds := ⟨rfl, fun _ _ => rfl⟩
theorem gives_live {n : Nat} {xs : List D} (h : S.list? n = some xs) : (Src.live n).Gives S xs := ⟨by simp only [Src.turns, h], fun i _ => by simp only [Src.next, h]⟩
theorem gives_range {lo : Int} {n : Nat} : (Src.range lo n).Gives S ((List.range n).map fun i => .int (lo + (i : Nat))) := ⟨by simp [Src.turns], fun i hi => by
  simp only [Src.next]
  by_cases h : i < n
  · rw [show Nat.blt i n = true from Nat.ble_eq_true_of_le h]; simp [h]
  · rw [show Nat.blt i n = false by rw [← Bool.not_eq_true]; intro z; exact h (Nat.le_of_ble_eq_true z)]; simp [h]⟩
theorem gives_enumI {ds : List D} : (Src.enumI ds).Gives S (ds.zipIdx.map fun p => .tup [.int (p.2 : Nat), p.1]) := ⟨by simp [Src.turns], fun i hi => by
  simp only [Src.next]
  by_cases h : i < ds.length
  · simp [List.getElem?_eq_getElem h]
  · have : i = ds.length := by simp at hi; omega
    subst this
    simp⟩
theorem gives_enumL {n : Nat} {xs : List D} (h : S.list? n = some xs) : (Src.enumL n).Gives S (xs.zipIdx.map fun p => .tup [.int (p.2 : Nat), p.1]) := ⟨by simp [Src.turns, h], fun i hi => by
  simp only [Src.next, h]
  by_cases h : i < xs.length
  · simp [List.getElem?_eq_getElem h]
  · simp [h]⟩
theorem gives_zipI {xs ys : List D} (hl : xs.length ≤ ys.length + 1) : ∀ i, (Src.zipI xs ys).next S i = some ((xs.zip ys)[i]?.map fun p => .tup [p.1, p.2]) := fun i => by
  simp only [Src.next, List.getElem?_zip_eq_some]
  cases h1 : xs[i]? with
  | none => simp [List.zip, List.getElem?_zipWith, h1]
  | some x => cases h2 : ys[i]? <;> simp [List.zip, List.getElem?_zipWith, h1, h2]
/-- the general rule -/
theorem for_go {s : Src} {g : Gv} {f : Sv} {l : List D} (I : List D → En → Sto → Prop) (hn : ∀ done rest ρ S, l = done ++ rest → I done ρ S → s.next S done.length = some rest.head?)
    (step : ∀ done d rest ρ S, l = done ++ d :: rest → I done ρ S → (g d ρ S).To fun ρ1 S1 => (f ρ1 S1).To ⟨I (done ++ [d]), k.rt, k.nx, I (done ++ [d])⟩)
    (fin : ∀ ρ S, I l ρ S → k.nx ρ S) : ∀ (rest done : List D) (m : Nat) (ρ : En) (S : Sto), l = done ++ rest → rest.length < m → I done ρ S → (svFor s g f m done.length ρ S).To k
  | [], done, 0, ρ, S, e, hm, h => absurd hm (by simp)
  | d :: rest, done, 0, ρ, S, e, hm, h => absurd hm (by simp)
  | [], done, m + 1, ρ, S, e, hm, h => by
    rw [svFor, hn done [] ρ S e h]
    rw [List.append_nil] at e
    subst e
    exact fin ρ S h
  | d :: rest, done, m + 1, ρ, S, e, hm, h => by
    rw [svFor, hn done (d :: rest) ρ S e h]
    have h1 := step done d rest ρ S e h
    dsimp only [List.head?_cons]
    cases h2 : g d ρ S with
    | bad => rw [h2] at h1; exact h1.elim
    | ok ρ1 S1 =>
      rw [h2, to_ok] at h1
      dsimp only
      have go : ∀ ρ2 S2, I (done ++ [d]) ρ2 S2 → (svFor s g f m (done.length + 1) ρ2 S2).To k := fun ρ2 S2 h3 => by
        have := for_go I hn step fin rest (done ++ [d]) m ρ2 S2 (by simp [e]) (by simp at hm; omega) h3
        simpa using this
      cases h3 : f ρ1 S1 with
      | bad => rw [h3] at h1; exact h1.elim
      | nx ρ2 S2 => rw [h3] at h1; exact go ρ2 S2 h1
      | ct ρ2 S2 => rw [h3] at h1; exact go ρ2 S2 h1
      | bk ρ2 S2 => rw [h3] at h1; exact h1
      | rt d2 S2 => rw [h3] at h1; exact h1
/-- a loop over what a source gives, whatever the body does -/
theorem for_to {s : Src} {g : Gv} {f : Sv} {l : List D} (I : List D → En → Sto → Prop) (h0 : I [] ρ S) (ht : s.turns S = l.length) (hn : ∀ done rest ρ S, l = done ++ rest → I done ρ S → s.next S done.length = some rest.head?)
    (step : ∀ done d rest ρ S, l = done ++ d :: rest → I done ρ S → (g d ρ S).To fun ρ1 S1 => (f ρ1 S1).To ⟨I (done ++ [d]), k.rt, k.nx, I (done ++ [d])⟩)
    (fin : ∀ ρ S, I l ρ S → k.nx ρ S) : (svFor s g f (s.turns S + 1) 0 ρ S).To k :=
  for_go I hn step fin l [] _ ρ S rfl (by omega) h0
/-- over a tuple: the items are those of a list of things -/
theorem for_items {α : Type} {g : Gv} {f : Sv} {l : List α} {enc : α → D} (I : List α → En → Sto → Prop) (h0 : I [] ρ S)
    (step : ∀ done d rest ρ S, l = done ++ d :: rest → I done ρ S → (g (enc d) ρ S).To fun ρ1 S1 => (f ρ1 S1).To ⟨I (done ++ [d]), k.rt, k.nx, I (done ++ [d])⟩)
    (fin : ∀ ρ S, I l ρ S → k.nx ρ S) : (svFor (.items (l.map enc)) g f ((Src.items (l.map enc)).turns S + 1) 0 ρ S).To k := by
  refine for_to (l := l.map enc) (fun ds ρ S => ∃ done, ds = done.map enc ∧ done <+: l ∧ I done ρ S) ⟨[], rfl, List.nil_prefix, h0⟩ (by simp [Src.turns]) (fun done rest ρ S e ⟨dn, e1, _, _⟩ => ?_) (fun done d rest ρ S e ⟨dn, e1, e2, h⟩ => ?_) (fun ρ S ⟨dn, e1, e2, h⟩ => ?_)
  · simp only [Src.next, e, List.getElem?_append_right (Nat.le_refl _), Nat.sub_self, List.head?_eq_getElem?]
  · obtain ⟨r, e3⟩ := e2
    have e4 : r.map enc = d :: rest := by
      have : dn.map enc ++ r.map enc = dn.map enc ++ d :: rest := by rw [← List.map_append, e3, e, e1]
      exact List.append_cancel_left this
    cases r with
    | nil => cases e4
    | cons x r =>
      simp only [List.map_cons, List.cons.injEq] at e4
      rw [← e4.1]
      refine (step dn x r ρ S e3.symm h).mono fun ρ1 S1 h1 => h1.mono (fun ρ2 S2 h2 => ⟨dn ++ [x], by simp [e1], ⟨r, by simp [← e3]⟩, h2⟩) (fun _ _ z => z) (fun _ _ z => z) (fun ρ2 S2 h2 => ⟨dn ++ [x], by simp [e1], ⟨r, by simp [← e3]⟩, h2⟩)
  · have : dn.length = l.length := by have := congrArg List.length e1; simpa using this.symm
    rw [e2.eq_of_length this] at h
    exact fin ρ S h
end
end Sw

/-! W2: operations, by the form of what they work upon. -/
namespace Sw
open PySem L2
section
variable {α : Type}
theorem get_app {B l : List α} {i : Nat} : (B ++ l)[B.length + i]? = l[i]? := by rw [List.getElem?_append_right (Nat.le_add_right _ _), Nat.add_sub_cancel_left]
theorem get_app0 {B l : List α} : (B ++ l)[B.length]? = l[0]? := get_app (i := 0)
theorem set_app {B l : List α} {i : Nat} {o : α} : (B ++ l).set (B.length + i) o = B ++ l.set i o := by rw [List.set_append_right _ _ (Nat.le_add_right _ _), Nat.add_sub_cancel_left]
theorem set_app0 {B l : List α} {o : α} : (B ++ l).set B.length o = B ++ l.set 0 o := set_app (i := 0)
theorem getElem?_setN {l : List α} {i : Nat} {x y : α} (h : l[i]? = some x) : (l.set i y)[i]? = some y := by
  rw [List.getElem?_set_self (List.getElem?_eq_some_iff.mp h).1]
end
/-! ### a def, run -/
theorem fn_to {n ar : Nat} {f : Sv} {ds : List D} {S : Sto} {Q : D → Sto → Prop} (hl : Nat.beq ds.length ar = true) (h : (f (ds.map some ++ List.replicate (n - ar) none) S.enter).To ⟨fun _ S' => (ret S .non S').To Q, fun d S' => (ret S d S').To Q, fun _ _ => False, fun _ _ => False⟩) : (fnSem n ar f ds S).To Q := by
  unfold fnSem
  rw [hl]
  dsimp only
  cases e : f (ds.map some ++ List.replicate (n - ar) none) S.enter with
  | nx ρ S' => rw [e] at h; exact h
  | rt d S' => rw [e] at h; exact h
  | bk ρ S' => rw [e] at h; exact h
  | ct ρ S' => rw [e] at h; exact h
  | bad => rw [e] at h; exact h
theorem ret_flat {S S' : Sto} {d : D} {Q : D → Sto → Prop} (h1 : S'.dirty = false) (h2 : d.blw S.len = true) : (ret S d S').To Q = Q d ⟨S'.objs.take S.len, S.bs, false⟩ := by
  unfold ret; rw [h1, h2]; rfl
theorem ret_list {S S' : Sto} {n : Nat} {o : O} {Q : D → Sto → Prop} (h1 : S'.dirty = false) (h2 : S.len ≤ n) (h3 : S'.objs[n]? = some o) (h4 : o.blw S.len = true) : (ret S (.ref n) S').To Q = Q (.ref S.len) ⟨S'.objs.take S.len ++ [o], S.bs, false⟩ := by
  have hb : (D.ref n).blw S.len = false := by
    simp only [D.blw]; rw [← Bool.not_eq_true]; intro z; have := Nat.le_of_ble_eq_true z; omega
  unfold ret; rw [h1, hb]; simp only [h3, h4, to_ok]
theorem ret_keep {S S' : Sto} {n : Nat} {o : O} {Q : D → Sto → Prop} (h1 : S'.dirty = false) (h2 : S.len ≤ n) (h3 : S'.objs[n]? = some o) (h4 : o.blw S.len = false) : (ret S (.ref n) S').To Q = Q (.ref n) ⟨S'.objs, S.bs, false⟩ := by
  have hb : (D.ref n).blw S.len = false := by
    simp only [D.blw]; rw [← Bool.not_eq_true]; intro z; have := Nat.le_of_ble_eq_true z; omega
  unfold ret; rw [h1, hb]; simp only [h3, h4, to_ok]
theorem bw_ref {k n : Nat} (h : k ≤ n) : D.blw k (.ref n) = false := by
  simp only [D.blw]; rw [← Bool.not_eq_true]; intro z; have := Nat.le_of_ble_eq_true z; omega
section
variable {S : Sto} {Q : D → Sto → Prop} {i j : Int} {n m : Nat} {xs ys : List D} {d e : D} {o : O}
/-! ### objects -/
def seqO : O → Option (List D)
  | .lst xs => some xs
  | .frz xs => some xs
  | _ => none
def lstO : O → Option (List D)
  | .lst xs => some xs
  | _ => none
def getO : O → D → Option (Option D)
  | .dct kvs, x => match keyOf x with
    | some q => some (dLook keyOf kvs q)
    | none => none
  | .dctT kvs, x => match tkeyOf x with
    | some q => some (dLook tkeyOf kvs q)
    | none => none
  | _, _ => none
def ixO (o : O) (x : D) : Option D := match seqO o with
  | some xs => match x with
    | .int i => atI xs i
    | _ => none
  | none => match getO o x with
    | some (some d) => some d
    | _ => none
def dputO (o : O) (k v : D) : Option O := match o with
  | .dct kvs => match keyOf k with
    | some q => match fits (kvs.length + 1) with
      | true => some (.dct (dPut keyOf kvs q k v))
      | false => none
    | none => none
  | .dctT kvs => match tkeyOf k with
    | some q => match fits (kvs.length + 1) with
      | true => some (.dctT (dPut tkeyOf kvs q k v))
      | false => none
    | none => none
  | _ => none
def lenO : O → Option Nat
  | .lst xs => some xs.length
  | .frz xs => some xs.length
  | .dct kvs => some kvs.length
  | .dctT kvs => some kvs.length
  | .set _ => none
theorem seqO_lst : seqO (.lst xs) = some xs := nr rfl
theorem seqO_frz : seqO (.frz xs) = some xs := nr rfl
theorem lstO_lst : lstO (.lst xs) = some xs := nr rfl
theorem lenO_lst : lenO (.lst xs) = some xs.length := nr rfl
theorem lenO_frz : lenO (.frz xs) = some xs.length := nr rfl
theorem ixO_lst : ixO (.lst xs) (.int i) = atI xs i := nr rfl
theorem isLst_lst : isLst (.lst xs) = true := nr rfl
theorem list_eq : S.list? n = (S.objs[n]?).bind seqO := by
  unfold Sto.list?
  cases S.objs[n]? with
  | none => rfl
  | some o => cases o <;> rfl
theorem list_at (h : S.objs[n]? = some o) : S.list? n = seqO o := by rw [list_eq, h]; rfl
theorem op_list {P : List D → Prop} : op (S.list? n) P = op S.objs[n]? fun o => op (seqO o) P := by
  rw [list_eq]; cases S.objs[n]? <;> rfl
theorem op_dput {k v : D} {P : Sto → Prop} : op (S.dput n k v) P = op S.objs[n]? fun o => op (dputO o k v) fun o' => P (S.put n o' (v.blw 0)) := by
  unfold Sto.dput dputO
  cases S.objs[n]? with
  | none => rfl
  | some o =>
    cases o with
    | dct kvs => dsimp only [op]; cases keyOf k <;> dsimp only <;> cases fits (kvs.length + 1) <;> rfl
    | dctT kvs => dsimp only [op]; cases tkeyOf k <;> dsimp only <;> cases fits (kvs.length + 1) <;> rfl
    | _ => rfl
/-! ### numbers -/
theorem p_addI : (addD (.int i) (.int j) S).To Q = Q (.int (i + j)) S := nr rfl
theorem p_addT : (addD (.tup xs) (.tup ys) S).To Q = (fits (xs.length + ys.length) = true ∧ Q (.tup (xs ++ ys)) S) := by
  simp only [addD]; cases fits (xs.length + ys.length) <;> simp [to_ok, to_bad]
theorem p_addL : (addD (.ref n) (.ref m) S).To Q = op S.objs[n]? fun o => op S.objs[m]? fun o' => op (lstO o) fun xs => op (lstO o') fun ys => fits (xs.length + ys.length) = true ∧ Q (.ref S.len) (S.add (.lst (xs ++ ys))) := by
  simp only [addD]
  cases S.objs[n]? with
  | none => rfl
  | some o =>
    cases S.objs[m]? with
    | none => cases o <;> rfl
    | some o' =>
      cases o with
      | lst xs =>
        cases o' with
        | lst ys => simp only [op, lstO, newL]; cases fits (xs.length + ys.length) <;> simp [to_ok, to_bad]
        | _ => rfl
      | _ => cases o' <;> rfl
theorem p_sub : (subD (.int i) (.int j) S).To Q = Q (.int (i - j)) S := nr rfl
theorem p_mul : (mulD2 (.int i) (.int j) S).To Q = ((small i || small j) = true ∧ Q (.int (i * j)) S) := by
  simp only [mulD2, mulD]; cases small i || small j <;> simp [to_ok, to_bad]
theorem p_fdiv : (fdivD (.int i) (.int j) S).To Q = ((decide (0 < j) && decide (j < 1073741824)) = true ∧ Q (.int (i / j)) S) := by
  simp only [fdivD]; cases decide (0 < j) && decide (j < 1073741824) <;> simp [to_ok, to_bad]
theorem p_mod : (modD (.int i) (.int j) S).To Q = (0 < j ∧ Q (.int (i % j)) S) := by
  simp only [modD]
  by_cases h : 0 < j <;> simp [h, to_ok, to_bad]
theorem p_pow : (powD (.int i) (.int j) S).To Q = ((decide (0 ≤ j) && decide (j ≤ 1000) && Nat.blt i.natAbs 18446744073709551616) = true ∧ Q (.int (i ^ j.toNat)) S) := by
  simp only [powD]; cases decide (0 ≤ j) && decide (j ≤ 1000) && Nat.blt i.natAbs 18446744073709551616 <;> simp [to_ok, to_bad]
theorem p_iaddI : (iaddD (.int i) (.int j) S).To Q = Q (.int (i + j)) S := nr rfl
theorem p_iaddL : (iaddD (.ref n) (.ref m) S).To Q = op S.objs[n]? fun o => op S.objs[m]? fun o' => op (lstO o) fun xs => op (lstO o') fun ys => fits (xs.length + ys.length) = true ∧ Q (.ref n) (S.put n (.lst (xs ++ ys)) (D.blws 0 ys)) := by
  simp only [iaddD]
  cases S.objs[n]? with
  | none => rfl
  | some o =>
    cases S.objs[m]? with
    | none => cases o <;> rfl
    | some o' =>
      cases o with
      | lst xs =>
        cases o' with
        | lst ys => simp only [op, lstO]; cases fits (xs.length + ys.length) <;> simp [to_ok, to_bad]
        | _ => rfl
      | _ => cases o' <;> rfl
theorem p_isub : (isubD (.int i) (.int j) S).To Q = Q (.int (i - j)) S := nr rfl
theorem p_lt : (ltD (.int i) (.int j) S).To Q = Q (.bl (decide (i < j))) S := nr rfl
theorem p_gt : (gtD (.int i) (.int j) S).To Q = Q (.bl (decide (j < i))) S := nr rfl
theorem p_le : (leD (.int i) (.int j) S).To Q = Q (.bl (decide (i ≤ j))) S := nr rfl
theorem p_ge : (geD (.int i) (.int j) S).To Q = Q (.bl (decide (j ≤ i))) S := nr rfl
theorem p_eq : (eqD d e S).To Q = op (eqv? S d e) fun b => Q (.bl b) S := by unfold eqD; cases eqv? S d e <;> rfl
theorem p_ne : (neD d e S).To Q = op (eqv? S d e) fun b => Q (.bl !b) S := by unfold neD; cases eqv? S d e <;> rfl
theorem p_in : (inD d e S).To Q = op (in? S d e) fun b => Q (.bl b) S := by unfold inD; cases in? S d e <;> rfl
theorem p_notIn : (notInD d e S).To Q = op (in? S d e) fun b => Q (.bl !b) S := by unfold notInD; cases in? S d e <;> rfl
theorem q_int : eqv? S (.int i) (.int j) = some (decide (i = j)) := nr rfl
theorem p_isNN : (isD .non .non S).To Q = Q (.bl true) S := nr rfl
theorem p_isTN : (isD (.tup xs) .non S).To Q = Q (.bl false) S := nr rfl
theorem p_isIN : (isD (.int i) .non S).To Q = Q (.bl false) S := nr rfl
theorem p_isRN : (isD (.ref n) .non S).To Q = Q (.bl false) S := nr rfl
theorem p_isntNN : (isNotD .non .non S).To Q = Q (.bl false) S := nr rfl
theorem p_isntTN : (isNotD (.tup xs) .non S).To Q = Q (.bl true) S := nr rfl
theorem p_isntIN : (isNotD (.int i) .non S).To Q = Q (.bl true) S := nr rfl
theorem p_isntRN : (isNotD (.ref n) .non S).To Q = Q (.bl true) S := nr rfl
theorem p_isBB {a b : Bool} : (isD (.bl a) (.bl b) S).To Q = Q (.bl (decide (a = b))) S := nr rfl
theorem p_isntBB {a b : Bool} : (isNotD (.bl a) (.bl b) S).To Q = Q (.bl (!decide (a = b))) S := nr rfl
/-! ### subscripts -/
theorem p_ixT : (ixD (.tup xs) (.int i) S).To Q = op (atI xs i) fun d => Q d S := by
  simp only [ixD]; cases atI xs i <;> rfl
theorem p_ixR : (ixD (.ref n) d S).To Q = op S.objs[n]? fun o => op (ixO o d) fun x => Q x S := by
  simp only [ixD, ixO, list_eq, Sto.get?]
  cases S.objs[n]? with
  | none => rfl
  | some o =>
    cases o with
    | lst xs => cases d <;> try rfl
                rename_i i; simp only [op, seqO, Option.bind_some]; cases atI xs i <;> rfl
    | frz xs => cases d <;> try rfl
                rename_i i; simp only [op, seqO, Option.bind_some]; cases atI xs i <;> rfl
    | dct kvs =>
      simp only [op, seqO, getO, Option.bind_some]
      cases keyOf d with
      | none => rfl
      | some q => dsimp only; cases dLook keyOf kvs q <;> rfl
    | dctT kvs =>
      simp only [op, seqO, getO, Option.bind_some]
      cases tkeyOf d with
      | none => rfl
      | some q => dsimp only; cases dLook tkeyOf kvs q <;> rfl
    | set xs => rfl
theorem p_slT {lo hi : Option Int} : (slD (.tup xs) lo hi S).To Q = Q (.tup (cutL xs lo hi)) S := nr rfl
theorem p_slR {lo hi : Option Int} : (slD (.ref n) lo hi S).To Q = op S.objs[n]? fun o => op (seqO o) fun xs => Q (.ref S.len) (S.add (.lst (cutL xs lo hi))) := by
  simp only [slD, list_eq]
  cases S.objs[n]? with
  | none => rfl
  | some o => cases o <;> rfl
/-! ### builtins -/
theorem p_lenT : (lenN [.tup xs] S).To Q = Q (.int xs.length) S := nr rfl
theorem p_lenR : (lenN [.ref n] S).To Q = op S.objs[n]? fun o => op (lenO o) fun k => Q (.int k) S := by
  simp only [lenN]
  cases S.objs[n]? with
  | none => rfl
  | some o => cases o <;> rfl
theorem p_intI : (intN [.int i] S).To Q = Q (.int i) S := nr rfl
theorem p_intB {b : Bool} : (intN [.bl b] S).To Q = Q (.int (if b = true then 1 else 0)) S := nr rfl
theorem p_min : (minN [.int i, .int j] S).To Q = Q (.int (if j < i then j else i)) S := nr rfl
theorem p_max : (maxN [.int i, .int j] S).To Q = Q (.int (if j > i then j else i)) S := nr rfl
theorem p_bl {p : List Bool → Bool} : (blN p [.ref n] S).To Q = op S.objs[n]? fun o => op (seqO o) fun xs => op (blsOf xs) fun bs => Q (.bl (p bs)) S := by
  simp only [blN, list_eq]
  cases S.objs[n]? with
  | none => rfl
  | some o => simp only [Option.bind_some, op]; cases seqO o <;> simp only [to_bad]; rename_i xs; cases blsOf xs <;> rfl
theorem p_sum : (sumN [.ref n] S).To Q = op S.objs[n]? fun o => op (seqO o) fun xs => op (intsOf xs) fun bs => Q (.int bs.sum) S := by
  simp only [sumN, list_eq]
  cases S.objs[n]? with
  | none => rfl
  | some o => simp only [Option.bind_some, op]; cases seqO o <;> simp only [to_bad]; rename_i xs; cases intsOf xs <;> rfl
theorem p_tupleT : (tupleN [.tup xs] S).To Q = Q (.tup xs) S := nr rfl
theorem p_tupleR : (tupleN [.ref n] S).To Q = op S.objs[n]? fun o => op (seqO o) fun xs => Q (.tup xs) S := by
  simp only [tupleN, list_eq]
  cases S.objs[n]? with
  | none => rfl
  | some o => cases o <;> rfl
theorem p_listT : (listN [.tup xs] S).To Q = Q (.ref S.len) (S.add (.lst xs)) := nr rfl
theorem p_listR : (listN [.ref n] S).To Q = op S.objs[n]? fun o => op (seqO o) fun xs => Q (.ref S.len) (S.add (.lst xs)) := by
  simp only [listN, list_eq]
  cases S.objs[n]? with
  | none => rfl
  | some o => cases o <;> rfl
theorem p_app : (appM n [d] S).To Q = op S.objs[n]? fun o => op (lstO o) fun xs => fits (xs.length + 1) = true ∧ Q .non (S.put n (.lst (xs ++ [d])) (d.blw 0)) := by
  simp only [appM]
  cases S.objs[n]? with
  | none => rfl
  | some o =>
    cases o with
    | lst xs => simp only [op, lstO]; cases fits (xs.length + 1) <;> simp [to_ok, to_bad]
    | _ => rfl
theorem p_pop0 : (popM n [] S).To Q = op S.objs[n]? fun o => op (lstO o) fun xs => op xs[xs.length - 1]? fun y => Q y (S.put n (.lst xs.dropLast) true) := by
  simp only [popM]
  cases S.objs[n]? with
  | none => rfl
  | some o =>
    cases o with
    | lst xs => simp only [op, lstO]; cases xs[xs.length - 1]? <;> rfl
    | _ => rfl
theorem p_popI : (popM n [.int i] S).To Q = op S.objs[n]? fun o => op (lstO o) fun xs => (decide (-(2 ^ 63) ≤ i) && decide (i < 2 ^ 63)) = true ∧ op (seqIndex? i xs.length) fun k => op xs[k]? fun y => Q y (S.put n (.lst (xs.eraseIdx k)) true) := by
  simp only [popM]
  cases S.objs[n]? with
  | none => rfl
  | some o =>
    cases o with
    | lst xs =>
      simp only [op, lstO]
      cases decide (-(2 ^ 63) ≤ i) && decide (i < 2 ^ 63) with
      | false => simp [to_bad]
      | true =>
        simp only [true_and]
        cases seqIndex? i xs.length with
        | none => rfl
        | some k => dsimp only; cases xs[k]? <;> rfl
    | _ => rfl
theorem p_get1 : (getM n [d] S).To Q = op S.objs[n]? fun o => op (getO o d) fun r => Q (r.getD .non) S := by
  simp only [getM, Sto.get?, getO]
  cases S.objs[n]? with
  | none => rfl
  | some o =>
    cases o with
    | dct kvs =>
      simp only [op]
      cases keyOf d with
      | none => rfl
      | some q => dsimp only; cases dLook keyOf kvs q <;> rfl
    | dctT kvs =>
      simp only [op]
      cases tkeyOf d with
      | none => rfl
      | some q => dsimp only; cases dLook tkeyOf kvs q <;> rfl
    | _ => rfl
theorem p_revT : (revD (.tup xs) S).To Q = Q (.tup xs.reverse) S := nr rfl
theorem p_revR : (revD (.ref n) S).To Q = op S.objs[n]? fun o => op (seqO o) fun xs => Q (.ref S.len) (S.add (.lst xs.reverse)) := by
  simp only [revD, list_eq]
  cases S.objs[n]? with
  | none => rfl
  | some o => cases o <;> rfl
theorem p_isi {ts : List Tn} : (isiD ts d S).To Q = op (tyOf S d) fun t => Q (.bl (ts.any fun T => isSub t T)) S := by
  unfold isiD; cases tyOf S d <;> rfl
theorem isT_tup {xs : List D} : tyOf S (.tup xs) = some .tuple := nr rfl
theorem sub_TT : isSub .tuple .tuple = true := nr rfl
/-! ### in, by kinds -/
theorem in_tup : in? S d (.tup xs) = inAny S d xs := nr rfl
theorem in_ref (h : S.objs[n]? = some o) : in? S d (.ref n) = match seqO o with
    | some ys => inAny S d ys
    | none => (getO o d).map Option.isSome := by
  simp only [in?, list_eq, h, Sto.get?, Option.bind_some]
  cases o with
  | dct kvs => simp only [seqO, getO]; cases keyOf d <;> rfl
  | dctT kvs => simp only [seqO, getO]; cases tkeyOf d <;> rfl
  | _ => rfl
/-! ### displays -/
theorem e_dispk {F : Nat → Fn} {es : Es} {ρ : En} : (ev F (.dispk es) ρ S).To Q = (evs F es ρ (S.add (.dct []))).To fun ds S1 => op S1.objs[S.len]? fun o => o = .dct [] ∧ op (putAll [] ds) fun kvs => Nat.ble ds.length 30 = true ∧ Q (.ref S.len) (S1.put S.len (.dct kvs) (D.blws 0 ds)) := by
  show (evDispK (evs F es) ρ S).To Q = _
  unfold evDispK
  cases evs F es ρ (S.add (.dct [])) with
  | bad => rfl
  | ok ds S1 =>
    simp only [to_ok]
    cases S1.objs[S.len]? with
    | none => rfl
    | some o =>
      dsimp only [op]
      cases o with
      | dct kvs =>
        cases kvs with
        | nil =>
          simp only [true_and]
          cases putAll [] ds with
          | none => rfl
          | some kvs => dsimp only; cases Nat.ble ds.length 30 <;> simp [to_ok, to_bad]
        | cons a r => simp [to_bad]
      | _ => simp [to_bad]
/-! ### what is walked -/
theorem op_srcR {P : Src → Prop} : op (srcOf S (.ref n)) P = op S.objs[n]? fun o => op (seqO o) fun _ => P (.live n) := by
  simp only [srcOf, list_eq]
  cases S.objs[n]? with
  | none => rfl
  | some o => cases o <;> rfl
theorem op_enumR {P : Src → Prop} : op (enumOf S (.ref n)) P = op S.objs[n]? fun o => op (seqO o) fun _ => P (.enumL n) := by
  simp only [enumOf, list_eq]
  cases S.objs[n]? with
  | none => rfl
  | some o => cases o <;> rfl
theorem op_zipR {P : Src → Prop} : op (zipOf S (.ref n) (.ref m)) P = op S.objs[n]? fun o => op (seqO o) fun _ => op S.objs[m]? fun o' => op (seqO o') fun _ => P (.zipL n m) := by
  simp only [zipOf, list_eq]
  cases S.objs[n]? with
  | none => rfl
  | some o =>
    simp only [Option.bind_some, op]
    cases seqO o with
    | none => rfl
    | some xs =>
      cases S.objs[m]? with
      | none => rfl
      | some o' => simp only [Option.bind_some]; cases seqO o' <;> rfl
theorem turns_live : Src.turns S (.live n) = ((S.objs[n]?).bind seqO).elim 0 List.length := by
  simp only [Src.turns, list_eq]
  cases (S.objs[n]?).bind seqO <;> rfl
theorem turns_enumL : Src.turns S (.enumL n) = ((S.objs[n]?).bind seqO).elim 0 List.length := by
  simp only [Src.turns, list_eq]
  cases (S.objs[n]?).bind seqO <;> rfl
theorem turns_zipL : Src.turns S (.zipL n m) = ((S.objs[n]?).bind seqO).elim 0 List.length := by
  simp only [Src.turns, list_eq]
  cases (S.objs[n]?).bind seqO <;> rfl
theorem turns_items : Src.turns S (.items xs) = xs.length := nr rfl
theorem turns_enumI : Src.turns S (.enumI xs) = xs.length := nr rfl
theorem turns_zipI : Src.turns S (.zipI xs ys) = xs.length := nr rfl
theorem turns_range : Src.turns S (.range i n) = n := nr rfl
/-! ### stores, spelt out -/
theorem st_enter {B : List O} {bs : List Nat} {t : Bool} : Sto.enter ⟨B, bs, t⟩ = ⟨B, B.length :: bs, t⟩ := nr rfl
theorem st_add {B : List O} {bs : List Nat} {t : Bool} {o : O} : Sto.add ⟨B, bs, t⟩ o = ⟨B ++ [o], bs, t⟩ := nr rfl
theorem st_putT {B : List O} {bs : List Nat} {t : Bool} {n : Nat} {o : O} : Sto.put ⟨B, bs, t⟩ n o true = ⟨B.set n o, bs, t⟩ := nr rfl
theorem st_putF {B : List O} {bs : List Nat} {t : Bool} {n b : Nat} {o : O} (h : b ≤ n) : Sto.put ⟨B, b :: bs, t⟩ n o false = ⟨B.set n o, b :: bs, t⟩ := by
  have : Nat.blt n b = false := by rw [← Bool.not_eq_true]; intro z; have := Nat.le_of_ble_eq_true z; omega
  simp [Sto.put, Sto.esc, this]
theorem st_len {B : List O} {bs : List Nat} {t : Bool} : Sto.len ⟨B, bs, t⟩ = B.length := nr rfl
theorem bw_int {k : Nat} {i : Int} : D.blw k (.int i) = true := nr rfl
theorem bw_bl {k : Nat} {i : Bool} : D.blw k (.bl i) = true := nr rfl
theorem bw_non {k : Nat} : D.blw k .non = true := nr rfl
theorem bw_str {k : Nat} {x : Str} : D.blw k (.str x) = true := nr rfl
theorem bw_tup {k : Nat} {xs : List D} : D.blw k (.tup xs) = D.blws k xs := by simp only [D.blw]
theorem bws_nil {k : Nat} : D.blws k [] = true := nr rfl
theorem bws_cons {k : Nat} {x : D} {xs : List D} : D.blws k (x :: xs) = (D.blw k x && D.blws k xs) := by simp only [D.blws]
theorem bws_map {α : Type} {k : Nat} {f : α → D} (h : ∀ a, D.blw k (f a) = true) : ∀ l : List α, D.blws k (l.map f) = true
  | [] => rfl
  | a :: l => by simp only [List.map_cons, D.blws, h a, bws_map h l, Bool.and_self]
theorem take_set {B : List O} {n : Nat} {o : O} : (B.set n o).take B.length = B.set n o := by
  rw [List.take_of_length_le (by rw [List.length_set]; exact Nat.le_refl _)]
/-! ### places -/
section
variable {α β : Type}
theorem op_map {x : Option α} {f : α → β} {P : β → Prop} : op (x.map f) P = op x fun a => P (f a) := by cases x <;> rfl
theorem atI_map {l : List α} {f : α → β} {i : Int} : atI (l.map f) i = (atI l i).map f := by
  unfold atI
  rw [List.length_map]
  cases ixN l.length i with
  | none => rfl
  | some j => simp
theorem atI_in {l : List α} {i : Int} (h0 : 0 ≤ i) (h1 : i < l.length) : ∃ x, atI l i = some x ∧ l[i.toNat]? = some x ∧ x ∈ l := by
  have hj : i.toNat < l.length := by omega
  refine ⟨l[i.toNat], ?_, List.getElem?_eq_getElem hj, List.getElem_mem hj⟩
  unfold atI ixN
  rw [if_pos h0, if_pos h1]
  exact List.getElem?_eq_getElem hj
theorem atI_nat {l : List α} {n : Nat} : atI l (n : Int) = l[n]? := by
  unfold atI ixN
  rw [if_pos (by omega)]
  split
  · simp
  · simp only [Option.bind_none]; exact (List.getElem?_eq_none (by omega)).symm
theorem atI_0 {l : List α} {a : α} : atI (a :: l) 0 = some a := atI_nat (n := 0)
theorem atI_1 {l : List α} {a b : α} : atI (a :: b :: l) 1 = some b := atI_nat (n := 1)
theorem atI_2 {l : List α} {a b c : α} : atI (a :: b :: c :: l) 2 = some c := atI_nat (n := 2)
theorem atI_3 {l : List α} {a b c d : α} : atI (a :: b :: c :: d :: l) 3 = some d := atI_nat (n := 3)
end
end
end Sw

/-! W2e: data of a type; == and in upon it. -/
namespace Sw
open PySem L2
class Enc (α : Type) where
  enc : α → D
  pd : α → PyData
  dep : Nat
  res : ∀ r a, resW r (enc a) = some (pd a)
  depth : ∀ a, (pd a).depth ≤ dep
  eqv : ∀ a b, PyData.eqv (pd a) (pd b) = true ↔ a = b
  flat : ∀ k a, D.blw k (enc a) = true
open Enc (enc)
theorem beqd {α : Type} [DecidableEq α] [BEq α] [LawfulBEq α] (a b : α) : (a == b) = decide (a = b) := by by_cases h : a = b <;> simp [h]
instance : Enc Int where
  enc := .int
  pd := .int
  dep := 0
  res := fun r a => by simp only [resW]
  depth := fun a => Nat.le_of_eq (by simp [PyData.depth])
  eqv := fun a b => by simp only [PyData.eqv]; exact beq_iff_eq
  flat := fun _ _ => rfl
instance : Enc Str where
  enc := .str
  pd := .str
  dep := 0
  res := fun r a => by simp only [resW]
  depth := fun a => Nat.le_of_eq (by simp [PyData.depth])
  eqv := fun a b => by simp only [PyData.eqv]; exact beq_iff_eq
  flat := fun _ _ => rfl
section
variable {α β γ δ : Type} [Enc α] [Enc β] [Enc γ] [Enc δ]
theorem Enc.dec (a b : α) [Decidable (a = b)] : PyData.eqv (Enc.pd a) (Enc.pd b) = decide (a = b) := by
  by_cases h : a = b
  · rw [decide_eq_true h]; exact (Enc.eqv a b).mpr h
  · rw [decide_eq_false h, ← Bool.not_eq_true]; exact fun z => h ((Enc.eqv a b).mp z)
instance : Enc (α × β) where
  enc := fun p => .tup [enc p.1, enc p.2]
  pd := fun p => .tuple [Enc.pd p.1, Enc.pd p.2]
  dep := max (Enc.dep α) (Enc.dep β) + 1
  res := fun r p => by simp only [resW, resWs, Enc.res]
  depth := fun p => by
    have h1 := Enc.depth p.1
    have h2 := Enc.depth p.2
    simp only [PyData.depth, PyData.depthAll]
    omega
  eqv := fun p q => by
    obtain ⟨a, b⟩ := p
    obtain ⟨c, d⟩ := q
    simp only [PyData.eqv, PyData.eqvAll, Bool.and_true, Bool.and_eq_true, Enc.eqv, Prod.mk.injEq]
  flat := fun k p => by simp only [D.blw, D.blws, Enc.flat, Bool.and_self]
theorem pds_res (r : Nat → Option PyData) : ∀ l : List α, resWs r (l.map enc) = some (l.map Enc.pd)
  | [] => rfl
  | a :: l => by simp only [List.map_cons, resWs, Enc.res, pds_res r l]
theorem pds_depth : ∀ l : List α, PyData.depthAll (l.map Enc.pd) ≤ Enc.dep α
  | [] => by simp [PyData.depthAll]
  | a :: l => by
    have h1 := Enc.depth a
    have h2 := pds_depth l
    simp only [List.map_cons, PyData.depthAll]
    omega
theorem pds_eqv : ∀ l l' : List α, PyData.eqvAll (l.map Enc.pd) (l'.map Enc.pd) = true ↔ l = l'
  | [], [] => by simp [PyData.eqvAll]
  | [], _ :: _ => by simp [PyData.eqvAll]
  | _ :: _, [] => by simp [PyData.eqvAll]
  | a :: l, b :: l' => by
    simp only [List.map_cons, PyData.eqvAll, Bool.and_eq_true, Enc.eqv, pds_eqv l l', List.cons.injEq]
theorem flats (k : Nat) : ∀ l : List α, D.blws k (l.map enc) = true := bws_map (Enc.flat k)
/-- a tuple of things -/
instance : Enc (List α) where
  enc := fun l => .tup (l.map enc)
  pd := fun l => .tuple (l.map Enc.pd)
  dep := Enc.dep α + 1
  res := fun r l => by simp only [resW, pds_res]
  depth := fun l => by
    have := pds_depth l
    simp only [PyData.depth]
    omega
  eqv := fun l l' => by simp only [PyData.eqv, pds_eqv]
  flat := fun k l => by simp only [D.blw, flats]
theorem enc_int (i : Int) : enc i = .int i := rfl
theorem enc_str (i : Str) : enc i = .str i := rfl
theorem enc_pair (a : α) (b : β) : enc (a, b) = .tup [enc a, enc b] := rfl
theorem enc_prod (p : α × β) : enc p = .tup [enc p.1, enc p.2] := rfl
theorem enc_list (l : List α) : enc l = .tup (l.map enc) := rfl
theorem eqv_res {S : Sto} {x y : D} {p q : PyData} (hx : res S x = some p) (hy : res S y = some q) (hd : p.depth ≤ 60) : eqv? S x y = some (PyData.eqv p q) := by
  have hb : Nat.ble p.depth 60 = true := Nat.ble_eq_true_of_le hd
  unfold eqv?
  split
  · simp only [res, resW, Option.some.injEq] at hx hy; subst hx hy; simp only [PyData.eqv]; rw [beqd]
  · simp only [res, resW, Option.some.injEq] at hx hy; subst hx hy; rfl
  · simp only [res, resW, Option.some.injEq] at hx hy; subst hx hy; rfl
  · simp only [res, resW, Option.some.injEq] at hx hy; subst hx hy; rfl
  · simp only [res, resW, Option.some.injEq] at hx hy; subst hx hy; simp only [PyData.eqv]; rw [beqd]
  · rw [hx, hy]; simp only [hb]
theorem res_enc {S : Sto} (a : α) : res S (enc a) = some (Enc.pd a) := Enc.res _ a
theorem q_enc {S : Sto} {a b : α} [Decidable (a = b)] (hd : Enc.dep α ≤ 60) : eqv? S (enc a) (enc b) = some (decide (a = b)) := by
  rw [eqv_res (res_enc a) (res_enc b) (Nat.le_trans (Enc.depth a) hd), Enc.dec]
theorem resR_list {S : Sto} {n k : Nat} {o : O} {l : List α} (h : S.objs[n]? = some o) (ho : seqO o = some (l.map enc)) : resR S (k + 1) n = some (.list (l.map Enc.pd)) := by
  have : S.list? n = some (l.map enc) := by rw [list_at h, ho]
  simp only [resR, this, pds_res]
theorem res_list {S : Sto} {n : Nat} {o : O} {l : List α} (h : S.objs[n]? = some o) (ho : seqO o = some (l.map enc)) : res S (.ref n) = some (.list (l.map Enc.pd)) := by
  show resW (resR S 6) (.ref n) = _
  simp only [resW]
  exact resR_list h ho
theorem q_list {S : Sto} {n m : Nat} {o o' : O} {l l' : List α} [Decidable (l = l')] (h : S.objs[n]? = some o) (ho : seqO o = some (l.map enc)) (h' : S.objs[m]? = some o') (ho' : seqO o' = some (l'.map enc)) (hd : Enc.dep α ≤ 50) : eqv? S (.ref n) (.ref m) = some (decide (l = l')) := by
  rw [eqv_res (res_list h ho) (res_list h' ho')]
  · congr 1
    exact Enc.dec l l'
  · have := pds_depth l
    simp only [PyData.depth]
    omega
theorem q_lt {S : Sto} {n : Nat} {o : O} {l : List α} {xs : List D} {ps : List PyData} (h : S.objs[n]? = some o) (ho : seqO o = some (l.map enc)) (hx : resWs (resR S 6) xs = some ps) (hd : Enc.dep α ≤ 50) : eqv? S (.ref n) (.tup xs) = some false := by
  rw [eqv_res (res_list h ho) (q := .tuple ps) (by simp only [res, resW, hx])]
  · rfl
  · have := pds_depth l
    simp only [PyData.depth]
    omega
theorem any_in [DecidableEq α] {a : α} : ∀ l : List α, ((l.map Enc.pd).any fun y => PyData.eqv y (Enc.pd a)) = decide (a ∈ l)
  | [] => rfl
  | b :: l => by
    have e : decide (b = a) = decide (a = b) := by by_cases h : a = b <;> simp [h, eq_comm]
    simp only [List.map_cons, List.any_cons, Enc.dec, any_in l, List.mem_cons, Bool.decide_or, e]
theorem dec_irr {p : Prop} (i j : Decidable p) : @decide p i = @decide p j := by cases i <;> cases j <;> first | rfl | contradiction
theorem inAny_enc {S : Sto} {a : α} {l : List α} [inst : Decidable (a ∈ l)] (hd : Enc.dep α ≤ 60) : inAny S (enc a) (l.map enc) = some (decide (a ∈ l)) := by
  haveI : DecidableEq α := fun a b => Classical.propDecidable (a = b)
  unfold inAny
  rw [res_enc, pds_res]
  simp only [show Nat.ble (Enc.pd a).depth 60 = true from Nat.ble_eq_true_of_le (Nat.le_trans (Enc.depth a) hd), any_in]
  exact congrArg some (dec_irr _ _)
theorem in_tupE {S : Sto} {a : α} {l : List α} [Decidable (a ∈ l)] (hd : Enc.dep α ≤ 60) : in? S (enc a) (.tup (l.map enc)) = some (decide (a ∈ l)) := inAny_enc hd
theorem in_refE {S : Sto} {a : α} {l : List α} {n : Nat} {o : O} [Decidable (a ∈ l)] (h : S.objs[n]? = some o) (ho : seqO o = some (l.map enc)) (hd : Enc.dep α ≤ 60) : in? S (enc a) (.ref n) = some (decide (a ∈ l)) := by
  rw [in_ref h, ho]
  exact inAny_enc hd
end
end Sw

/-! W4: comprehensions, while. -/
namespace Sw
open PySem L2 Enc
section
variable {F : Nat → Fn} {ρ : En} {S : Sto} {Q : D → Sto → Prop} {it : I} {vs : List Nat} {g : G} {t e : E}
theorem e_comp : (ev F (.comp it vs g t e) ρ S).To Q = (evi F it ρ S).To fun s S1 => (compL s S1.len (gv g) (ev F t) (ev F e) (wipeE ρ vs) (s.turns S1 + 1) 0 (S1.add (.lst []))).To Q := by
  show (evComp (evi F it) vs (gv g) (ev F t) (ev F e) ρ S).To Q = _
  unfold evComp; cases evi F it ρ S <;> rfl
theorem comp_go {s : Src} {n : Nat} {g : Gv} {ft fe : Ev} {l : List D} (I : List D → List D → Sto → Prop) (hn : ∀ done rest acc S, l = done ++ rest → I done acc S → s.next S done.length = some rest.head?)
    (step : ∀ done d rest acc S, l = done ++ d :: rest → I done acc S → (g d ρ S).To fun ρ1 S1 => (ft ρ1 S1).To fun b S2 => tb b fun c => if c = true then (fe ρ1 S2).To fun y S3 => S3.objs[n]? = some (.lst acc) ∧ fits (acc.length + 1) = true ∧ I (done ++ [d]) (acc ++ [y]) (S3.put n (.lst (acc ++ [y])) (y.blw 0)) else I (done ++ [d]) acc S2)
    (fin : ∀ acc S, I l acc S → Q (.ref n) S) : ∀ (rest done : List D) (m : Nat) (acc : List D) (S : Sto), l = done ++ rest → rest.length < m → I done acc S → (compL s n g ft fe ρ m done.length S).To Q
  | [], done, 0, acc, S, e, hm, h => absurd hm (by simp)
  | d :: rest, done, 0, acc, S, e, hm, h => absurd hm (by simp)
  | [], done, m + 1, acc, S, e, hm, h => by
    rw [compL, hn done [] acc S e h]
    rw [List.append_nil] at e
    subst e
    exact fin acc S h
  | d :: rest, done, m + 1, acc, S, e, hm, h => by
    rw [compL, hn done (d :: rest) acc S e h]
    have h1 := step done d rest acc S e h
    dsimp only [List.head?_cons]
    have go : ∀ acc2 S2, I (done ++ [d]) acc2 S2 → (compL s n g ft fe ρ m (done.length + 1) S2).To Q := fun acc2 S2 h3 => by
      have := comp_go I hn step fin rest (done ++ [d]) m acc2 S2 (by simp [e]) (by simp at hm; omega) h3
      simpa using this
    cases h2 : g d ρ S with
    | bad => rw [h2] at h1; exact h1.elim
    | ok ρ1 S1 =>
      rw [h2, to_ok] at h1
      dsimp only
      cases h3 : ft ρ1 S1 with
      | bad => rw [h3] at h1; exact h1.elim
      | ok b S2 =>
        rw [h3, to_ok] at h1
        cases b with
        | bl c =>
          rw [tb_bl] at h1
          dsimp only
          cases c with
          | false => exact go acc S2 h1
          | true =>
            rw [if_pos rfl] at h1
            dsimp only
            cases h4 : fe ρ1 S2 with
            | bad => rw [h4] at h1; exact h1.elim
            | ok y S3 =>
              rw [h4, to_ok] at h1
              obtain ⟨h5, h6, h7⟩ := h1
              dsimp only
              rw [h5]
              dsimp only
              rw [h6]
              exact go _ _ h7
        | _ => exact h1.elim
/-- a comprehension, by what holds of what is done -/
theorem comp_to {s : Src} {n : Nat} {g : Gv} {ft fe : Ev} {α : Type} {l : List α} {enc : α → D} (I : List α → List D → Sto → Prop) (h0 : I [] [] S) {m : Nat} (hm : l.length < m)
    (hn : ∀ done rest acc S, l = done ++ rest → I done acc S → s.next S done.length = some (rest.head?.map enc))
    (step : ∀ done d rest acc S, l = done ++ d :: rest → I done acc S → (g (enc d) ρ S).To fun ρ1 S1 => (ft ρ1 S1).To fun b S2 => tb b fun c => if c = true then (fe ρ1 S2).To fun y S3 => S3.objs[n]? = some (.lst acc) ∧ fits (acc.length + 1) = true ∧ I (done ++ [d]) (acc ++ [y]) (S3.put n (.lst (acc ++ [y])) (y.blw 0)) else I (done ++ [d]) acc S2)
    (fin : ∀ acc S, I l acc S → Q (.ref n) S) : (compL s n g ft fe ρ m 0 S).To Q := by
  refine comp_go (l := l.map enc) (fun ds acc S => ∃ done, ds = done.map enc ∧ done <+: l ∧ I done acc S) (fun done rest acc S e ⟨dn, e1, ⟨r, e3⟩, h⟩ => ?_) (fun done d rest acc S e ⟨dn, e1, ⟨r, e3⟩, h⟩ => ?_) (fun acc S ⟨dn, e1, e2, h⟩ => ?_) (l.map enc) [] m [] S rfl (by simpa using hm) ⟨[], rfl, List.nil_prefix, h0⟩
  · have e4 : r.map enc = rest := by
      have : dn.map enc ++ r.map enc = dn.map enc ++ rest := by rw [← List.map_append, e3, e, e1]
      exact List.append_cancel_left this
    have := hn dn r acc S e3.symm h
    rw [e1, List.length_map, this, ← e4]
    cases r <;> rfl
  · have e4 : r.map enc = d :: rest := by
      have : dn.map enc ++ r.map enc = dn.map enc ++ d :: rest := by rw [← List.map_append, e3, e, e1]
      exact List.append_cancel_left this
    cases r with
    | nil => cases e4
    | cons x r =>
      simp only [List.map_cons, List.cons.injEq] at e4
      rw [← e4.1]
      refine (step dn x r acc S e3.symm h).mono fun ρ1 S1 h1 => h1.mono fun b S2 h2 => ?_
      cases b with
      | bl c =>
        rw [tb_bl] at h2 ⊢
        cases c with
        | false => exact ⟨dn ++ [x], by simp [e1], ⟨r, by simp [← e3]⟩, h2⟩
        | true =>
          rw [if_pos rfl] at h2 ⊢
          exact h2.mono fun y S3 ⟨a, b, c⟩ => ⟨a, b, dn ++ [x], by simp [e1], ⟨r, by simp [← e3]⟩, c⟩
      | _ => exact h2.elim
  · have : dn.length = l.length := by have := congrArg List.length e1; simpa using this.symm
    rw [e2.eq_of_length this] at h
    exact fin acc S h
/-- what a source gives while the store keeps what it reads -/
def Src.Of (s : Src) (B : List O) (l : List D) : Prop := ∀ (L : List O) (bs : List Nat) (t : Bool) (i : Nat), i ≤ l.length → s.next ⟨B ++ L, bs, t⟩ i = some l[i]?
theorem of_items {B : List O} {ds : List D} : (Src.items ds).Of B ds := fun _ _ _ _ _ => rfl
theorem of_live {B : List O} {n : Nat} {xs : List D} {o : O} (h : B[n]? = some o) (ho : seqO o = some xs) : (Src.live n).Of B xs := fun L bs t i _ => by
  have : (⟨B ++ L, bs, t⟩ : Sto).list? n = some xs := by
    rw [list_at (o := o)]
    · exact ho
    · show (B ++ L)[n]? = _; rw [List.getElem?_append_left (List.getElem?_eq_some_iff.mp h).1, h]
  simp only [Src.next, this]
theorem of_range {B : List O} {lo : Int} {n : Nat} : (Src.range lo n).Of B ((List.range n).map fun i => .int (lo + (i : Nat))) := fun L bs t i hi => gives_range.2 i hi
theorem of_enumI {B : List O} {ds : List D} : (Src.enumI ds).Of B (ds.zipIdx.map fun p => .tup [.int (p.2 : Nat), p.1]) := fun L bs t i hi => gives_enumI.2 i hi
theorem of_enumL {B : List O} {n : Nat} {xs : List D} {o : O} (h : B[n]? = some o) (ho : seqO o = some xs) : (Src.enumL n).Of B (xs.zipIdx.map fun p => .tup [.int (p.2 : Nat), p.1]) := fun L bs t i hi => by
  have : (⟨B ++ L, bs, t⟩ : Sto).list? n = some xs := by
    rw [list_at (o := o)]
    · exact ho
    · show (B ++ L)[n]? = _; rw [List.getElem?_append_left (List.getElem?_eq_some_iff.mp h).1, h]
  exact (gives_enumL this).2 i hi
theorem of_zipI {B : List O} {xs ys : List D} : (Src.zipI xs ys).Of B ((xs.zip ys).map fun p => .tup [p.1, p.2]) := fun L bs t i hi => by
  simp only [Src.next, List.getElem?_map]
  cases h1 : xs[i]? with
  | none => simp [List.zip, List.getElem?_zipWith, h1]
  | some x => cases h2 : ys[i]? <;> simp [List.zip, List.getElem?_zipWith, h1, h2]
theorem of_zipL {B : List O} {n k : Nat} {xs ys : List D} {o o' : O} (h : B[n]? = some o) (ho : seqO o = some xs) (h' : B[k]? = some o') (ho' : seqO o' = some ys) : (Src.zipL n k).Of B ((xs.zip ys).map fun p => .tup [p.1, p.2]) := fun L bs t i hi => by
  have e1 : (⟨B ++ L, bs, t⟩ : Sto).list? n = some xs := by
    rw [list_at (o := o)]
    · exact ho
    · show (B ++ L)[n]? = _; rw [List.getElem?_append_left (List.getElem?_eq_some_iff.mp h).1, h]
  have e2 : (⟨B ++ L, bs, t⟩ : Sto).list? k = some ys := by
    rw [list_at (o := o')]
    · exact ho'
    · show (B ++ L)[k]? = _; rw [List.getElem?_append_left (List.getElem?_eq_some_iff.mp h').1, h']
  simp only [Src.next, e1, e2, List.getElem?_map]
  cases h1 : xs[i]? with
  | none => simp [List.zip, List.getElem?_zipWith, h1]
  | some x => cases h2 : ys[i]? <;> simp [List.zip, List.getElem?_zipWith, h1, h2]
/-- a comprehension whose test and item leave the store -/
theorem comp_pure {s : Src} {α : Type} {B : List O} {bs : List Nat} {g : Gv} {ft fe : Ev} {l : List α} {enc : α → D} (p : α → Bool) (f : α → D) (hs : s.Of B (l.map enc)) {m : Nat} (hm : l.length < m) (hf : l.length ≤ 16777216) (hb : bs.headD 0 ≤ B.length)
    (step : ∀ x ∈ l, ∀ acc, (g (enc x) ρ ⟨B ++ [.lst acc], bs, false⟩).To fun ρ1 S1 => (ft ρ1 S1).To fun b S2 => tb b fun c => c = p x ∧ S2 = ⟨B ++ [.lst acc], bs, false⟩ ∧ (p x = true → (fe ρ1 ⟨B ++ [.lst acc], bs, false⟩).To fun y S3 => y = f x ∧ S3 = ⟨B ++ [.lst acc], bs, false⟩))
    (fin : Q (.ref B.length) ⟨B ++ [.lst ((l.filter p).map f)], bs, false⟩) : (compL s B.length g ft fe ρ m 0 (Sto.add ⟨B, bs, false⟩ (.lst []))).To Q := by
  refine comp_to (l := l) (enc := enc) (fun done acc S => acc = (done.filter p).map f ∧ S = ⟨B ++ [.lst acc], bs, false⟩) ⟨rfl, rfl⟩ hm (fun done rest acc S e ⟨_, h⟩ => ?_) (fun done d rest acc S e ⟨h1, h2⟩ => ?_) (fun acc S ⟨h1, h2⟩ => ?_)
  · rw [h, hs _ _ _ _ (by rw [List.length_map, e, List.length_append]; omega), e]
    simp [List.getElem?_append_right, List.head?_eq_getElem?]
  · rw [h2]
    refine (step d (by rw [e]; simp) acc).mono fun ρ1 S1 h3 => h3.mono fun b S2 h4 => ?_
    cases b with
    | bl c =>
      rw [tb_bl] at h4 ⊢
      obtain ⟨rfl, rfl, h5⟩ := h4
      cases hp : p d with
      | false => rw [if_neg (by simp)]; exact ⟨by simp [h1, hp], rfl⟩
      | true =>
        rw [if_pos rfl]
        refine (h5 hp).mono fun y S3 ⟨h6, h7⟩ => ?_
        subst h6 h7
        refine ⟨get_app0, ?_, by simp [h1, hp], ?_⟩
        · have h6 := congrArg List.length e
          have h7 := List.length_filter_le p done
          simp only [List.length_append, List.length_cons] at h6
          rw [h1, List.length_map]
          exact Nat.ble_eq_true_of_le (by omega)
        · cases D.blw 0 (f d) with
          | true => simp only [Sto.put, Sto.esc, set_app0, List.set_cons_zero]
          | false =>
            have : Nat.blt B.length (bs.headD 0) = false := by rw [← Bool.not_eq_true]; intro z; have := Nat.le_of_ble_eq_true z; omega
            simp only [Sto.put, Sto.esc, set_app0, List.set_cons_zero, this, Bool.or_false]
    | _ => exact h4.elim
  · rw [h2, h1]; exact fin
theorem comp_pure' {s : Src} {α : Type} {B : List O} {bs : List Nat} {g : Gv} {ft fe : Ev} {l : List α} {enc : α → D} (p : α → Bool) (f : α → D) (hs : s.Of B (l.map enc)) {m n : Nat} {S0 : Sto} (hS : S0 = ⟨B ++ [.lst []], bs, false⟩) (hn : n = B.length) (hm : l.length < m) (hf : l.length ≤ 16777216) (hb : bs.headD 0 ≤ B.length)
    (step : ∀ x ∈ l, ∀ acc, (g (enc x) ρ ⟨B ++ [.lst acc], bs, false⟩).To fun ρ1 S1 => (ft ρ1 S1).To fun b S2 => tb b fun c => c = p x ∧ S2 = ⟨B ++ [.lst acc], bs, false⟩ ∧ (p x = true → (fe ρ1 ⟨B ++ [.lst acc], bs, false⟩).To fun y S3 => y = f x ∧ S3 = ⟨B ++ [.lst acc], bs, false⟩))
    (fin : Q (.ref B.length) ⟨B ++ [.lst ((l.filter p).map f)], bs, false⟩) : (compL s n g ft fe ρ m 0 S0).To Q := by
  subst hS hn
  exact comp_pure p f hs hm hf hb step fin
/-! ### while -/
theorem s_wh {n : Nat} {u : Ts} {k : Ks} : (sv F (.wh n t u) ρ S).To k = (svWhile (ev F t) (svs F u) n ρ S).To k := nr rfl
theorem while_go {c : Ev} {f : Sv} {k : Ks} (I : Nat → En → Sto → Prop)
    (step : ∀ n ρ S, I n ρ S → (c ρ S).To fun x S1 => tb x fun b => if b = true then ∃ n', n = n' + 1 ∧ (f ρ S1).To ⟨I n', k.rt, k.nx, I n'⟩ else k.nx ρ S1) : ∀ (m n : Nat) (ρ : En) (S : Sto), n < m → I n ρ S → (svWhile c f m ρ S).To k
  | 0, n, ρ, S, h, _ => absurd h (by omega)
  | m + 1, n, ρ, S, h, hI => by
    have h1 := step n ρ S hI
    rw [svWhile]
    cases h2 : c ρ S with
    | bad => rw [h2] at h1; exact h1.elim
    | ok x S1 =>
      rw [h2, to_ok] at h1
      cases x with
      | bl b =>
        rw [tb_bl] at h1
        dsimp only
        cases b with
        | false => exact h1
        | true =>
          rw [if_pos rfl] at h1
          obtain ⟨n', hn, h3⟩ := h1
          dsimp only
          cases h4 : f ρ S1 with
          | bad => rw [h4] at h3; exact h3.elim
          | nx ρ2 S2 => rw [h4] at h3; exact while_go I step m n' ρ2 S2 (by omega) h3
          | ct ρ2 S2 => rw [h4] at h3; exact while_go I step m n' ρ2 S2 (by omega) h3
          | bk ρ2 S2 => rw [h4] at h3; exact h3
          | rt d2 S2 => rw [h4] at h3; exact h3
      | _ => exact h1.elim
end
end Sw

/-! W3: the law's draws. -/
namespace Sw
open PySem L2 Enc
local macro_rules | `(tactic| simp_arith [$xs,*]) => `(tactic| simp only [↓e_lit, ↓e_var, ↓e_bin, ↓e_cmp, ↓e_chain, ↓e_neg, ↓e_not, ↓e_and, ↓e_or, ↓e_ite, ↓e_tup, ↓e_lst, ↓e_dnewT, ↓e_dnewF, ↓e_ix, ↓e_sl, ↓p_none, ↓p_some, ↓e_call, ↓e_bi, ↓e_isi, ↓e_app, ↓e_pop, ↓e_get, ↓e_rev, ↓e_lenum, ↓e_dispk, ↓op_srcR, ↓op_enumR, ↓op_zipR, turns_live, turns_enumL, turns_zipL, turns_items, turns_enumI, turns_zipI, turns_range, Option.bind_some, Option.elim_some, ↓e_comp, ↓s_wh, ↓a_nil, ↓a_cons, ↓a_star, ↓g_name, ↓g_tup, ↓gs_nil, ↓gs_cons, ↓s_nil, ↓s_cons, ↓s_expr, ↓s_ret, ↓s_asg, ↓s_aug, ↓s_put, ↓s_ite, ↓s_pass, ↓s_brk, ↓s_cont, ↓i_e, ↓i_r1, ↓i_r2, ↓i_enum, ↓i_zip, ↓s_fo, ↓look_z, ↓look_s, ↓tb_bl, ↓ti_int, ↓tr_ref, ↓tt_tup, ↓op_some, ↓to_ok, ↓st_nx, ↓st_rt, ↓st_bk, ↓st_ct, List.set_cons_zero, List.set_cons_succ, boD, coD, biN, aoD, ↓p_addI, ↓p_addT, ↓p_addL, ↓p_sub, ↓p_mul, ↓p_fdiv, ↓p_mod, ↓p_pow, ↓p_iaddI, ↓p_iaddL, ↓p_isub, ↓p_lt, ↓p_gt, ↓p_le, ↓p_ge, ↓p_eq, ↓p_ne, ↓p_in, ↓p_notIn, ↓q_int, ↓p_isNN, ↓p_isTN, ↓p_isIN, ↓p_isRN, ↓p_isntNN, ↓p_isntTN, ↓p_isntIN, ↓p_isntRN, ↓p_isBB, ↓p_isntBB, ↓p_ixT, ↓p_ixR, ↓p_slT, ↓p_slR, ↓p_lenT, ↓p_lenR, ↓p_intI, ↓p_intB, ↓p_min, ↓p_max, ↓p_bl, ↓p_sum, ↓p_tupleT, ↓p_tupleR, ↓p_listT, ↓p_listR, ↓p_app, ↓p_pop0, ↓p_popI, ↓p_get1, ↓p_revT, ↓p_revR, ↓p_isi, ↓op_dput, ↓op_list, src_tup, enum_tup, zip_tup, seqO_lst, seqO_frz, lstO_lst, lenO_lst, lenO_frz, ixO_lst, isLst_lst, seqOf_tup, decide_eq_true_eq, List.length_cons, List.length_nil, Nat.beq, true_and, Nat.reduceAdd, List.getElem?_cons_zero, List.getElem?_cons_succ, get_app0, get_app, set_app0, set_app, List.append_assoc, List.cons_append, List.nil_append, List.length_append, wipeE, ↓op_map, ↓atI_map, atI_0, atI_1, atI_2, atI_3, List.length_map, st_enter, st_add, st_putT, st_len, bw_int, bw_bl, bw_non, bw_str, bw_tup, bws_nil, bws_cons, Enc.flat, flats, Bool.and_true, Bool.and_self, isT_tup, sub_TT, List.any_cons, List.any_nil, Bool.or_false, Bool.not_true, Bool.not_false, if_true, if_false, Bool.false_eq_true, decide_true, decide_false, $xs,*])
def dObj (c : Nat) (left seed spot : Int) : O := .dct [(.str "left", .int left), (.str "seed", .int seed), (.str "cells", .ref c), (.str "spot", .int spot)]
section
variable {c : Nat} {l s p v : Int}
theorem d_left : ixO (dObj c l s p) (.str "left") = some (.int l) := rfl
theorem d_seed : ixO (dObj c l s p) (.str "seed") = some (.int s) := rfl
theorem d_cells : ixO (dObj c l s p) (.str "cells") = some (.ref c) := rfl
theorem d_spot : ixO (dObj c l s p) (.str "spot") = some (.int p) := rfl
theorem d_pleft : dputO (dObj c l s p) (.str "left") (.int v) = some (dObj c v s p) := rfl
theorem d_pspot : dputO (dObj c l s p) (.str "spot") (.int v) = some (dObj c l s v) := rfl
end
structure DSt where
  left : Int
  seed : Int
  spot : Int
  cells : List Int
structure DrawAt (S : Sto) (r c : Nat) (st : DSt) : Prop where
  m : S.objs[r]? = some (dObj c st.left st.seed st.spot)
  cs : S.objs[c]? = some (.lst (st.cells.map .int))
  ne : 0 < st.cells.length
  sp : 0 ≤ st.spot
def drawB : Ts := (.cons (.ite (.cmp .gt (.ix (.var 0) (.lit (.str "left"))) (.lit (.int 0))) (.cons (.asg (.bin .mod (.bi .int (.cons (.ix (.var 0) (.lit (.str "left"))) .nil)) (.var 1)) (.name 5)) (.cons (.put (.var 0) (.lit (.str "left")) (.bin .fdiv (.ix (.var 0) (.lit (.str "left"))) (.var 1))) (.cons (.ret (.var 5)) .nil))) .nil) (.cons (.asg (.ix (.var 0) (.lit (.str "spot"))) (.name 2)) (.cons (.put (.var 0) (.lit (.str "spot")) (.bin .add (.var 2) (.lit (.int 1)))) (.cons (.asg (.tup (.cons (.ix (.var 0) (.lit (.str "cells"))) (.cons (.bin .add (.ix (.var 0) (.lit (.str "seed"))) (.bin .mul (.bin .mul (.lit (.int 40503)) (.var 2)) (.var 2))) .nil))) (.tup 2 (.cons (.name 6) (.cons (.name 7) .nil)))) (.cons (.asg (.ix (.var 6) (.bin .mod (.bi .int (.cons (.var 2) .nil)) (.bi .len (.cons (.var 6) .nil)))) (.name 3)) (.cons (.asg (.bin .mod (.bi .int (.cons (.bin .add (.bin .mul (.var 3) (.bin .add (.bin .mul (.lit (.int 2)) (.var 2)) (.lit (.int 3)))) (.var 7)) .nil)) (.lit (.int 2147483647))) (.name 4)) (.cons (.asg (.bin .mod (.bi .int (.cons (.bin .add (.bin .add (.bin .mul (.var 4) (.var 4)) (.bin .mul (.lit (.int 69621)) (.var 2))) (.ix (.var 0) (.lit (.str "seed")))) .nil)) (.lit (.int 2147483629))) (.name 4)) (.cons (.ret (.bin .mod (.bin .fdiv (.bin .mod (.bi .int (.cons (.bin .add (.bin .mul (.var 4) (.lit (.int 48271))) (.var 2)) .nil)) (.lit (.int 2147483647))) (.lit (.int 11))) (.var 1))) .nil))))))))
theorem draw_spec {F : Nat → Fn} {S : Sto} {r c : Nat} {st : DSt} {many : Int} (h : DrawAt S r c st) (hd : S.dirty = false) (h0 : 0 < many) (h1 : many < 1073741824) (h2 : st.spot < 2 ^ 60) :
    (fnSem 8 2 (svs F drawB) [.ref r, .int many] S).To fun d S' => ∃ v st', d = .int v ∧ 0 ≤ v ∧ v < many ∧ DrawAt S' r c st' ∧ st'.cells = st.cells ∧ st'.spot ≤ st.spot + 1 ∧ ∃ o, S' = ⟨S.objs.set r o, S.bs, false⟩ := by
  obtain ⟨B, bs, dt⟩ := S
  obtain rfl : dt = false := hd
  have hm : B[r]? = _ := h.m
  have hc : B[c]? = _ := h.cs
  have hrc : r ≠ c := fun z => by rw [z, hc] at hm; cases hm
  have hs : ∀ o, (B.set r o)[r]? = some o := fun o => getElem?_setN hm
  have hsc : ∀ o, (B.set r o)[c]? = B[c]? := fun o => List.getElem?_set_ne hrc
  have sm : small (2 * st.spot + 3) = true := by have := h.sp; simp only [small, Bool.and_eq_true, decide_eq_true_eq]; omega
  have ss : small st.spot = true := by have := h.sp; simp only [small, Bool.and_eq_true, decide_eq_true_eq]; omega
  refine fn_to rfl ?_
  simp only [drawB, List.map, List.cons_append, List.nil_append, List.replicate]
  simp_arith [hm, hs, hsc, hc, d_left, d_pleft, d_spot, d_pspot, d_cells, d_seed]
  split
  · rename_i hl
    rw [ret_flat rfl rfl]
    refine ⟨h0, by simp [h0, h1], st.left % many, { st with left := st.left / many }, rfl, Int.emod_nonneg _ (by omega), Int.emod_lt_of_pos _ h0, ?_, rfl, by simp; omega, _, by simp only [st_len, take_set]; rfl⟩
    simp only [st_len, take_set]
    exact ⟨hs _, (hsc _).trans hc, h.ne, h.sp⟩
  · obtain ⟨x, hx, _, _⟩ := atI_in (l := st.cells) (i := st.spot % st.cells.length) (Int.emod_nonneg _ (by have := h.ne; omega)) (Int.emod_lt_of_pos _ (by have := h.ne; omega))
    simp_arith [hx, hs, hsc, hc, d_left, d_pleft, d_spot, d_pspot, d_cells, d_seed]
    have s1 : ∀ y : Int, small (y % 2147483647) = true := fun y => by
      have a := Int.emod_nonneg y (show (2147483647 : Int) ≠ 0 by decide)
      have b := Int.emod_lt_of_pos y (show (0 : Int) < 2147483647 by decide)
      simp only [small, Bool.and_eq_true, decide_eq_true_eq]; omega
    have k1 : small 40503 = true := by decide
    have k2 : small 2 = true := by decide
    have k3 : small 69621 = true := by decide
    have k4 : small 48271 = true := by decide
    have k5 : fits (0 + 1 + 1) = true := rfl
    simp only [sm, ss, s1, k1, k2, k3, k4, k5, Bool.or_true, Bool.true_or, true_and]
    refine ⟨by have := h.ne; omega, by decide, by decide, by decide, by decide, h0, ?_⟩
    rw [ret_flat rfl rfl]
    refine ⟨_, { st with spot := st.spot + 1 }, rfl, Int.emod_nonneg _ (by omega), Int.emod_lt_of_pos _ h0, ?_, rfl, by simp, _, by simp only [st_len, take_set]; rfl⟩
    simp only [st_len, take_set]
    exact ⟨hs _, (hsc _).trans hc, h.ne, by have := h.sp; simp; omega⟩
end Sw

/-! W5: loops over given things; the beginning of a turn's draws. -/
namespace Sw
open PySem L2 Enc
local macro_rules | `(tactic| simp_arith [$xs,*]) => `(tactic| simp only [↓e_lit, ↓e_var, ↓e_bin, ↓e_cmp, ↓e_chain, ↓e_neg, ↓e_not, ↓e_and, ↓e_or, ↓e_ite, ↓e_tup, ↓e_lst, ↓e_dnewT, ↓e_dnewF, ↓e_ix, ↓e_sl, ↓p_none, ↓p_some, ↓e_call, ↓e_bi, ↓e_isi, ↓e_app, ↓e_pop, ↓e_get, ↓e_rev, ↓e_lenum, ↓e_dispk, ↓op_srcR, ↓op_enumR, ↓op_zipR, turns_live, turns_enumL, turns_zipL, turns_items, turns_enumI, turns_zipI, turns_range, Option.bind_some, Option.elim_some, ↓e_comp, ↓s_wh, ↓a_nil, ↓a_cons, ↓a_star, ↓g_name, ↓g_tup, ↓gs_nil, ↓gs_cons, ↓s_nil, ↓s_cons, ↓s_expr, ↓s_ret, ↓s_asg, ↓s_aug, ↓s_put, ↓s_ite, ↓s_pass, ↓s_brk, ↓s_cont, ↓i_e, ↓i_r1, ↓i_r2, ↓i_enum, ↓i_zip, ↓s_fo, ↓look_z, ↓look_s, ↓tb_bl, ↓ti_int, ↓tr_ref, ↓tt_tup, ↓op_some, ↓to_ok, ↓st_nx, ↓st_rt, ↓st_bk, ↓st_ct, List.set_cons_zero, List.set_cons_succ, boD, coD, biN, aoD, ↓p_addI, ↓p_addT, ↓p_addL, ↓p_sub, ↓p_mul, ↓p_fdiv, ↓p_mod, ↓p_pow, ↓p_iaddI, ↓p_iaddL, ↓p_isub, ↓p_lt, ↓p_gt, ↓p_le, ↓p_ge, ↓p_eq, ↓p_ne, ↓p_in, ↓p_notIn, ↓q_int, ↓p_isNN, ↓p_isTN, ↓p_isIN, ↓p_isRN, ↓p_isntNN, ↓p_isntTN, ↓p_isntIN, ↓p_isntRN, ↓p_isBB, ↓p_isntBB, ↓p_ixT, ↓p_ixR, ↓p_slT, ↓p_slR, ↓p_lenT, ↓p_lenR, ↓p_intI, ↓p_intB, ↓p_min, ↓p_max, ↓p_bl, ↓p_sum, ↓p_tupleT, ↓p_tupleR, ↓p_listT, ↓p_listR, ↓p_app, ↓p_pop0, ↓p_popI, ↓p_get1, ↓p_revT, ↓p_revR, ↓p_isi, ↓op_dput, ↓op_list, src_tup, enum_tup, zip_tup, seqO_lst, seqO_frz, lstO_lst, lenO_lst, lenO_frz, ixO_lst, isLst_lst, seqOf_tup, decide_eq_true_eq, List.length_cons, List.length_nil, Nat.beq, true_and, Nat.reduceAdd, List.getElem?_cons_zero, List.getElem?_cons_succ, get_app0, get_app, set_app0, set_app, List.append_assoc, List.cons_append, List.nil_append, List.length_append, wipeE, ↓op_map, ↓atI_map, atI_0, atI_1, atI_2, atI_3, List.length_map, st_enter, st_add, st_putT, st_len, bw_int, bw_bl, bw_non, bw_str, bw_tup, bws_nil, bws_cons, Enc.flat, flats, Bool.and_true, Bool.and_self, isT_tup, sub_TT, List.any_cons, List.any_nil, Bool.or_false, Bool.not_true, Bool.not_false, if_true, if_false, Bool.false_eq_true, decide_true, decide_false, $xs,*])
section
variable {F : Nat → Fn} {ρ : En} {S : Sto} {k : Ks} {α : Type}
/-- whatever the store, the source gives these -/
def Src.Fix (s : Src) (l : List D) : Prop := ∀ (S : Sto) (i : Nat), i ≤ l.length → s.next S i = some l[i]?
theorem fix_items {ds : List D} : (Src.items ds).Fix ds := fun _ _ _ => rfl
theorem fix_range {lo : Int} {n : Nat} : (Src.range lo n).Fix ((List.range n).map fun i => .int (lo + (i : Nat))) := fun S i hi => gives_range.2 i hi
theorem fix_enumI {ds : List D} : (Src.enumI ds).Fix (ds.zipIdx.map fun p => .tup [.int (p.2 : Nat), p.1]) := fun S i hi => gives_enumI.2 i hi
theorem fix_zipI {xs ys : List D} : (Src.zipI xs ys).Fix ((xs.zip ys).map fun p => .tup [p.1, p.2]) := fun S i hi => by
  simp only [Src.next, List.getElem?_map]
  cases h1 : xs[i]? with
  | none => simp [List.zip, List.getElem?_zipWith, h1]
  | some x => cases h2 : ys[i]? <;> simp [List.zip, List.getElem?_zipWith, h1, h2]
theorem for_enc {s : Src} {g : Gv} {f : Sv} {l : List α} {enc : α → D} {m : Nat} (hm : l.length < m) (I : List α → En → Sto → Prop) (h0 : I [] ρ S)
    (hn : ∀ done rest ρ S, l = done ++ rest → I done ρ S → s.next S done.length = some (rest.head?.map enc))
    (step : ∀ done d rest ρ S, l = done ++ d :: rest → I done ρ S → (g (enc d) ρ S).To fun ρ1 S1 => (f ρ1 S1).To ⟨I (done ++ [d]), k.rt, k.nx, I (done ++ [d])⟩)
    (fin : ∀ ρ S, I l ρ S → k.nx ρ S) : (svFor s g f m 0 ρ S).To k := by
  refine for_go (l := l.map enc) (fun ds ρ S => ∃ done, ds = done.map enc ∧ done <+: l ∧ I done ρ S) (fun done rest ρ S e ⟨dn, e1, ⟨r, e3⟩, h⟩ => ?_) (fun done d rest ρ S e ⟨dn, e1, ⟨r, e3⟩, h⟩ => ?_) (fun ρ S ⟨dn, e1, e2, h⟩ => ?_) (l.map enc) [] m ρ S rfl (by simpa using hm) ⟨[], rfl, List.nil_prefix, h0⟩
  · have e4 : r.map enc = rest := by
      have : dn.map enc ++ r.map enc = dn.map enc ++ rest := by rw [← List.map_append, e3, e, e1]
      exact List.append_cancel_left this
    have := hn dn r ρ S e3.symm h
    rw [e1, List.length_map, this, ← e4]
    cases r <;> rfl
  · have e4 : r.map enc = d :: rest := by
      have : dn.map enc ++ r.map enc = dn.map enc ++ d :: rest := by rw [← List.map_append, e3, e, e1]
      exact List.append_cancel_left this
    cases r with
    | nil => cases e4
    | cons x r =>
      simp only [List.map_cons, List.cons.injEq] at e4
      rw [← e4.1]
      refine (step dn x r ρ S e3.symm h).mono fun ρ1 S1 h1 => h1.mono (fun ρ2 S2 h2 => ⟨dn ++ [x], by simp [e1], ⟨r, by simp [← e3]⟩, h2⟩) (fun _ _ z => z) (fun _ _ z => z) (fun ρ2 S2 h2 => ⟨dn ++ [x], by simp [e1], ⟨r, by simp [← e3]⟩, h2⟩)
  · have : dn.length = l.length := by have := congrArg List.length e1; simpa using this.symm
    rw [e2.eq_of_length this] at h
    exact fin ρ S h
theorem for_fix {s : Src} {g : Gv} {f : Sv} {l : List α} {enc : α → D} {m : Nat} (hs : s.Fix (l.map enc)) (hm : l.length < m) (I : List α → En → Sto → Prop) (h0 : I [] ρ S)
    (step : ∀ done d rest ρ S, l = done ++ d :: rest → I done ρ S → (g (enc d) ρ S).To fun ρ1 S1 => (f ρ1 S1).To ⟨I (done ++ [d]), k.rt, k.nx, I (done ++ [d])⟩)
    (fin : ∀ ρ S, I l ρ S → k.nx ρ S) : (svFor s g f m 0 ρ S).To k :=
  for_enc hm I h0 (fun done rest ρ S e _ => by rw [hs S _ (by rw [List.length_map, e, List.length_append]; omega), e]; simp [List.getElem?_append_right, List.head?_eq_getElem?]) step fin
theorem for_of {s : Src} {g : Gv} {f : Sv} {l : List α} {enc : α → D} {m : Nat} {B : List O} (hs : s.Of B (l.map enc)) (hm : l.length < m) (I : List α → En → Sto → Prop) (h0 : I [] ρ S) (hB : ∀ done ρ S, I done ρ S → ∃ L, S.objs = B ++ L)
    (step : ∀ done d rest ρ S, l = done ++ d :: rest → I done ρ S → (g (enc d) ρ S).To fun ρ1 S1 => (f ρ1 S1).To ⟨I (done ++ [d]), k.rt, k.nx, I (done ++ [d])⟩)
    (fin : ∀ ρ S, I l ρ S → k.nx ρ S) : (svFor s g f m 0 ρ S).To k :=
  for_enc hm I h0 (fun done rest ρ S e h => by
    obtain ⟨L, hL⟩ := hB _ _ _ h
    obtain ⟨ob, bs, t⟩ := S
    have hL : ob = B ++ L := hL
    subst hL
    rw [hs _ _ _ _ (by rw [List.length_map, e, List.length_append]; omega), e]; simp [List.getElem?_append_right, List.head?_eq_getElem?]) step fin
end
theorem cutL_map {α β : Type} (f : α → β) (l : List α) (lo hi : Option Int) : cutL (l.map f) lo hi = (cutL l lo hi).map f := by
  simp only [cutL, List.length_map, List.map_take, List.map_drop]
theorem cutL_le {α : Type} (l : List α) (lo hi : Option Int) : (cutL l lo hi).length ≤ l.length := by
  simp only [cutL, List.length_take, List.length_drop]
  omega
/-! ### begun -/
def begunB : Ts := (.cons (.asg (.bin .add (.sl (.var 0) (.some (.var 1)) .none) (.sl (.var 0) .none (.some (.var 1)))) (.name 2)) (.cons (.asg (.comp (.e (.var 2)) [5] (.name 5) (.cmp .ge (.var 5) (.bin .pow (.lit (.int 10)) (.lit (.int 18)))) (.var 5)) (.name 3)) (.cons (.asg (.bin .add (.lit (.int 97)) (.var 1)) (.name 4)) (.cons (.fo (.e (.var 2)) (.name 5) (.cons (.asg (.bin .mod (.bi .int (.cons (.bin .add (.bin .mul (.var 4) (.lit (.int 48271))) (.var 5)) .nil)) (.lit (.int 2147483647))) (.name 4)) .nil)) (.cons (.ret (.dispk (.cons (.lit (.str "left")) (.cons (.ite (.cmp .ne (.var 3) (.lst .nil)) (.ix (.var 3) (.lit (.int 0))) (.lit (.int 0))) (.cons (.lit (.str "seed")) (.cons (.var 4) (.cons (.lit (.str "cells")) (.cons (.bin .add (.var 2) (.lst (.cons (.bin .add (.bin .mul (.lit (.int 31)) (.var 1)) (.lit (.int 5))) .nil))) (.cons (.lit (.str "spot")) (.cons (.lit (.int 0)) .nil)))))))))) .nil)))))
theorem begun_spec {F : Nat → Fn} {B : List O} {bs : List Nat} {n : Nat} {ns : List Int} {j : Nat} (h : B[n]? = some (.frz (ns.map D.int))) (hl : ns.length ≤ 63) (hj : j ≤ 100) :
    (fnSem 6 2 (svs F begunB) [.ref n, .int j] ⟨B, bs, false⟩).To fun d S' => ∃ L r c st, d = .ref r ∧ S' = ⟨B ++ L, bs, false⟩ ∧ DrawAt S' r c st ∧ st.spot = 0 ∧ B.length ≤ r ∧ B.length ≤ c := by
  refine fn_to rfl ?_
  simp only [begunB, List.map, List.cons_append, List.nil_append, List.replicate]
  have hB : ∀ L : List O, (B ++ L)[n]? = some (.frz (ns.map D.int)) := fun L => by rw [List.getElem?_append_left (List.getElem?_eq_some_iff.mp h).1, h]
  simp_arith [h, hB]
  generalize hx : cutL (List.map D.int ns) (some (j : Int)) none = xs
  generalize hy : cutL (List.map D.int ns) none (some (j : Int)) = ys
  have ex : ∃ l : List Int, xs = l.map enc ∧ l.length ≤ 63 := ⟨cutL ns (some (j : Int)) none, by rw [← hx, cutL_map]; rfl, Nat.le_trans (cutL_le _ _ _) hl⟩
  have ey : ∃ l : List Int, ys = l.map enc ∧ l.length ≤ 63 := ⟨cutL ns none (some (j : Int)), by rw [← hy, cutL_map]; rfl, Nat.le_trans (cutL_le _ _ _) hl⟩
  obtain ⟨l1, rfl, h1⟩ := ex
  obtain ⟨l2, rfl, h2⟩ := ey
  rw [← List.map_append]
  refine ⟨by simp only [List.length_map]; exact Nat.ble_eq_true_of_le (by omega), ?_⟩
  refine comp_pure' (α := Int) (enc := enc) (l := l1 ++ l2) (fun i => decide (10 ^ 18 ≤ i)) enc (B := B ++ [O.lst (l1.map enc), O.lst (l2.map enc), O.lst ((l1 ++ l2).map enc)]) (bs := B.length :: bs) (of_live (o := .lst ((l1 ++ l2).map enc)) (n := B.length + 2) get_app rfl) ?_ ?_ ?_ ?_ ?_ ?_ ?_
  · simp [List.append_assoc]
  · simp
  · simp
  · simp; omega
  · simp
  · intro x hx acc
    simp_arith [wipeE]
    exact ⟨by decide, rfl, rfl, fun _ => trivial⟩
  · simp_arith []
    refine for_of (B := B ++ [O.lst (l1.map enc), O.lst (l2.map enc), O.lst ((l1 ++ l2).map enc), O.lst (List.map enc (List.filter (fun i => decide (10 ^ 18 ≤ i)) (l1 ++ l2)))]) (l := l1 ++ l2) (enc := enc) (of_live (o := .lst ((l1 ++ l2).map enc)) (n := B.length + 2) get_app rfl) (by simp)
      (fun _ ρ S => ∃ (sd : Int) (z : Option D), small sd = true ∧ ρ = [some (D.ref n), some (D.int ↑j), some (D.ref (B.length + 2)), some (D.ref (B.length + 3)), some (D.int sd), z] ∧ S = ⟨B ++ [O.lst (l1.map enc), O.lst (l2.map enc), O.lst ((l1 ++ l2).map enc), O.lst (List.map enc (List.filter (fun i => decide (10 ^ 18 ≤ i)) (l1 ++ l2)))], B.length :: bs, false⟩)
      ⟨97 + j, none, by simp [small]; omega, rfl, rfl⟩ (fun _ _ _ ⟨sd, z, _, _, e⟩ => ⟨[], by rw [e]; simp⟩) (fun done d rest ρ S e ⟨sd, z, h1, h2, h3⟩ => ?_) (fun ρ S ⟨sd, z, h1, h2, h3⟩ => ?_)
    · subst h2 h3
      simp_arith [enc_int]
      refine ⟨by rw [h1]; rfl, by decide, _, _, ?_, rfl, by simp⟩
      have a := Int.emod_nonneg (sd * 48271 + d) (show (2147483647 : Int) ≠ 0 by decide)
      have b := Int.emod_lt_of_pos (sd * 48271 + d) (show (0 : Int) < 2147483647 by decide)
      simp only [small, Bool.and_eq_true, decide_eq_true_eq]; omega
    · subst h2 h3
      simp_arith []
      generalize hgr : List.filter (fun i => decide (10 ^ 18 ≤ i)) (l1 ++ l2) = gr
      have fin : ∀ (left : Int), (ret { objs := B, bs := bs, dirty := false } (D.ref (B.length + 4))
          (Sto.put ⟨B ++ [O.lst (List.map enc l1), O.lst (List.map enc l2), O.lst (List.map enc (l1 ++ l2)), O.lst (List.map enc gr), O.dct [], O.lst [], O.lst [D.int (31 * ↑j + 5)], O.lst (List.map enc (l1 ++ l2) ++ [D.int (31 * ↑j + 5)])], B.length :: bs, false⟩
            (B.length + 4) (dObj (B.length + 7) left sd 0) false)).To fun d S' => ∃ L r c st, d = D.ref r ∧ S' = ⟨B ++ L, bs, false⟩ ∧ DrawAt S' r c st ∧ st.spot = 0 ∧ B.length ≤ r ∧ B.length ≤ c := fun left => by
        rw [st_putF (by omega)]
        have e4 : (⟨B ++ [O.lst (List.map enc l1), O.lst (List.map enc l2), O.lst (List.map enc (l1 ++ l2)), O.lst (List.map enc gr), dObj (B.length + 7) left sd 0, O.lst [], O.lst [D.int (31 * ↑j + 5)], O.lst (List.map enc (l1 ++ l2) ++ [D.int (31 * ↑j + 5)])], B.length :: bs, false⟩ : Sto).objs[B.length + 4]? = some (dObj (B.length + 7) left sd 0) := get_app
        rw [set_app]
        simp only [List.set_cons_succ, List.set_cons_zero]
        rw [ret_keep rfl (by simp [Sto.len]) e4 (by simp [dObj, O.blw, pairsBelow, bw_int, bw_str, bw_ref])]
        refine ⟨_, _, B.length + 7, ⟨left, sd, 0, (l1 ++ l2) ++ [31 * (j : Int) + 5]⟩, rfl, rfl, ⟨get_app, ?_, by simp; omega, Int.le_refl _⟩, rfl, by omega, by omega⟩
        rw [get_app]
        simp [enc_int]
        rfl
      refine ⟨rfl, ?_⟩
      rw [q_list (l := gr) (l' := ([] : List Int)) (o := .lst (gr.map enc)) (o' := .lst []) get_app rfl get_app rfl (by decide)]
      have k1 : fits (l1.length + l2.length + 1) = true := Nat.ble_eq_true_of_le (by omega)
      rw [op_some]
      cases gr with
      | nil =>
        rw [if_neg (by simp)]
        refine ⟨rfl, rfl, k1, ?_⟩
        exact ⟨rfl, fin 0⟩
      | cons g0 gr =>
        rw [if_pos (by simp), atI_0, op_some]
        refine ⟨rfl, rfl, k1, ?_⟩
        exact ⟨rfl, fin g0⟩
end Sw

/-! W6: what a store keeps; draws as promises; one of some things. -/
namespace Sw
open PySem L2 Enc
local macro_rules | `(tactic| simp_arith [$xs,*]) => `(tactic| simp only [↓e_lit, ↓e_var, ↓e_bin, ↓e_cmp, ↓e_chain, ↓e_neg, ↓e_not, ↓e_and, ↓e_or, ↓e_ite, ↓e_tup, ↓e_lst, ↓e_dnewT, ↓e_dnewF, ↓e_ix, ↓e_sl, ↓p_none, ↓p_some, ↓e_call, ↓e_bi, ↓e_isi, ↓e_app, ↓e_pop, ↓e_get, ↓e_rev, ↓e_lenum, ↓e_dispk, ↓op_srcR, ↓op_enumR, ↓op_zipR, turns_live, turns_enumL, turns_zipL, turns_items, turns_enumI, turns_zipI, turns_range, Option.bind_some, Option.elim_some, ↓e_comp, ↓s_wh, ↓a_nil, ↓a_cons, ↓a_star, ↓g_name, ↓g_tup, ↓gs_nil, ↓gs_cons, ↓s_nil, ↓s_cons, ↓s_expr, ↓s_ret, ↓s_asg, ↓s_aug, ↓s_put, ↓s_ite, ↓s_pass, ↓s_brk, ↓s_cont, ↓i_e, ↓i_r1, ↓i_r2, ↓i_enum, ↓i_zip, ↓s_fo, ↓look_z, ↓look_s, ↓tb_bl, ↓ti_int, ↓tr_ref, ↓tt_tup, ↓op_some, ↓to_ok, ↓st_nx, ↓st_rt, ↓st_bk, ↓st_ct, List.set_cons_zero, List.set_cons_succ, boD, coD, biN, aoD, ↓p_addI, ↓p_addT, ↓p_addL, ↓p_sub, ↓p_mul, ↓p_fdiv, ↓p_mod, ↓p_pow, ↓p_iaddI, ↓p_iaddL, ↓p_isub, ↓p_lt, ↓p_gt, ↓p_le, ↓p_ge, ↓p_eq, ↓p_ne, ↓p_in, ↓p_notIn, ↓q_int, ↓p_isNN, ↓p_isTN, ↓p_isIN, ↓p_isRN, ↓p_isntNN, ↓p_isntTN, ↓p_isntIN, ↓p_isntRN, ↓p_isBB, ↓p_isntBB, ↓p_ixT, ↓p_ixR, ↓p_slT, ↓p_slR, ↓p_lenT, ↓p_lenR, ↓p_intI, ↓p_intB, ↓p_min, ↓p_max, ↓p_bl, ↓p_sum, ↓p_tupleT, ↓p_tupleR, ↓p_listT, ↓p_listR, ↓p_app, ↓p_pop0, ↓p_popI, ↓p_get1, ↓p_revT, ↓p_revR, ↓p_isi, ↓op_dput, ↓op_list, src_tup, enum_tup, zip_tup, seqO_lst, seqO_frz, lstO_lst, lenO_lst, lenO_frz, ixO_lst, isLst_lst, seqOf_tup, decide_eq_true_eq, List.length_cons, List.length_nil, Nat.beq, true_and, Nat.reduceAdd, List.getElem?_cons_zero, List.getElem?_cons_succ, get_app0, get_app, set_app0, set_app, List.append_assoc, List.cons_append, List.nil_append, List.length_append, wipeE, ↓op_map, ↓atI_map, atI_0, atI_1, atI_2, atI_3, List.length_map, st_enter, st_add, st_putT, st_len, bw_int, bw_bl, bw_non, bw_str, bw_tup, bws_nil, bws_cons, Enc.flat, flats, Bool.and_true, Bool.and_self, isT_tup, sub_TT, List.any_cons, List.any_nil, Bool.or_false, Bool.not_true, Bool.not_false, if_true, if_false, Bool.false_eq_true, decide_true, decide_false, $xs,*])
structure Kp (W : List Nat) (S S' : Sto) : Prop where
  len : S.len ≤ S'.len
  get : ∀ i, i < S.len → i ∉ W → S'.objs[i]? = S.objs[i]?
  bs : S'.bs = S.bs
  cl : S'.dirty = false
section
variable {W W' : List Nat} {S S' S2 : Sto} {n i : Nat} {o o' : O}
theorem Kp.refl (h : S.dirty = false) : Kp W S S := ⟨Nat.le_refl _, fun _ _ _ => rfl, rfl, h⟩
theorem Kp.trans (a : Kp W S S') (b : Kp W S' S2) : Kp W S S2 := ⟨Nat.le_trans a.len b.len, fun i h1 h2 => (b.get i (Nat.lt_of_lt_of_le h1 a.len) h2).trans (a.get i h1 h2), b.bs.trans a.bs, b.cl⟩
theorem Kp.mono (a : Kp W S S') (h : ∀ i ∈ W, i ∈ W') : Kp W' S S' := ⟨a.len, fun i h1 h2 => a.get i h1 fun z => h2 (h i z), a.bs, a.cl⟩
theorem lt_of_at (h : S.objs[i]? = some o) : i < S.len := (List.getElem?_eq_some_iff.mp h).1
theorem Kp.at (a : Kp W S S') (h : S.objs[i]? = some o) (hi : i ∉ W) : S'.objs[i]? = some o := (a.get i (lt_of_at h) hi).trans h
theorem Kp.add (h : S.dirty = false) : Kp W S (S.add o) := ⟨by rw [Sto.add_len]; exact Nat.le_succ _, fun i hi _ => by simp [Sto.add, List.getElem?_append_left hi], rfl, h⟩
theorem add_at (h : S.objs[i]? = some o) : (S.add o').objs[i]? = some o := (Kp.add (W := []) (S := ⟨S.objs, S.bs, false⟩) rfl).at h (by simp)
theorem add_new : (S.add o).objs[S.len]? = some o := by simp [Sto.add]
theorem add_cl : (S.add o).dirty = S.dirty := rfl
theorem add_bs : (S.add o).bs = S.bs := rfl
theorem put_at (h : S.objs[n]? = some o) {ok : Bool} : (S.put n o' ok).objs[n]? = some o' := getElem?_setN h
theorem put_ne {ok : Bool} (h : n ≠ i) : (S.put n o' ok).objs[i]? = S.objs[i]? := List.getElem?_set_ne h
theorem put_clT : (S.put n o' true).dirty = S.dirty := rfl
theorem put_clF (h : S.bs.headD 0 ≤ n) : (S.put n o' false).dirty = S.dirty := by
  have : Nat.blt n (S.bs.headD 0) = false := by rw [← Bool.not_eq_true]; intro z; have := Nat.le_of_ble_eq_true z; omega
  simp only [Sto.put, Sto.esc, this, Bool.or_false]
theorem put_cl {ok : Bool} (h : S.bs.headD 0 ≤ n) : (S.put n o' ok).dirty = S.dirty := by
  cases ok
  · exact put_clF h
  · rfl
theorem put_bs {ok : Bool} : (S.put n o' ok).bs = S.bs := rfl
theorem Kp.put {ok : Bool} (hd : (S.put n o' ok).dirty = false) (hn : n ∈ W ∨ S.len ≤ n) : Kp W S (S.put n o' ok) := by
  refine ⟨by rw [Sto.put_len]; exact Nat.le_refl _, fun i hi hw => put_ne ?_, rfl, hd⟩
  rcases hn with z | z
  · exact fun e => hw (e ▸ z)
  · omega
theorem Kp.addN (a : Kp W S S') : Kp W S (S'.add o) := a.trans (Kp.add a.cl)
theorem Kp.putN {ok : Bool} (a : Kp W S S') (hn : n ∈ W ∨ S.len ≤ n) (hd : (S'.put n o' ok).dirty = false) : Kp W S (S'.put n o' ok) := by
  refine ⟨by rw [Sto.put_len]; exact a.len, fun i hi hw => (put_ne ?_).trans (a.get i hi hw), a.bs, hd⟩
  rcases hn with z | z
  · exact fun e => hw (e ▸ z)
  · omega
/-- own things may have changed -/
theorem Kp.own (a : Kp W S S') (b : Kp W' S' S2) (h : ∀ i ∈ W', i ∈ W ∨ S.len ≤ i) : Kp W S S2 :=
  ⟨Nat.le_trans a.len b.len, fun i h1 h2 => (b.get i (Nat.lt_of_lt_of_le h1 a.len) fun z => (h i z).elim h2 fun y => absurd h1 (Nat.not_lt_of_le y)).trans (a.get i h1 h2), b.bs.trans a.bs, b.cl⟩
end
structure DrawS (S : Sto) (r c : Nat) (sp : Int) : Prop where
  ex : ∃ st, DrawAt S r c st ∧ st.spot ≤ sp
section
variable {W : List Nat} {S S' : Sto} {r c n : Nat} {sp sp' : Int} {xs : List D}
theorem DrawS.ne (h : DrawS S r c sp) (e : S.objs[n]? = some (.lst xs)) : n ≠ r := fun z => by
  obtain ⟨st, h1, _⟩ := h.ex
  rw [z, h1.m] at e
  cases e
theorem DrawS.lr (h : DrawS S r c sp) : r < S.len := by obtain ⟨st, h1, _⟩ := h.ex; exact lt_of_at h1.m
theorem DrawS.lc (h : DrawS S r c sp) : c < S.len := by obtain ⟨st, h1, _⟩ := h.ex; exact lt_of_at h1.cs
theorem DrawS.keep (h : DrawS S r c sp) (k : Kp W S S') (hr : r ∉ W) (hc : c ∉ W) : DrawS S' r c sp := by
  obtain ⟨st, h1, h2⟩ := h.ex
  exact ⟨st, ⟨k.at h1.m hr, k.at h1.cs hc, h1.ne, h1.sp⟩, h2⟩
theorem DrawS.mono (h : DrawS S r c sp) (hs : sp ≤ sp') : DrawS S r c sp' := by
  obtain ⟨st, h1, h2⟩ := h.ex
  exact ⟨st, h1, by omega⟩
theorem DrawS.addN {o : O} (h : DrawS S r c sp) : DrawS (S.add o) r c sp := by
  obtain ⟨st, h1, h2⟩ := h.ex
  exact ⟨st, ⟨add_at h1.m, add_at h1.cs, h1.ne, h1.sp⟩, h2⟩
theorem DrawS.putN {o : O} {ok : Bool} (h : DrawS S r c sp) (hr : n ≠ r) (hc : n ≠ c) : DrawS (S.put n o ok) r c sp := by
  obtain ⟨st, h1, h2⟩ := h.ex
  exact ⟨st, ⟨(put_ne hr).trans h1.m, (put_ne hc).trans h1.cs, h1.ne, h1.sp⟩, h2⟩
theorem DrawS.enter (h : DrawS S r c sp) : DrawS S.enter r c sp := by
  obtain ⟨st, h1, h2⟩ := h.ex
  exact ⟨st, ⟨h1.m, h1.cs, h1.ne, h1.sp⟩, h2⟩
end
def SpDraw (f : Fn) : Prop := ∀ (S : Sto) (r c : Nat) (sp many : Int), S.dirty = false → DrawS S r c sp → sp < 2 ^ 59 → 0 < many → many < 1073741824 →
  (f [.ref r, .int many] S).To fun d S' => ∃ v, d = .int v ∧ 0 ≤ v ∧ v < many ∧ S'.len = S.len ∧ Kp [r] S S' ∧ DrawS S' r c (sp + 1)
theorem lift_ref {f : Fn} {ds : List D} {S : Sto} (h : D.blws 0 ds = false) : liftF f ds S = f ds S := by unfold liftF; rw [h]
theorem SpDraw.lift {f : Fn} (h : SpDraw f) : SpDraw (liftF f) := fun S r c sp many h1 h2 h3 h4 h5 => by
  rw [lift_ref rfl]
  exact h S r c sp many h1 h2 h3 h4 h5
theorem spDraw (F : Nat → Fn) : SpDraw (fnSem 8 2 (svs F drawB)) := fun S r c sp many h1 h2 h3 h4 h5 => by
  obtain ⟨st, hs, hl⟩ := h2.ex
  refine (draw_spec hs h1 h4 h5 (by omega)).mono fun d S' ⟨v, st', e1, e2, e3, e4, e5, e6, o, e7⟩ => ⟨v, e1, e2, e3, ?_, ?_, ⟨st', e4, by omega⟩⟩
  · rw [e7]; simp [Sto.len]
  · rw [e7]
    exact ⟨by simp [Sto.len], fun i _ hi => List.getElem?_set_ne (by simpa [eq_comm] using hi), rfl, rfl⟩
def ofB (iD : Nat) : Ts := (.cons (.ret (.ix (.var 1) (.call iD (.cons (.var 0) (.cons (.bi .len (.cons (.var 1) .nil)) .nil))))) .nil)
def SpOf (f : Fn) : Prop := ∀ (S : Sto) (r c n : Nat) (sp : Int) (xs : List D), S.dirty = false → DrawS S r c sp → sp < 2 ^ 59 → S.objs[n]? = some (.lst xs) → xs ≠ [] → xs.length < 1073741824 → (∀ d ∈ xs, d.blw S.len = true) →
  (f [.ref r, .ref n] S).To fun d S' => d ∈ xs ∧ S'.len = S.len ∧ Kp [r] S S' ∧ DrawS S' r c (sp + 1)
theorem SpOf.lift {f : Fn} (h : SpOf f) : SpOf (liftF f) := fun S r c n sp xs h1 h2 h3 h4 h5 h6 h7 => by
  rw [lift_ref rfl]
  exact h S r c n sp xs h1 h2 h3 h4 h5 h6 h7
theorem kp_ret {S S' : Sto} {W : List Nat} (k : Kp W S.enter S') : Kp W S ⟨S'.objs.take S.len, S.bs, false⟩ ∧ (⟨S'.objs.take S.len, S.bs, false⟩ : Sto).len = S.len := by
  have hl : S.len ≤ S'.len := k.len
  refine ⟨⟨by simp [Sto.len] at hl ⊢; omega, fun i hi hw => ?_, rfl, rfl⟩, by simp [Sto.len] at hl ⊢; omega⟩
  show (S'.objs.take S.len)[i]? = _
  rw [List.getElem?_take, if_pos hi]
  exact k.get i hi hw
theorem spOf (F : Nat → Fn) (iD : Nat) (hD : SpDraw (F iD)) : SpOf (fnSem 2 2 (svs F (ofB iD))) := fun S r c n sp xs h1 h2 h3 h4 h5 h6 h7 => by
  refine fn_to rfl ?_
  simp only [ofB, List.map, List.cons_append, List.nil_append, List.replicate]
  have h4' : S.enter.objs[n]? = some (.lst xs) := h4
  simp_arith [h4']
  have hx : 0 < xs.length := by cases xs with | nil => exact absurd rfl h5 | cons a l => simp
  refine (hD S.enter r c sp xs.length h1 h2.enter h3 (by omega) (by omega)).mono fun d S' ⟨v, e1, e2, e3, e4, e5, e6⟩ => ?_
  subst e1
  obtain ⟨x, hx1, _, hx2⟩ := atI_in e2 e3
  have hn := e5.at h4' (by simpa using h2.ne h4)
  simp_arith [hn, hx1]
  rw [ret_flat e5.cl (h7 x hx2)]
  obtain ⟨k1, k2⟩ := kp_ret e5
  refine ⟨hx2, k2, k1, ?_⟩
  obtain ⟨st, g1, g2⟩ := e6.ex
  have tk : ∀ i o, i < S.len → S'.objs[i]? = some o → (S'.objs.take S.len)[i]? = some o := fun i o hi e => by rw [List.getElem?_take, if_pos hi]; exact e
  exact ⟨st, ⟨tk _ _ h2.lr g1.m, tk _ _ h2.lc g1.cs, g1.ne, g1.sp⟩, g2⟩
theorem DrawS.ret {S S' : Sto} {r c : Nat} {sp : Int} (h : DrawS S' r c sp) (hr : r < S.len) (hc : c < S.len) : DrawS ⟨S'.objs.take S.len, S.bs, false⟩ r c sp := by
  obtain ⟨st, g1, g2⟩ := h.ex
  have tk : ∀ i o, i < S.len → S'.objs[i]? = some o → (S'.objs.take S.len)[i]? = some o := fun i o hi e => by rw [List.getElem?_take, if_pos hi]; exact e
  exact ⟨st, ⟨tk _ _ hr g1.m, tk _ _ hc g1.cs, g1.ne, g1.sp⟩, g2⟩
end Sw

/-! W6b: sorted of whole numbers; small facts of lists. -/
namespace Sw
open PySem L2 Enc
local macro_rules | `(tactic| simp_arith [$xs,*]) => `(tactic| simp only [↓e_lit, ↓e_var, ↓e_bin, ↓e_cmp, ↓e_chain, ↓e_neg, ↓e_not, ↓e_and, ↓e_or, ↓e_ite, ↓e_tup, ↓e_lst, ↓e_dnewT, ↓e_dnewF, ↓e_ix, ↓e_sl, ↓p_none, ↓p_some, ↓e_call, ↓e_bi, ↓e_isi, ↓e_app, ↓e_pop, ↓e_get, ↓e_rev, ↓e_lenum, ↓e_dispk, ↓op_srcR, ↓op_enumR, ↓op_zipR, turns_live, turns_enumL, turns_zipL, turns_items, turns_enumI, turns_zipI, turns_range, Option.bind_some, Option.elim_some, ↓e_comp, ↓s_wh, ↓a_nil, ↓a_cons, ↓a_star, ↓g_name, ↓g_tup, ↓gs_nil, ↓gs_cons, ↓s_nil, ↓s_cons, ↓s_expr, ↓s_ret, ↓s_asg, ↓s_aug, ↓s_put, ↓s_ite, ↓s_pass, ↓s_brk, ↓s_cont, ↓i_e, ↓i_r1, ↓i_r2, ↓i_enum, ↓i_zip, ↓s_fo, ↓look_z, ↓look_s, ↓tb_bl, ↓ti_int, ↓tr_ref, ↓tt_tup, ↓op_some, ↓to_ok, ↓st_nx, ↓st_rt, ↓st_bk, ↓st_ct, List.set_cons_zero, List.set_cons_succ, boD, coD, biN, aoD, ↓p_addI, ↓p_addT, ↓p_addL, ↓p_sub, ↓p_mul, ↓p_fdiv, ↓p_mod, ↓p_pow, ↓p_iaddI, ↓p_iaddL, ↓p_isub, ↓p_lt, ↓p_gt, ↓p_le, ↓p_ge, ↓p_eq, ↓p_ne, ↓p_in, ↓p_notIn, ↓q_int, ↓p_isNN, ↓p_isTN, ↓p_isIN, ↓p_isRN, ↓p_isntNN, ↓p_isntTN, ↓p_isntIN, ↓p_isntRN, ↓p_isBB, ↓p_isntBB, ↓p_ixT, ↓p_ixR, ↓p_slT, ↓p_slR, ↓p_lenT, ↓p_lenR, ↓p_intI, ↓p_intB, ↓p_min, ↓p_max, ↓p_bl, ↓p_sum, ↓p_tupleT, ↓p_tupleR, ↓p_listT, ↓p_listR, ↓p_app, ↓p_pop0, ↓p_popI, ↓p_get1, ↓p_revT, ↓p_revR, ↓p_isi, ↓op_dput, ↓op_list, src_tup, enum_tup, zip_tup, seqO_lst, seqO_frz, lstO_lst, lenO_lst, lenO_frz, ixO_lst, isLst_lst, seqOf_tup, decide_eq_true_eq, List.length_cons, List.length_nil, Nat.beq, true_and, Nat.reduceAdd, List.getElem?_cons_zero, List.getElem?_cons_succ, get_app0, get_app, set_app0, set_app, List.append_assoc, List.cons_append, List.nil_append, List.length_append, wipeE, ↓op_map, ↓atI_map, atI_0, atI_1, atI_2, atI_3, List.length_map, st_enter, st_add, st_putT, st_len, bw_int, bw_bl, bw_non, bw_str, bw_tup, bws_nil, bws_cons, Enc.flat, flats, Bool.and_true, Bool.and_self, isT_tup, sub_TT, List.any_cons, List.any_nil, Bool.or_false, Bool.not_true, Bool.not_false, if_true, if_false, Bool.false_eq_true, decide_true, decide_false, $xs,*])
theorem fix_next {α : Type} {s : Src} {l : List α} {enc : α → D} {S : Sto} {done rest : List α} (hs : s.Fix (l.map enc)) (e : l = done ++ rest) : s.next S done.length = some (rest.head?.map enc) := by
  rw [hs S _ (by rw [List.length_map, e, List.length_append]; omega), e]; simp [List.getElem?_append_right, List.head?_eq_getElem?]
theorem of_next {α : Type} {s : Src} {l : List α} {enc : α → D} {B L : List O} {bs : List Nat} {t : Bool} {done rest : List α} (hs : s.Of B (l.map enc)) (e : l = done ++ rest) : s.next ⟨B ++ L, bs, t⟩ done.length = some (rest.head?.map enc) := by
  rw [hs _ _ _ _ (by rw [List.length_map, e, List.length_append]; omega), e]; simp [List.getElem?_append_right, List.head?_eq_getElem?]
theorem live_next {α : Type} {n : Nat} {o : O} {l : List α} {enc : α → D} {S : Sto} {done rest : List α} (h : S.objs[n]? = some o) (ho : seqO o = some (l.map enc)) (e : l = done ++ rest) : (Src.live n).next S done.length = some (rest.head?.map enc) := by
  have : S.list? n = some (l.map enc) := by rw [list_at h, ho]
  simp only [Src.next, this, e]
  simp [List.getElem?_append_right, List.head?_eq_getElem?]
theorem range_split {n i : Nat} {done rest : List Nat} (e : List.range n = done ++ i :: rest) : i = done.length ∧ i < n := by
  have h1 : (List.range n)[done.length]? = some i := by rw [e]; simp
  rw [List.getElem?_eq_some_iff] at h1
  obtain ⟨h2, h3⟩ := h1
  simp at h2 h3
  omega
theorem perm_erase {α : Type} : ∀ {l : List α} {k : Nat} {x : α}, l[k]? = some x → List.Perm (x :: l.eraseIdx k) l
  | [], k, x, h => by simp at h
  | a :: l, 0, x, h => by simp at h; subst h; exact List.Perm.refl _
  | a :: l, k + 1, x, h => by
    simp at h
    exact (List.Perm.swap a x _).trans (List.Perm.cons a (perm_erase h))
def insI (x : Int) : List Int → List Int
  | [] => [x]
  | y :: r => if y < x then y :: insI x r else x :: y :: r
def isort : List Int → List Int
  | [] => []
  | x :: r => insI x (isort r)
theorem insI_mem {x z : Int} : ∀ {l : List Int}, z ∈ insI x l ↔ z = x ∨ z ∈ l
  | [] => by simp [insI]
  | y :: r => by
    unfold insI
    split
    · simp only [List.mem_cons, insI_mem (l := r)]
      constructor
      · rintro (h | h | h)
        · exact .inr (.inl h)
        · exact .inl h
        · exact .inr (.inr h)
      · rintro (h | h | h)
        · exact .inr (.inl h)
        · exact .inl h
        · exact .inr (.inr h)
    · simp
theorem isort_mem {z : Int} : ∀ {l : List Int}, z ∈ isort l ↔ z ∈ l
  | [] => by simp [isort]
  | x :: r => by simp only [isort, insI_mem, isort_mem (l := r), List.mem_cons]
theorem insI_low {x : Int} {l : List Int} (h : ∀ y ∈ l, x ≤ y) : insI x l = x :: l := by
  cases l with
  | nil => rfl
  | cons y r =>
    unfold insI
    rw [if_neg]
    have := h y (by simp)
    omega
theorem isort_sorted : ∀ {l : List Int}, l.Pairwise (· < ·) → isort l = l
  | [], _ => rfl
  | x :: r, h => by
    obtain ⟨h1, h2⟩ := List.pairwise_cons.mp h
    rw [isort, isort_sorted h2, insI_low fun y hy => Int.le_of_lt (h1 y hy)]
theorem insI_pw {x : Int} : ∀ {l : List Int}, l.Pairwise (· ≤ ·) → (insI x l).Pairwise (· ≤ ·)
  | [], _ => by simp [insI]
  | y :: r, h => by
    obtain ⟨h1, h2⟩ := List.pairwise_cons.mp h
    unfold insI
    split
    · rename_i hlt
      refine List.pairwise_cons.mpr ⟨fun z hz => ?_, insI_pw h2⟩
      rcases insI_mem.mp hz with e | hz
      · omega
      · exact h1 z hz
    · rename_i hlt
      refine List.pairwise_cons.mpr ⟨fun z hz => ?_, h⟩
      rcases List.mem_cons.mp hz with e | hz
      · omega
      · have := h1 z hz; omega
theorem isort_pw : ∀ l : List Int, (isort l).Pairwise (· ≤ ·)
  | [] => List.Pairwise.nil
  | x :: r => insI_pw (isort_pw r)
theorem insI_length {x : Int} : ∀ l : List Int, (insI x l).length = l.length + 1
  | [] => rfl
  | y :: r => by
    unfold insI
    split
    · simp [insI_length r]
    · simp
theorem isort_length : ∀ l : List Int, (isort l).length = l.length
  | [] => rfl
  | x :: r => by simp [isort, insI_length, isort_length r]
theorem insI_perm {x : Int} : ∀ l : List Int, (insI x l).Perm (x :: l)
  | [] => List.Perm.refl _
  | y :: r => by
    unfold insI
    split
    · exact ((insI_perm r).cons y).trans (List.Perm.swap x y r)
    · exact List.Perm.refl _
theorem isort_perm : ∀ l : List Int, (isort l).Perm l
  | [] => List.Perm.refl _
  | x :: r => (insI_perm _).trans ((isort_perm r).cons x)
theorem resPairs_int {S : Sto} : ∀ l : List Int, resPairs S (l.map enc) = some (l.map fun i => (PyData.int i, D.int i))
  | [] => rfl
  | i :: l => by
    simp only [List.map_cons, resPairs, resPairs_int l, enc_int]
    simp only [Sw.res, resW]
theorem insD_int (x : Int) : ∀ l : List Int, insD (.int x, .int x) (l.map fun i => (PyData.int i, D.int i)) = (insI x l).map fun i => (PyData.int i, D.int i)
  | [] => rfl
  | y :: r => by
    simp only [List.map_cons, insD, PySem.W.dataLt_int, insI]
    by_cases h : y < x <;> simp [h, insD_int x r]
theorem sortL_int : ∀ l : List Int, sortL (l.map fun i => (PyData.int i, D.int i)) = (isort l).map fun i => (PyData.int i, D.int i)
  | [] => rfl
  | x :: r => by simp only [List.map_cons, sortL, sortL_int r, insD_int, isort]
theorem sortOk_int {l : List Int} (h : l.length ≤ 16777216) : sortOk (l.map fun i => (PyData.int i, D.int i)) = true := by
  have hf : fits l.length = true := Nat.ble_eq_true_of_le h
  unfold sortOk
  simp only [List.length_map, hf, Bool.and_true, Bool.and_eq_true, Bool.or_eq_true, List.all_eq_true, List.mem_map]
  refine ⟨⟨?_, .inr ?_⟩, ?_⟩
  · rintro _ ⟨a, _, rfl⟩ _ ⟨b, _, rfl⟩
    simp [PySem.W.alike]
  · rintro _ ⟨a, _, rfl⟩
    simp [isFlatP]
  · rintro _ ⟨a, _, rfl⟩
    simp [PyData.depth]
theorem p_sortI {S : Sto} {n : Nat} {o : O} {l : List Int} {Q : D → Sto → Prop} (h : S.objs[n]? = some o) (ho : seqO o = some (l.map enc)) (hl : l.length ≤ 16777216) : (sortedN [.ref n] S).To Q = Q (.ref S.len) (S.add (.lst ((isort l).map enc))) := by
  have e : S.list? n = some (l.map enc) := by rw [list_at h, ho]
  simp only [sortedN, e, resPairs_int, sortOk_int hl, newL, to_ok, sortL_int, List.map_map]
  rfl
end Sw

/-! W7: layouts; the law's drawn layout. -/
namespace Sw
open PySem L2 Enc
local macro_rules | `(tactic| simp_arith [$xs,*]) => `(tactic| simp only [↓e_lit, ↓e_var, ↓e_bin, ↓e_cmp, ↓e_chain, ↓e_neg, ↓e_not, ↓e_and, ↓e_or, ↓e_ite, ↓e_tup, ↓e_lst, ↓e_dnewT, ↓e_dnewF, ↓e_ix, ↓e_sl, ↓p_none, ↓p_some, ↓e_call, ↓e_bi, ↓e_isi, ↓e_app, ↓e_pop, ↓e_get, ↓e_rev, ↓e_lenum, ↓e_dispk, ↓op_srcR, ↓op_enumR, ↓op_zipR, turns_live, turns_enumL, turns_zipL, turns_items, turns_enumI, turns_zipI, turns_range, Option.bind_some, Option.elim_some, ↓e_comp, ↓s_wh, ↓a_nil, ↓a_cons, ↓a_star, ↓g_name, ↓g_tup, ↓gs_nil, ↓gs_cons, ↓s_nil, ↓s_cons, ↓s_expr, ↓s_ret, ↓s_asg, ↓s_aug, ↓s_put, ↓s_ite, ↓s_pass, ↓s_brk, ↓s_cont, ↓i_e, ↓i_r1, ↓i_r2, ↓i_enum, ↓i_zip, ↓s_fo, ↓look_z, ↓look_s, ↓tb_bl, ↓ti_int, ↓tr_ref, ↓tt_tup, ↓op_some, ↓to_ok, ↓st_nx, ↓st_rt, ↓st_bk, ↓st_ct, List.set_cons_zero, List.set_cons_succ, boD, coD, biN, aoD, ↓p_addI, ↓p_addT, ↓p_addL, ↓p_sub, ↓p_mul, ↓p_fdiv, ↓p_mod, ↓p_pow, ↓p_iaddI, ↓p_iaddL, ↓p_isub, ↓p_lt, ↓p_gt, ↓p_le, ↓p_ge, ↓p_eq, ↓p_ne, ↓p_in, ↓p_notIn, ↓q_int, ↓p_isNN, ↓p_isTN, ↓p_isIN, ↓p_isRN, ↓p_isntNN, ↓p_isntTN, ↓p_isntIN, ↓p_isntRN, ↓p_isBB, ↓p_isntBB, ↓p_ixT, ↓p_ixR, ↓p_slT, ↓p_slR, ↓p_lenT, ↓p_lenR, ↓p_intI, ↓p_intB, ↓p_min, ↓p_max, ↓p_bl, ↓p_sum, ↓p_tupleT, ↓p_tupleR, ↓p_listT, ↓p_listR, ↓p_app, ↓p_pop0, ↓p_popI, ↓p_get1, ↓p_revT, ↓p_revR, ↓p_isi, ↓op_dput, ↓op_list, src_tup, enum_tup, zip_tup, seqO_lst, seqO_frz, lstO_lst, lenO_lst, lenO_frz, ixO_lst, isLst_lst, seqOf_tup, decide_eq_true_eq, List.length_cons, List.length_nil, Nat.beq, true_and, Nat.reduceAdd, List.getElem?_cons_zero, List.getElem?_cons_succ, get_app0, get_app, set_app0, set_app, List.append_assoc, List.cons_append, List.nil_append, List.length_append, wipeE, ↓op_map, ↓atI_map, atI_0, atI_1, atI_2, atI_3, List.length_map, st_enter, st_add, st_putT, st_len, bw_int, bw_bl, bw_non, bw_str, bw_tup, bws_nil, bws_cons, Enc.flat, flats, Bool.and_true, Bool.and_self, isT_tup, sub_TT, List.any_cons, List.any_nil, Bool.or_false, Bool.not_true, Bool.not_false, if_true, if_false, Bool.false_eq_true, decide_true, decide_false, $xs,*])
abbrev End := Int × Int
structure Lay where
  lens : List Int
  joints : List (End × List (End × Int))
  feeds : List (Int × Int)
def Lay.d (y : Lay) : D := .tup [enc y.lens, enc y.joints, enc y.feeds]
def endsOf (j : End × List (End × Int)) : List End := j.1 :: j.2.map (·.1)
def allEnds (js : List (End × List (End × Int))) : List End := js.flatMap endsOf
def isBit (i : Int) : Prop := i = 0 ∨ i = 1
structure Lay.Ok (y : Lay) : Prop where
  n1 : 1 ≤ y.lens.length
  n10 : y.lens.length ≤ 10
  ln : ∀ x ∈ y.lens, 2 ≤ x ∧ x ≤ 9
  jn : y.joints.length ≤ 10
  b1 : ∀ j ∈ y.joints, 1 ≤ j.2.length ∧ j.2.length ≤ 3
  bc : ∀ j ∈ y.joints, ∀ b ∈ j.2, isBit b.2
  en : ∀ e ∈ allEnds y.joints, 0 ≤ e.1 ∧ e.1 < y.lens.length ∧ isBit e.2
  nd : (allEnds y.joints).Nodup
  fa : y.feeds.Pairwise fun a b => a.1 < b.1
  fi : ∀ f ∈ y.feeds, 0 ≤ f.1 ∧ f.1 < y.lens.length ∧ isBit f.2
def lyFor (iD : Nat) : Ts := (.cons (.asg (.meth .pop (.var 6) (.cons (.call iD (.cons (.var 0) (.cons (.bi .len (.cons (.var 6) .nil)) .nil))) .nil)) (.name 13)) (.cons (.expr (.meth .append (.var 12) (.cons (.tup (.cons (.var 13) (.cons (.bi .int (.cons (.and (.cmp .gt (.var 2) (.lit (.int 0))) (.cmp .eq (.call iD (.cons (.var 0) (.cons (.var 2) .nil))) (.lit (.int 0)))) .nil)) .nil))) .nil))) .nil))
def lyC (iD : Nat) : E := (.and (.cmp .gt (.bi .len (.cons (.var 6) .nil)) (.lit (.int 1))) (.cmp .gt (.call iD (.cons (.var 0) (.cons (.lit (.int 9)) .nil))) (.lit (.int 0))))
def lyW (iD iO : Nat) : Ts := (.cons (.asg (.call iO (.cons (.var 0) (.cons (.lst (.cons (.lit (.int 1)) (.cons (.lit (.int 1)) (.cons (.lit (.int 2)) (.cons (.lit (.int 2)) (.cons (.lit (.int 3)) .nil)))))) .nil))) (.name 10)) (.cons (.asg (.tup (.cons (.meth .pop (.var 6) (.cons (.call iD (.cons (.var 0) (.cons (.bi .len (.cons (.var 6) .nil)) .nil))) .nil)) (.cons (.lst .nil) .nil))) (.tup 2 (.cons (.name 11) (.cons (.name 12) .nil)))) (.cons (.fo (.range1 (.cons (.bi .min (.cons (.var 10) (.cons (.bi .len (.cons (.var 6) .nil)) .nil))) .nil)) (.name 7) (lyFor iD)) (.cons (.expr (.meth .append (.var 8) (.cons (.tup (.cons (.var 11) (.cons (.bi .tuple (.cons (.var 12) .nil)) .nil))) .nil))) .nil))))
def layoutB (iD iO : Nat) : Ts := (.cons (.asg (.bin .add (.lit (.int 1)) (.call iD (.cons (.var 0) (.cons (.var 1) .nil)))) (.name 4)) (.cons (.asg (.bi .tuple (.cons (.comp (.range1 (.cons (.var 4) .nil)) [7] (.name 7) (.lit (.bl true)) (.bin .add (.lit (.int 2)) (.call iO (.cons (.var 0) (.cons (.lst (.cons (.lit (.int 0)) (.cons (.lit (.int 0)) (.cons (.lit (.int 1)) (.cons (.lit (.int 2)) (.cons (.lit (.int 7)) .nil)))))) .nil))))) .nil)) (.name 5)) (.cons (.asg (.lst .nil) (.name 6)) (.cons (.fo (.range1 (.cons (.var 4) .nil)) (.name 7) (.cons (.asg (.bin .add (.var 6) (.lst (.cons (.tup (.cons (.var 7) (.cons (.lit (.int 0)) .nil))) (.cons (.tup (.cons (.var 7) (.cons (.lit (.int 1)) .nil))) .nil)))) (.name 6)) .nil)) (.cons (.asg (.lst .nil) (.name 8)) (.cons (.wh 200 (lyC iD) (lyW iD iO)) (.cons (.asg (.bi .sorted (.cons (.comp (.range1 (.cons (.var 4) .nil)) [7] (.name 7) (.cmp .lt (.call iD (.cons (.var 0) (.cons (.var 4) .nil))) (.var 3)) (.var 7)) .nil)) (.name 9)) (.cons (.ret (.tup (.cons (.var 5) (.cons (.bi .tuple (.cons (.var 8) .nil)) (.cons (.bi .tuple (.cons (.comp (.e (.sl (.var 9) .none (.some (.var 3)))) [7] (.name 7) (.lit (.bl true)) (.tup (.cons (.var 7) (.cons (.call iD (.cons (.var 0) (.cons (.lit (.int 2)) .nil))) .nil)))) .nil)) .nil))))) .nil))))))))
def SpLayout (f : Fn) : Prop := ∀ (S : Sto) (r c : Nat) (sp most cuts feeds : Int), S.dirty = false → DrawS S r c sp → sp < 2 ^ 58 → 1 ≤ most → most ≤ 10 → 0 ≤ cuts → cuts < 1000 → 0 ≤ feeds → feeds < 1000 →
  (f [.ref r, .int most, .int cuts, .int feeds] S).To fun d S' => ∃ y : Lay, d = y.d ∧ y.Ok ∧ y.lens.length ≤ most ∧ S'.len = S.len ∧ Kp [r] S S' ∧ DrawS S' r c (sp + 1000)
/-- ends that are all unlike, and right for so many pieces -/
structure EndsOk (tot : Nat) (l : List End) : Prop where
  nd : l.Nodup
  en : ∀ e ∈ l, 0 ≤ e.1 ∧ e.1 < tot ∧ isBit e.2
theorem EndsOk.perm {tot : Nat} {l l' : List End} (h : EndsOk tot l) (p : l.Perm l') : EndsOk tot l' := ⟨p.nodup h.nd, fun e he => h.en e (p.mem_iff.mpr he)⟩
def startEnds (tot : Nat) : List End := (List.range tot).flatMap fun (k : Nat) => [((k : Int), (0 : Int)), ((k : Int), 1)]
theorem startEnds_succ (n : Nat) : startEnds (n + 1) = startEnds n ++ [((n : Int), 0), ((n : Int), 1)] := by
  simp [startEnds, List.range_succ, List.flatMap_append]
theorem startEnds_len : ∀ n : Nat, (startEnds n).length = 2 * n
  | 0 => rfl
  | n + 1 => by rw [startEnds_succ, List.length_append, startEnds_len n]; simp; omega
theorem startEnds_ok : ∀ n : Nat, EndsOk n (startEnds n)
  | 0 => ⟨List.Pairwise.nil, fun _ h => nomatch h⟩
  | n + 1 => by
    have ih := startEnds_ok n
    rw [startEnds_succ]
    refine ⟨List.nodup_append.mpr ⟨ih.nd, by simp, fun a ha b hb e => ?_⟩, fun e he => ?_⟩
    · subst e
      have := (ih.en a ha).2.1
      simp only [List.mem_cons, List.not_mem_nil, or_false] at hb
      rcases hb with rfl | rfl <;> simp at this
    · rcases List.mem_append.mp he with he | he
      · have := ih.en e he; exact ⟨this.1, by omega, this.2.2⟩
      · simp only [List.mem_cons, List.not_mem_nil, or_false] at he
        rcases he with rfl | rfl
        · exact ⟨by simp, by simp; omega, .inl rfl⟩
        · exact ⟨by simp, by simp; omega, .inr rfl⟩
theorem erase_map {α β : Type} (f : α → β) : ∀ (l : List α) (k : Nat), (l.map f).eraseIdx k = (l.eraseIdx k).map f
  | [], k => by simp
  | a :: l, 0 => by simp
  | a :: l, k + 1 => by simp [erase_map f l k]
theorem pop_at {S : Sto} {n : Nat} {l : List End} {v : Int} {Q : D → Sto → Prop} (h : S.objs[n]? = some (.lst (l.map enc))) (h0 : 0 ≤ v) (h1 : v < l.length) (hl : l.length ≤ 1000)
    (q : ∀ e k, l[k]? = some e → Q (enc e) (S.put n (.lst ((l.eraseIdx k).map enc)) true)) : (popM n [.int v] S).To Q := by
  rw [p_popI, h, op_some, lstO_lst, op_some]
  have hk : v.toNat < l.length := by omega
  refine ⟨by simp; omega, ?_⟩
  have e1 : seqIndex? v (l.map enc).length = some v.toNat := by
    unfold seqIndex?
    have : ¬ v < 0 := by omega
    simp [this, h0, h1]
  rw [e1, op_some, List.getElem?_map, List.getElem?_eq_getElem hk]
  simp only [Option.map_some, op_some]
  have := q l[v.toNat] v.toNat (List.getElem?_eq_getElem hk)
  rw [erase_map]
  exact this
/-- the inner loop: branches are drawn -/
theorem ly_for (F : Nat → Fn) (iD : Nat) (hD : SpDraw (F iD)) {S0 : Sto} {r c nl nb tot many : Nat} {sp cuts : Int} {A left : List End} {ρ : En} {S : Sto} {k : Ks} {d1 d3 d4 d5 d7 d8 d9 d10 d11 d13 : Option D}
    (hρ : ρ = [some (.ref r), d1, some (.int cuts), d3, d4, d5, some (.ref nl), d7, d8, d9, d10, d11, some (.ref nb), d13]) (hm : many ≤ left.length) (hll : left.length ≤ 100)
    (kp : Kp [r, nl, nb] S0 S) (ds : DrawS S r c sp) (h1 : S.objs[nl]? = some (.lst (left.map enc))) (h2 : S.objs[nb]? = some (.lst [])) (hE : EndsOk tot (A ++ left)) (hsp : sp < 2 ^ 58 + 2 ^ 50) (hc0 : 0 ≤ cuts) (hc1 : cuts < 1000) (hm3 : many ≤ 100)
    (hnn : nl ≠ nb) (hc2 : c ≠ nl) (hc3 : c ≠ nb) (hr3 : r ≠ nb)
    (fin : ∀ (br : List (End × Int)) (left' : List End) (S' : Sto) (e7 e13 : Option D), br.length = many → (∀ b ∈ br, isBit b.2) → left'.length + many = left.length → EndsOk tot (A ++ br.map (·.1) ++ left') → Kp [r, nl, nb] S0 S' → DrawS S' r c (sp + 2 * many) → S'.objs[nl]? = some (.lst (left'.map enc)) → S'.objs[nb]? = some (.lst (br.map enc)) →
      k.nx [some (.ref r), d1, some (.int cuts), d3, d4, d5, some (.ref nl), e7, d8, d9, d10, d11, some (.ref nb), e13] S') :
    (svFor (.range 0 many) (gv (.name 7)) (svs F (lyFor iD)) (many + 1) 0 ρ S).To k := by
  subst hρ
  obtain ⟨I, hI⟩ : ∃ I : List Nat → En → Sto → Prop, ∀ done ρ S, I done ρ S ↔ ∃ (br : List (End × Int)) (left' : List End) (e7 e13 : Option D), ρ = [some (.ref r), d1, some (.int cuts), d3, d4, d5, some (.ref nl), e7, d8, d9, d10, d11, some (.ref nb), e13] ∧ br.length = done.length ∧ (∀ b ∈ br, isBit b.2) ∧ left'.length + done.length = left.length ∧ EndsOk tot (A ++ br.map (·.1) ++ left') ∧ Kp [r, nl, nb] S0 S ∧ DrawS S r c (sp + 2 * done.length) ∧ S.objs[nl]? = some (.lst (left'.map enc)) ∧ S.objs[nb]? = some (.lst (br.map enc)) := ⟨_, fun _ _ _ => Iff.rfl⟩
  refine for_fix (l := List.range many) (enc := fun i => D.int (0 + (i : Nat))) (s := .range 0 many) (by simpa using fix_range (lo := 0) (n := many)) (by simp) I
    ((hI _ _ _).mpr ⟨[], left, d7, d13, rfl, rfl, by simp, rfl, by simpa using hE, kp, by simpa using ds, h1, h2⟩) (fun done i rest ρ S e h => ?_) (fun ρ S h => ?_)
  · obtain ⟨br, left', e7, e13, a1, a2, a3, a4, a5, a6, a7, a8, a9⟩ := (hI _ _ _).mp h
    obtain ⟨hi, him⟩ := range_split e
    subst a1
    have hpos : 0 < left'.length := by omega
    simp only [lyFor]
    simp_arith [a8]
    refine (hD S r c _ _ a6.cl a7 (by omega) (by omega) (by omega)).mono fun d S1 ⟨v, q1, q2, q3, q4, q5, q6⟩ => ?_
    subst q1
    have hnl := a7.ne a8
    have hnb := a7.ne a9
    refine pop_at (q5.at a8 (by simpa using hnl)) q2 q3 (by omega) fun en kk hek => ?_
    have c1 : (S1.put nl (.lst ((left'.eraseIdx kk).map enc)) true).dirty = false := q5.cl
    have d1' : DrawS (S1.put nl (.lst ((left'.eraseIdx kk).map enc)) true) r c (sp + 2 * done.length + 1) := q6.keep (W := [nl]) (Kp.put c1 (.inl (by simp))) (by simpa [eq_comm] using hnl) (by simpa using hc2)
    have b1 : (S1.put nl (.lst ((left'.eraseIdx kk).map enc)) true).objs[nb]? = some (.lst (br.map enc)) := by
      rw [put_ne hnn]; exact q5.at a9 (by simpa using hnb)
    have l1 : (S1.put nl (.lst ((left'.eraseIdx kk).map enc)) true).objs[nl]? = some (.lst ((left'.eraseIdx kk).map enc)) := put_at (q5.at a8 (by simpa using hnl))
    have k1 : Kp [r, nl, nb] S0 (S1.put nl (.lst ((left'.eraseIdx kk).map enc)) true) := (a6.trans (q5.mono (by simp))).trans (Kp.put c1 (.inl (by simp)))
    revert c1 d1' b1 l1 k1
    generalize (S1.put nl (.lst ((left'.eraseIdx kk).map enc)) true) = S2
    intro c1 d1' b1 l1 k1
    simp_arith [b1, ↓isLst_lst]
    -- behind the draw of the cut
    have go : ∀ (S3 : Sto) (t : Int), isBit t → S3.objs[nb]? = some (.lst (br.map enc)) → S3.objs[nl]? = some (.lst ((left'.eraseIdx kk).map enc)) → Kp [r, nl, nb] S0 S3 → DrawS S3 r c (sp + 2 * done.length + 2) →
        I (done ++ [i]) [some (D.ref r), d1, some (D.int cuts), d3, d4, d5, some (D.ref nl), some (D.int (0 + (i : Nat))), d8, d9, d10, d11, some (D.ref nb), some (enc en)] (S3.put nb (.lst (br.map enc ++ [.tup [enc en, .int t]])) true) := fun S3 t ht g1 g2 g3 g4 => by
      have c3 : (S3.put nb (.lst (br.map enc ++ [.tup [enc en, .int t]])) true).dirty = false := g3.cl
      have hle := List.length_eraseIdx_of_lt (List.getElem?_eq_some_iff.mp hek).1
      refine (hI _ _ _).mpr ⟨br ++ [(en, t)], left'.eraseIdx kk, _, _, rfl, by simp [a2], fun b hb => ?_, by simp; omega, ?_, g3.trans (Kp.put c3 (.inl (by simp))), ?_, ?_, ?_⟩
      · rcases List.mem_append.mp hb with hb | hb
        · exact a3 b hb
        · simp only [List.mem_singleton] at hb
          subst hb
          exact ht
      · refine a5.perm ?_
        have p := perm_erase hek
        rw [List.perm_iff_count] at p ⊢
        intro x
        have := p x
        simp only [List.count_append, List.map_append, List.map_cons, List.map_nil, List.count_cons, List.count_nil] at this ⊢
        omega
      · refine (g4.keep (W := [nb]) (Kp.put c3 (.inl (by simp))) (by simpa using hr3) (by simpa using hc3)).mono ?_
        simp; omega
      · rw [put_ne (Ne.symm hnn)]; exact g2
      · rw [put_at g1]; simp [enc_prod, enc_int]
    have hfit : fits (br.length + 1) = true := Nat.ble_eq_true_of_le (by omega)
    by_cases hcut : 0 < cuts
    · rw [if_pos hcut]
      refine (hD S2 r c _ cuts c1 d1' (by omega) hcut (by omega)).mono fun d S3 ⟨w, w1, w2, w3, w4, w5, w6⟩ => ?_
      subst w1
      have b3 := w5.at b1 (by simpa using hnb)
      simp_arith [b3]
      exact ⟨rfl, hfit, go S3 _ (by by_cases hw : w = 0 <;> simp [hw, isBit]) b3 (w5.at l1 (by simpa using hnl)) (k1.trans (w5.mono (by simp))) (w6.mono (by omega))⟩
    · rw [if_neg hcut]
      exact ⟨rfl, hfit, go S2 _ (.inl rfl) b1 l1 k1 (d1'.mono (by omega))⟩
  · obtain ⟨br, left', e7, e13, a1, a2, a3, a4, a5, a6, a7, a8, a9⟩ := (hI _ _ _).mp h
    subst a1
    simp only [List.length_range] at a2 a4 a7
    exact fin br left' S e7 e13 a2 a3 a4 a5 a6 a7 a8 a9
end Sw

/-! W7b: the law's drawn layout, whole. -/
namespace Sw
open PySem L2 Enc
local macro_rules | `(tactic| simp_arith [$xs,*]) => `(tactic| simp only [↓e_lit, ↓e_var, ↓e_bin, ↓e_cmp, ↓e_chain, ↓e_neg, ↓e_not, ↓e_and, ↓e_or, ↓e_ite, ↓e_tup, ↓e_lst, ↓e_dnewT, ↓e_dnewF, ↓e_ix, ↓e_sl, ↓p_none, ↓p_some, ↓e_call, ↓e_bi, ↓e_isi, ↓e_app, ↓e_pop, ↓e_get, ↓e_rev, ↓e_lenum, ↓e_dispk, ↓op_srcR, ↓op_enumR, ↓op_zipR, turns_live, turns_enumL, turns_zipL, turns_items, turns_enumI, turns_zipI, turns_range, Option.bind_some, Option.elim_some, ↓e_comp, ↓s_wh, ↓a_nil, ↓a_cons, ↓a_star, ↓g_name, ↓g_tup, ↓gs_nil, ↓gs_cons, ↓s_nil, ↓s_cons, ↓s_expr, ↓s_ret, ↓s_asg, ↓s_aug, ↓s_put, ↓s_ite, ↓s_pass, ↓s_brk, ↓s_cont, ↓i_e, ↓i_r1, ↓i_r2, ↓i_enum, ↓i_zip, ↓s_fo, ↓look_z, ↓look_s, ↓tb_bl, ↓ti_int, ↓tr_ref, ↓tt_tup, ↓op_some, ↓to_ok, ↓st_nx, ↓st_rt, ↓st_bk, ↓st_ct, List.set_cons_zero, List.set_cons_succ, boD, coD, biN, aoD, ↓p_addI, ↓p_addT, ↓p_addL, ↓p_sub, ↓p_mul, ↓p_fdiv, ↓p_mod, ↓p_pow, ↓p_iaddI, ↓p_iaddL, ↓p_isub, ↓p_lt, ↓p_gt, ↓p_le, ↓p_ge, ↓p_eq, ↓p_ne, ↓p_in, ↓p_notIn, ↓q_int, ↓p_isNN, ↓p_isTN, ↓p_isIN, ↓p_isRN, ↓p_isntNN, ↓p_isntTN, ↓p_isntIN, ↓p_isntRN, ↓p_isBB, ↓p_isntBB, ↓p_ixT, ↓p_ixR, ↓p_slT, ↓p_slR, ↓p_lenT, ↓p_lenR, ↓p_intI, ↓p_intB, ↓p_min, ↓p_max, ↓p_bl, ↓p_sum, ↓p_tupleT, ↓p_tupleR, ↓p_listT, ↓p_listR, ↓p_app, ↓p_pop0, ↓p_popI, ↓p_get1, ↓p_revT, ↓p_revR, ↓p_isi, ↓op_dput, ↓op_list, src_tup, enum_tup, zip_tup, seqO_lst, seqO_frz, lstO_lst, lenO_lst, lenO_frz, ixO_lst, isLst_lst, seqOf_tup, decide_eq_true_eq, List.length_cons, List.length_nil, Nat.beq, true_and, Nat.reduceAdd, List.getElem?_cons_zero, List.getElem?_cons_succ, get_app0, get_app, set_app0, set_app, List.append_assoc, List.cons_append, List.nil_append, List.length_append, wipeE, ↓op_map, ↓atI_map, atI_0, atI_1, atI_2, atI_3, List.length_map, st_enter, st_add, st_putT, st_len, bw_int, bw_bl, bw_non, bw_str, bw_tup, bws_nil, bws_cons, Enc.flat, flats, Bool.and_true, Bool.and_self, isT_tup, sub_TT, List.any_cons, List.any_nil, Bool.or_false, Bool.not_true, Bool.not_false, if_true, if_false, Bool.false_eq_true, decide_true, decide_false, $xs,*])
theorem allEnds_append (js : List (End × List (End × Int))) (j : End × List (End × Int)) : allEnds (js ++ [j]) = allEnds js ++ (j.1 :: j.2.map (·.1)) := by
  simp [allEnds, endsOf, List.flatMap_append]
/-- the while loop: joints are drawn -/
theorem ly_while (F : Nat → Fn) (iD iO : Nat) (hD : SpDraw (F iD)) (hO : SpOf (F iO)) {S0 : Sto} {r c nl nj tot : Nat} {sp cuts : Int} {left : List End} {ρ : En} {S : Sto} {k : Ks} {d1 d3 d4 d5 d7 d9 d10 d11 d12 d13 : Option D}
    (hρ : ρ = [some (.ref r), d1, some (.int cuts), d3, d4, d5, some (.ref nl), d7, some (.ref nj), d9, d10, d11, d12, d13]) (hll : left.length ≤ 20)
    (kp : Kp [r, nl, nj] S0 S) (ds : DrawS S r c sp) (h1 : S.objs[nl]? = some (.lst (left.map enc))) (h2 : S.objs[nj]? = some (.lst [])) (hE : EndsOk tot left) (hsp : sp < 2 ^ 58 + 2 ^ 40) (hc0 : 0 ≤ cuts) (hc1 : cuts < 1000)
    (hnn : nl ≠ nj) (hc2 : c ≠ nl) (hc3 : c ≠ nj) (hr3 : r ≠ nj) (hcS : c < S0.len)
    (fin : ∀ (js : List (End × List (End × Int))) (left' : List End) (S' : Sto) (e7 e10 e11 e12 e13 : Option D), 2 * js.length ≤ 20 → (∀ j ∈ js, 1 ≤ j.2.length ∧ j.2.length ≤ 3) → (∀ j ∈ js, ∀ b ∈ j.2, isBit b.2) → EndsOk tot (allEnds js ++ left') → Kp [r, nl, nj] S0 S' → DrawS S' r c (sp + 200) → S'.objs[nj]? = some (.lst (js.map enc)) →
      k.nx [some (.ref r), d1, some (.int cuts), d3, d4, d5, some (.ref nl), e7, some (.ref nj), d9, e10, e11, e12, e13] S') :
    (svWhile (ev F (lyC iD)) (svs F (lyW iD iO)) 200 ρ S).To k := by
  subst hρ
  obtain ⟨I, hI⟩ : ∃ I : Nat → En → Sto → Prop, ∀ n ρ S, I n ρ S ↔ ∃ (js : List (End × List (End × Int))) (left' : List End) (e7 e10 e11 e12 e13 : Option D), ρ = [some (.ref r), d1, some (.int cuts), d3, d4, d5, some (.ref nl), e7, some (.ref nj), d9, e10, e11, e12, e13] ∧ left'.length ≤ n ∧ 2 * js.length + left'.length ≤ 20 ∧ (∀ j ∈ js, 1 ≤ j.2.length ∧ j.2.length ≤ 3) ∧ (∀ j ∈ js, ∀ b ∈ j.2, isBit b.2) ∧ EndsOk tot (allEnds js ++ left') ∧ Kp [r, nl, nj] S0 S ∧ DrawS S r c (sp + 10 * js.length) ∧ S.objs[nl]? = some (.lst (left'.map enc)) ∧ S.objs[nj]? = some (.lst (js.map enc)) := ⟨_, fun _ _ _ => Iff.rfl⟩
  refine while_go I (fun n ρ S h => ?_) 200 20 _ _ (by omega) ((hI _ _ _).mpr ⟨[], left, _, _, _, _, _, rfl, hll, by simpa using hll, by simp, by simp, by simpa [allEnds] using hE, kp, by simpa using ds, h1, h2⟩)
  obtain ⟨js, left', e7, e10, e11, e12, e13, a1, a2, a3, a4, a5, a6, a7, a8, a9, a10⟩ := (hI _ _ _).mp h
  subst a1
  simp only [lyC]
  simp_arith [a9]
  by_cases hlen : (1 : Int) < left'.length
  · rw [if_pos hlen]
    refine (hD S r c _ 9 a7.cl a8 (by omega) (by omega) (by omega)).mono fun d S1 ⟨v, q1, q2, q3, q4, q5, q6⟩ => ?_
    subst q1
    simp_arith [p_gt]
    have hnl := a8.ne a9
    have hnj := a8.ne a10
    have l1 := q5.at a9 (by simpa using hnl)
    have j1 := q5.at a10 (by simpa using hnj)
    have k1 := a7.trans (q5.mono (W' := [r, nl, nj]) (by simp))
    by_cases hv : 0 < v
    · rw [if_pos hv]
      refine ⟨left'.length - 1 + (n - left'.length), by omega, ?_⟩
      simp only [lyW]
      simp_arith [Nat.reduceAdd]
      refine ⟨rfl, ?_⟩
      have cl1 := q5.cl
      refine (hO (S1.add (.lst [.int 1, .int 1, .int 2, .int 2, .int 3])) r c S1.len _ _ cl1 (q6.keep (Kp.add (W := []) cl1) (by simp) (by simp)) (by omega) add_new (by simp) (by simp) (by simp [bw_int])).mono fun d S2 ⟨w1, w2, w3, w4⟩ => ?_
      have : ∃ w : Int, d = .int w ∧ 1 ≤ w ∧ w ≤ 3 := by
        simp only [List.mem_cons, List.not_mem_nil, or_false] at w1
        rcases w1 with rfl | rfl | rfl | rfl | rfl
        · exact ⟨_, rfl, by decide, by decide⟩
        · exact ⟨_, rfl, by decide, by decide⟩
        · exact ⟨_, rfl, by decide, by decide⟩
        · exact ⟨_, rfl, by decide, by decide⟩
        · exact ⟨_, rfl, by decide, by decide⟩
      obtain ⟨many, rfl, m1, m2⟩ := this
      have l2 := w3.at (add_at (o' := .lst [.int 1, .int 1, .int 2, .int 2, .int 3]) l1) (by simpa using hnl)
      have j2 := w3.at (add_at (o' := .lst [.int 1, .int 1, .int 2, .int 2, .int 3]) j1) (by simpa using hnj)
      have k2 := (k1.trans (Kp.add (o := .lst [.int 1, .int 1, .int 2, .int 2, .int 3]) cl1)).trans (w3.mono (W' := [r, nl, nj]) (by simp))
      simp_arith [l2]
      refine (hD S2 r c _ _ k2.cl w4 (by omega) (by omega) (by omega)).mono fun d S3 ⟨u, u1, u2, u3, u4, u5, u6⟩ => ?_
      subst u1
      have l3 := u5.at l2 (by simpa using hnl)
      refine pop_at l3 u2 u3 (by omega) fun stem kk hek => ?_
      have c4 : (S3.put nl (.lst ((left'.eraseIdx kk).map enc)) true).dirty = false := u5.cl
      have dd4 : DrawS (S3.put nl (.lst ((left'.eraseIdx kk).map enc)) true) r c (sp + 10 * js.length + 1 + 1 + 1) := u6.keep (W := [nl]) (Kp.put c4 (.inl (by simp))) (by simpa [eq_comm] using hnl) (by simpa using hc2)
      have j4 : (S3.put nl (.lst ((left'.eraseIdx kk).map enc)) true).objs[nj]? = some (.lst (js.map enc)) := by
        rw [put_ne hnn]; exact u5.at j2 (by simpa using hnj)
      have l4 : (S3.put nl (.lst ((left'.eraseIdx kk).map enc)) true).objs[nl]? = some (.lst ((left'.eraseIdx kk).map enc)) := put_at l3
      have k4 : Kp [r, nl, nj] S0 (S3.put nl (.lst ((left'.eraseIdx kk).map enc)) true) := (k2.trans (u5.mono (by simp))).trans (Kp.put c4 (.inl (by simp)))
      revert c4 dd4 j4 l4 k4
      generalize (S3.put nl (.lst ((left'.eraseIdx kk).map enc)) true) = S4
      intro c4 dd4 j4 l4 k4
      have hle := List.length_eraseIdx_of_lt (List.getElem?_eq_some_iff.mp hek).1
      generalize hleft2 : left'.eraseIdx kk = left2 at hle l4
      have hl2 : left2.length = left'.length - 1 := hle
      have l5 : (S4.add (.lst [])).objs[nl]? = some (.lst (left2.map enc)) := add_at l4
      have j5 : (S4.add (.lst [])).objs[nj]? = some (.lst (js.map enc)) := add_at j4
      simp_arith [l5]
      have hlt := lt_of_at l4
      have hjt := lt_of_at j4
      generalize hmin : (if (left2.length : Int) < many then (left2.length : Int) else many) = mm
      have hmm : 1 ≤ mm ∧ mm ≤ 3 ∧ mm ≤ left2.length := by
        rw [← hmin]
        split <;> omega
      refine ⟨rfl, rfl, by simp only [okR, Bool.and_eq_true, decide_eq_true_eq]; omega, ?_⟩
      have hS4 : S0.len ≤ S4.len := k4.len
      refine ly_for F iD hD (S0 := S4) (c := c) (tot := tot) (sp := sp + 10 * js.length + 1 + 1 + 1) (A := allEnds js ++ [stem]) (left := left2) (many := mm.toNat) (nb := S4.len) rfl (by omega) (by omega) (Kp.add c4) (dd4.keep (Kp.add (W := []) c4) (by simp) (by simp)) l5 add_new ?_ (by omega) hc0 hc1 (by omega) (by omega) hc2 (by omega) (by have := dd4.lr; omega) ?_
      · refine a6.perm ?_
        have p := perm_erase hek
        rw [hleft2] at p
        rw [List.perm_iff_count] at p ⊢
        intro x
        have := p x
        simp only [List.count_append, List.count_cons, List.count_nil] at this ⊢
        omega
      · intro br left3 S5 f7 f13 g1 g2 g3 g4 g5 g6 g7 g8
        have hnb : (S4.len) ∉ [r, nl, nj] := by
          simp only [List.mem_cons, List.not_mem_nil, or_false]
          have := dd4.lr
          omega
        have j6 : S5.objs[nj]? = some (.lst (js.map enc)) := g5.at j4 (by
          simp only [List.mem_cons, List.not_mem_nil, or_false]
          omega)
        simp_arith [j6, g8, ↓isLst_lst]
        have c6 : (S5.put nj (.lst (js.map enc ++ [.tup [enc stem, .tup (br.map enc)]])) true).dirty = false := g5.cl
        refine ⟨rfl, Nat.ble_eq_true_of_le (by omega), (hI _ _ _).mpr ⟨js ++ [(stem, br)], left3, _, _, _, _, _, rfl, by omega, by simp; omega, ?_, ?_, ?_, ?_, ?_, ?_, ?_⟩⟩
        · intro j hj
          rcases List.mem_append.mp hj with hj | hj
          · exact a4 j hj
          · simp only [List.mem_singleton] at hj
            subst hj
            simp only [g1]
            omega
        · intro j hj
          rcases List.mem_append.mp hj with hj | hj
          · exact a5 j hj
          · simp only [List.mem_singleton] at hj
            subst hj
            exact g2
        · rw [allEnds_append]
          simpa using g4
        · have k5 : Kp [r, nl, nj] S0 S5 := ⟨Nat.le_trans hS4 g5.len, fun i hi hw => (g5.get i (Nat.lt_of_lt_of_le hi hS4) (by
            simp only [List.mem_cons, List.not_mem_nil, or_false] at hw ⊢
            omega)).trans (k4.get i hi hw), g5.bs.trans k4.bs, g5.cl⟩
          exact k5.trans (Kp.put c6 (.inl (by simp)))
        · refine (g6.keep (W := [nj]) (Kp.put c6 (.inl (by simp))) (by simpa using hr3) (by simpa using hc3)).mono ?_
          simp
          omega
        · rw [put_ne (Ne.symm hnn)]; exact g7
        · rw [put_at j6]; simp [enc_prod, enc_list]
    · rw [if_neg hv]
      exact fin js left' S1 _ _ _ _ _ (by omega) a4 a5 a6 k1 (q6.mono (by omega)) j1
  · rw [if_neg hlen]
    exact fin js left' S _ _ _ _ _ (by omega) a4 a5 a6 a7 (a8.mono (by omega)) a10
theorem spLayout (F : Nat → Fn) (iD iO : Nat) (hD : SpDraw (F iD)) (hO : SpOf (F iO)) : SpLayout (fnSem 14 4 (svs F (layoutB iD iO))) := fun S r c sp most cuts feeds h1 h2 h3 h4 h5 h6 h7 h8 h9 => by
  refine fn_to rfl ?_
  generalize hQ : (fun (d : D) (S' : Sto) => ∃ y : Lay, d = y.d ∧ y.Ok ∧ (y.lens.length : Int) ≤ most ∧ S'.len = S.len ∧ Kp [r] S S' ∧ DrawS S' r c (sp + 1000)) = Q
  simp only [layoutB, List.map, List.cons_append, List.nil_append, List.replicate]
  simp_arith []
  generalize hS0 : S.enter = S0
  have d0 : DrawS S0 r c sp := hS0 ▸ h2.enter
  have c0 : S0.dirty = false := hS0 ▸ h1
  have hr : r < S0.len := d0.lr
  have hc : c < S0.len := d0.lc
  refine (hD S0 r c sp most c0 d0 (by omega) (by omega) (by omega)).mono fun d S1 ⟨v, e1, e2, e3, e4, k1, d1⟩ => ?_
  subst e1
  have hR : okR (1 + v) = true := by simp only [okR, Bool.and_eq_true, decide_eq_true_eq]; omega
  simp_arith [hR]
  generalize htot : (1 + v).toNat = tot
  have ht1 : 1 ≤ tot := by omega
  have ht2 : tot ≤ 10 := by omega
  have htv : (1 + v) = (tot : Int) := by omega
  -- the lengths
  obtain ⟨I, hI⟩ : ∃ I : List Nat → List D → Sto → Prop, ∀ done acc S, I done acc S ↔ ∃ l : List Int, acc = l.map enc ∧ l.length = done.length ∧ (∀ x ∈ l, 2 ≤ x ∧ x ≤ 9) ∧ S.objs[S1.len]? = some (.lst acc) ∧ Kp [r] S0 S ∧ DrawS S r c (sp + 1 + done.length) := ⟨_, fun _ _ _ => Iff.rfl⟩
  refine comp_to (l := List.range tot) (enc := fun i => D.int (0 + (i : Nat))) I
    ((hI _ _ _).mpr ⟨[], rfl, rfl, by simp, add_new, k1.trans (Kp.add k1.cl), by simpa using d1.keep (Kp.add (W := []) k1.cl) (by simp) (by simp)⟩) (by simp) (fun done rest acc S e _ => fix_next (by simpa using fix_range (lo := 0) (n := tot)) e) (fun done i rest acc S e h => ?_) (fun acc S2 h => ?_)
  · obtain ⟨l, a1, a2, a3, a4, a5, a6⟩ := (hI _ _ _).mp h
    simp_arith [Nat.reduceAdd]
    refine ⟨rfl, ?_⟩
    have hdl : done.length ≤ 10 := by have := congrArg List.length e; simp at this; omega
    refine (hO (S.add (.lst [.int 0, .int 0, .int 1, .int 2, .int 7])) r c S.len _ _ a5.cl a6.addN (by omega) add_new (by simp) (by simp) (by simp [bw_int])).mono fun d S3 ⟨q1, q2, q3, q4⟩ => ?_
    have : ∃ w : Int, d = .int w ∧ 0 ≤ w ∧ w ≤ 7 := by
      simp only [List.mem_cons, List.not_mem_nil, or_false] at q1
      rcases q1 with rfl | rfl | rfl | rfl | rfl
      · exact ⟨_, rfl, by decide, by decide⟩
      · exact ⟨_, rfl, by decide, by decide⟩
      · exact ⟨_, rfl, by decide, by decide⟩
      · exact ⟨_, rfl, by decide, by decide⟩
      · exact ⟨_, rfl, by decide, by decide⟩
    obtain ⟨w, rfl, w1, w2⟩ := this
    simp_arith [Nat.reduceAdd]
    have hn : S1.len ≠ r := by have := k1.len; omega
    have hn2 : S1.len ≠ c := by have := k1.len; omega
    have g1 := q3.at (add_at (o' := .lst [D.int 0, D.int 0, D.int 1, D.int 2, D.int 7]) a4) (by simpa using hn)
    have g2 : (S3.put S1.len (.lst (acc ++ [D.int (2 + w)])) true).dirty = false := q3.cl
    refine ⟨g1, by rw [a1, List.length_map]; exact Nat.ble_eq_true_of_le (by omega), (hI _ _ _).mpr ⟨l ++ [2 + w], by simp [a1, enc_int], by simp [a2], ?_, put_at g1, ?_, ?_⟩⟩
    · intro x hx
      rcases List.mem_append.mp hx with hx | hx
      · exact a3 x hx
      · simp only [List.mem_singleton] at hx
        omega
    · exact (a5.addN.trans q3).putN (.inr (by omega)) g2
    · refine (q4.putN hn hn2).mono ?_
      simp
      omega
  · obtain ⟨l, a1, a2, a3, a4, k2, d2⟩ := (hI _ _ _).mp h
    simp only [List.length_range] at a2 d2
    clear hI h I
    simp_arith [a4]
    refine ⟨rfl, ?_⟩
    -- the ends
    obtain ⟨I, hI⟩ : ∃ I : List Nat → En → Sto → Prop, ∀ done ρ S, I done ρ S ↔ ∃ (nl : Nat) (z : Option D), ρ = [some (D.ref r), some (D.int most), some (D.int cuts), some (D.int feeds), some (D.int (1 + v)), some (D.tup acc), some (D.ref nl), z, none, none, none, none, none, none] ∧ S0.len ≤ nl ∧ S.objs[nl]? = some (.lst ((startEnds done.length).map enc)) ∧ Kp [r] S0 S ∧ DrawS S r c (sp + 11) := ⟨_, fun _ _ _ => Iff.rfl⟩
    refine for_fix (l := List.range tot) (enc := fun i => D.int (0 + (i : Nat))) (by simpa using fix_range (lo := 0) (n := tot)) (by simp) I ((hI _ _ _).mpr ⟨S2.len, _, rfl, k2.len, add_new, k2.addN, (d2.addN).mono (by omega)⟩) (fun done i rest ρ S e h => ?_) (fun ρ S3 h => ?_)
    · obtain ⟨nl, z, b1, b2, b3, b4, b5⟩ := (hI _ _ _).mp h
      obtain ⟨hi, hit⟩ := range_split e
      subst b1
      have b6 := add_at (o' := .lst [D.tup [D.int (0 + (i : Nat)), D.int 0], D.tup [D.int (0 + (i : Nat)), D.int 1]]) b3
      simp_arith [b6, add_new]
      have hle := startEnds_len done.length
      refine ⟨rfl, rfl, rfl, Nat.ble_eq_true_of_le (by omega), (hI _ _ _).mpr ⟨_, _, rfl, b4.addN.len, ?_, b4.addN.addN, b5.addN.addN⟩⟩
      rw [add_new, List.length_append, List.length_singleton, startEnds_succ, hi]
      simp [enc_prod, enc_int]
    · obtain ⟨nl, z, b1, b2, b3, b4, b5⟩ := (hI _ _ _).mp h
      rw [List.length_range] at b3
      subst b1
      clear hI h I
      simp_arith [Nat.reduceAdd]
      refine ⟨rfl, ?_⟩
      have b6 : nl < S3.len := lt_of_at b3
      refine ly_while F iD iO hD hO (S0 := S0) (c := c) (tot := tot) (sp := sp + 11) (nj := S3.len) rfl (by rw [startEnds_len]; omega) ((b4.addN).mono (by simp)) b5.addN (add_at b3) add_new (startEnds_ok tot) (by omega) h6 h7 (by omega) (by omega) (by have := b4.len; omega) (by have := b4.len; omega) hc ?_
      intro js left' S4 e7 e10 e11 e12 e13 g1 g2 g3 g4 g5 g6 g7
      have k4 : Kp [r] S0 S4 := ⟨g5.len, fun i hi hw => g5.get i hi (by
        simp only [List.mem_cons, List.not_mem_nil, or_false] at hw ⊢
        have := b4.len
        omega), g5.bs, g5.cl⟩
      have hR2 : okR (tot : Int) = true := by simp only [okR, Bool.and_eq_true, decide_eq_true_eq]; omega
      rw [htv]
      simp_arith [hR2, Int.toNat_natCast]
      -- who is fed
      obtain ⟨I, hI⟩ : ∃ I : List Nat → List D → Sto → Prop, ∀ done acc S, I done acc S ↔ ∃ f : List Int, acc = f.map enc ∧ f.Pairwise (· < ·) ∧ (∀ x ∈ f, 0 ≤ x ∧ x < done.length) ∧ f.length ≤ done.length ∧ S.objs[S4.len]? = some (.lst acc) ∧ Kp [r] S0 S ∧ S4.len < S.len ∧ S.objs[S3.len]? = some (.lst (js.map enc)) ∧ DrawS S r c (sp + 11 + 200 + done.length) := ⟨_, fun _ _ _ => Iff.rfl⟩
      have hj4 := lt_of_at g7
      have hs4 := k4.len
      refine comp_to (l := List.range tot) (enc := fun i => D.int (0 + (i : Nat))) I
        ((hI _ _ _).mpr ⟨[], rfl, List.Pairwise.nil, by simp, by simp, add_new, k4.addN, by rw [Sto.add_len]; omega, add_at g7, by simpa using g6.addN⟩) (by simp) (fun done rest acc S e _ => fix_next (by simpa using fix_range (lo := 0) (n := tot)) e) (fun done i rest acc S e h => ?_) (fun acc2 S5 h => ?_)
      · obtain ⟨f, f1, f2, f3, f4, f5, f6, f7, f8, f9⟩ := (hI _ _ _).mp h
        obtain ⟨hi, hit⟩ := range_split e
        simp_arith [Nat.reduceAdd]
        refine (hD S r c _ tot f6.cl f9 (by omega) (by omega) (by omega)).mono fun d S6 ⟨w, w1, w2, w3, w4, w5, w6⟩ => ?_
        subst w1
        simp_arith [p_lt]
        have hn : S4.len ≠ r := by omega
        have hn2 : S4.len ≠ c := by omega
        have f10 := w5.at f5 (by simpa using hn)
        have f11 := w5.at f8 (by simp only [List.mem_singleton]; have := b4.len; omega)
        by_cases hw : w < feeds
        · rw [if_pos hw]
          refine ⟨f10, by rw [f1, List.length_map]; exact Nat.ble_eq_true_of_le (by omega), (hI _ _ _).mpr ⟨f ++ [(i : Int)], by simp [f1, enc_int], ?_, ?_, by simp; omega, put_at f10, (f6.trans w5).putN (.inr (by omega)) w5.cl, by rw [Sto.put_len]; omega, (put_ne (by omega)).trans f11, ?_⟩⟩
          · refine List.pairwise_append.mpr ⟨f2, by simp, fun a ha b hb => ?_⟩
            simp only [List.mem_singleton] at hb
            have := f3 a ha
            omega
          · intro x hx
            rcases List.mem_append.mp hx with hx | hx
            · have := f3 x hx
              simp; omega
            · simp only [List.mem_singleton] at hx
              simp; omega
          · refine (w6.putN hn hn2).mono ?_
            simp; omega
        · rw [if_neg hw]
          refine (hI _ _ _).mpr ⟨f, f1, f2, fun x hx => ?_, by simp; omega, f10, f6.trans w5, by omega, f11, w6.mono (by simp; omega)⟩
          have := f3 x hx
          simp; omega
      · obtain ⟨f, f1, f2, f3, f4, f5, f6, f7, f8, f9⟩ := (hI _ _ _).mp h
        rw [List.length_range] at f3 f4 f9
        clear hI h I
        subst f1
        rw [p_sortI f5 rfl (by omega), isort_sorted f2]
        have f10 := add_at (o' := .lst (f.map enc)) f8
        simp_arith [f10, add_new]
        rw [cutL_map]
        have hsub : List.Sublist (cutL f none (some feeds)) f := by
          unfold cutL
          exact (List.take_sublist _ _).trans (List.drop_sublist _ _)
        generalize hff : cutL f none (some feeds) = ff at hsub
        have fe2 := f2.sublist hsub
        have fe3 : ∀ x ∈ ff, 0 ≤ x ∧ x < tot := fun x hx => f3 x (hsub.subset hx)
        have fe4 : ff.length ≤ 10 := by have := hsub.length_le; omega
        have f11 : ((S5.add (.lst (f.map enc))).add (.lst (ff.map enc))).objs[S5.len + 1]? = some (.lst (ff.map enc)) := by
          have := add_new (S := S5.add (.lst (f.map enc))) (o := .lst (ff.map enc))
          rwa [Sto.add_len] at this
        have f6' : Kp [r] S0 ((S5.add (.lst (f.map enc))).add (.lst (ff.map enc))) := f6.addN.addN
        have f9' : DrawS ((S5.add (.lst (f.map enc))).add (.lst (ff.map enc))) r c (sp + 11 + 200 + tot) := f9.addN.addN
        have f12 : ((S5.add (.lst (f.map enc))).add (.lst (ff.map enc))).len = S5.len + 2 := by rw [Sto.add_len, Sto.add_len]
        have f13 : (S5.add (.lst (f.map enc))).len = S5.len + 1 := Sto.add_len _ _
        rw [f13]
        revert f11 f6' f9' f12
        generalize (S5.add (.lst (f.map enc))).add (.lst (ff.map enc)) = S6
        intro f11 f6' f9' f12
        simp_arith [f11]
        have hs5 := f6.len
        obtain ⟨I, hI⟩ : ∃ I : List Int → List D → Sto → Prop, ∀ done acc S, I done acc S ↔ ∃ q : List (Int × Int), acc = q.map enc ∧ q.map (·.1) = done ∧ (∀ x ∈ q, isBit x.2) ∧ S.objs[S6.len]? = some (.lst acc) ∧ S.objs[S5.len + 1]? = some (.lst (ff.map enc)) ∧ Kp [r] S0 S ∧ DrawS S r c (sp + 11 + 200 + tot + done.length) := ⟨_, fun _ _ _ => Iff.rfl⟩
        refine comp_to (l := ff) (enc := enc) I ((hI _ _ _).mpr ⟨[], rfl, rfl, by simp, add_new, add_at f11, f6'.addN, by simpa using f9'.addN⟩) (by simp) (fun done rest acc S e h => ?_) (fun done i rest acc S e h => ?_) (fun acc3 S7 h => ?_)
        · obtain ⟨q, q1, q2, q3, q4, q5, _⟩ := (hI _ _ _).mp h
          exact live_next q5 rfl e
        · obtain ⟨q, q1, q2, q3, q4, q5, q6, q7⟩ := (hI _ _ _).mp h
          have hdl : done.length ≤ 10 := by have := congrArg List.length e; simp at this; omega
          simp_arith [Nat.reduceAdd]
          refine (hD S r c _ 2 q6.cl q7 (by omega) (by omega) (by omega)).mono fun d S8 ⟨w, w1, w2, w3, w4, w5, w6⟩ => ?_
          subst w1
          simp_arith [Nat.reduceAdd]
          have hn : S6.len ≠ r := by omega
          have hn2 : S6.len ≠ c := by omega
          have q8 := w5.at q4 (by simpa using hn)
          have q9 := w5.at q5 (by simp only [List.mem_singleton]; omega)
          have hql : q.length = done.length := by rw [← q2, List.length_map]
          refine ⟨rfl, q8, by rw [q1, List.length_map]; exact Nat.ble_eq_true_of_le (by omega), (hI _ _ _).mpr ⟨q ++ [(i, w)], by simp [q1, enc_prod, enc_int], by simp [q2], ?_, put_at q8, (put_ne (by omega)).trans q9, (q6.trans w5).putN (.inr (by omega)) w5.cl, ?_⟩⟩
          · intro x hx
            rcases List.mem_append.mp hx with hx | hx
            · exact q3 x hx
            · simp only [List.mem_singleton] at hx
              subst hx
              simp only [isBit]
              omega
          · refine (w6.putN hn hn2).mono ?_
            simp; omega
        · obtain ⟨q, q1, q2, q3, q4, q5, q6, q7⟩ := (hI _ _ _).mp h
          clear hI h I
          subst q1 a1
          simp_arith [q4]
          refine ⟨rfl, ?_⟩
          rw [← hS0] at q6
          rw [ret_flat q6.cl (by simp [bw_tup, bws_cons, bws_nil, flats])]
          obtain ⟨z1, z2⟩ := kp_ret q6
          rw [← hQ]
          refine ⟨⟨l, js, q⟩, by simp [Lay.d, enc_list], ⟨by simp; omega, by simp; omega, a3, by simp; omega, g2, g3, fun e he => ?_, ?_, ?_, fun x hx => ?_⟩, by simp; omega, z2, z1, ?_⟩
          · have := g4.en e (List.mem_append_left _ he)
            simp only [a2]
            exact this
          · exact (List.nodup_append.mp g4.nd).1
          · have : (q.map (·.1)).Pairwise (· < ·) := by rw [q2]; exact fe2
            exact List.pairwise_map.mp this
          · have h1 : x.1 ∈ ff := by rw [← q2]; exact List.mem_map_of_mem hx
            have h2 := fe3 x.1 h1
            simp only [a2]
            exact ⟨h2.1, h2.2, q3 x hx⟩
          · have hS0l : S0.len = S.len := by rw [← hS0]; rfl
            have hff10 : (ff.length : Int) ≤ 10 := by omega
            exact (DrawS.ret q7 (by omega) (by omega)).mono (by omega)
theorem SpLayout.lift {f : Fn} (h : SpLayout f) : SpLayout (liftF f) := fun S r c sp most cuts feeds h1 h2 h3 h4 h5 h6 h7 h8 h9 => by
  rw [lift_ref rfl]
  exact h S r c sp most cuts feeds h1 h2 h3 h4 h5 h6 h7 h8 h9
end Sw

/-! P1: the package's layouts: which things are whole numbers, links. -/
namespace Sw
open PySem L2 Enc
local macro_rules | `(tactic| simp_arith [$xs,*]) => `(tactic| simp only [↓e_lit, ↓e_var, ↓e_bin, ↓e_cmp, ↓e_chain, ↓e_neg, ↓e_not, ↓e_and, ↓e_or, ↓e_ite, ↓e_tup, ↓e_lst, ↓e_dnewT, ↓e_dnewF, ↓e_ix, ↓e_sl, ↓p_none, ↓p_some, ↓e_call, ↓e_bi, ↓e_isi, ↓e_app, ↓e_pop, ↓e_get, ↓e_rev, ↓e_lenum, ↓e_dispk, ↓op_srcR, ↓op_enumR, ↓op_zipR, turns_live, turns_enumL, turns_zipL, turns_items, turns_enumI, turns_zipI, turns_range, Option.bind_some, Option.elim_some, ↓e_comp, ↓s_wh, ↓a_nil, ↓a_cons, ↓a_star, ↓g_name, ↓g_tup, ↓gs_nil, ↓gs_cons, ↓s_nil, ↓s_cons, ↓s_expr, ↓s_ret, ↓s_asg, ↓s_aug, ↓s_put, ↓s_ite, ↓s_pass, ↓s_brk, ↓s_cont, ↓i_e, ↓i_r1, ↓i_r2, ↓i_enum, ↓i_zip, ↓s_fo, ↓look_z, ↓look_s, ↓tb_bl, ↓ti_int, ↓tr_ref, ↓tt_tup, ↓op_some, ↓to_ok, ↓st_nx, ↓st_rt, ↓st_bk, ↓st_ct, List.set_cons_zero, List.set_cons_succ, boD, coD, biN, aoD, ↓p_addI, ↓p_addT, ↓p_addL, ↓p_sub, ↓p_mul, ↓p_fdiv, ↓p_mod, ↓p_pow, ↓p_iaddI, ↓p_iaddL, ↓p_isub, ↓p_lt, ↓p_gt, ↓p_le, ↓p_ge, ↓p_eq, ↓p_ne, ↓p_in, ↓p_notIn, ↓q_int, ↓p_isNN, ↓p_isTN, ↓p_isIN, ↓p_isRN, ↓p_isntNN, ↓p_isntTN, ↓p_isntIN, ↓p_isntRN, ↓p_isBB, ↓p_isntBB, ↓p_ixT, ↓p_ixR, ↓p_slT, ↓p_slR, ↓p_lenT, ↓p_lenR, ↓p_intI, ↓p_intB, ↓p_min, ↓p_max, ↓p_bl, ↓p_sum, ↓p_tupleT, ↓p_tupleR, ↓p_listT, ↓p_listR, ↓p_app, ↓p_pop0, ↓p_popI, ↓p_get1, ↓p_revT, ↓p_revR, ↓p_isi, ↓op_dput, ↓op_list, src_tup, enum_tup, zip_tup, seqO_lst, seqO_frz, lstO_lst, lenO_lst, lenO_frz, ixO_lst, isLst_lst, seqOf_tup, decide_eq_true_eq, List.length_cons, List.length_nil, Nat.beq, true_and, Nat.reduceAdd, List.getElem?_cons_zero, List.getElem?_cons_succ, get_app0, get_app, set_app0, set_app, List.append_assoc, List.cons_append, List.nil_append, List.length_append, wipeE, ↓op_map, ↓atI_map, atI_0, atI_1, atI_2, atI_3, List.length_map, st_enter, st_add, st_putT, st_len, bw_int, bw_bl, bw_non, bw_str, bw_tup, bws_nil, bws_cons, Enc.flat, flats, Bool.and_true, Bool.and_self, isT_tup, sub_TT, List.any_cons, List.any_nil, Bool.or_false, Bool.not_true, Bool.not_false, if_true, if_false, Bool.false_eq_true, decide_true, decide_false, $xs,*])
def b_is_integer : Ts := (.cons (.ret (.and (.isi [.int] (.var 0)) (.and (.not (.isi [.bool] (.var 0))) (.chain .le .le (.var 1) (.var 0) (.var 2))))) .nil)
def b_are_lengths (i_is_integer : Nat) : Ts := (.cons (.ite (.or (.not (.isi [.tuple] (.var 0))) (.not (.chain .le .le (.lit (.int 1)) (.bi .len (.cons (.var 0) .nil)) (.lit (.int 10))))) (.cons (.ret (.lit (.bl false))) .nil) .nil) (.cons (.ret (.bi .all (.cons (.comp (.e (.var 0)) [1] (.name 1) (.lit (.bl true)) (.call i_is_integer (.cons (.var 1) (.cons (.lit (.int 2)) (.cons (.lit (.int 9)) .nil))))) .nil))) .nil))
def b_is_pair_to (i_is_integer : Nat) : Ts := (.cons (.ret (.and (.isi [.tuple] (.var 0)) (.and (.cmp .eq (.bi .len (.cons (.var 0) .nil)) (.lit (.int 2))) (.and (.call i_is_integer (.cons (.ix (.var 0) (.lit (.int 0))) (.cons (.lit (.int 0)) (.cons (.var 1) .nil)))) (.call i_is_integer (.cons (.ix (.var 0) (.lit (.int 1))) (.cons (.lit (.int 0)) (.cons (.lit (.int 1)) .nil)))))))) .nil)
def b_is_branch (i_is_pair_to i_is_integer : Nat) : Ts := (.cons (.ret (.and (.isi [.tuple] (.var 0)) (.and (.cmp .eq (.bi .len (.cons (.var 0) .nil)) (.lit (.int 2))) (.and (.call i_is_pair_to (.cons (.ix (.var 0) (.lit (.int 0))) (.cons (.var 1) .nil))) (.call i_is_integer (.cons (.ix (.var 0) (.lit (.int 1))) (.cons (.lit (.int 0)) (.cons (.lit (.int 1)) .nil)))))))) .nil)
def b_is_joint (i_is_pair_to i_is_branch : Nat) : Ts := (.cons (.ite (.or (.not (.isi [.tuple] (.var 0))) (.or (.cmp .ne (.bi .len (.cons (.var 0) .nil)) (.lit (.int 2))) (.not (.call i_is_pair_to (.cons (.ix (.var 0) (.lit (.int 0))) (.cons (.var 1) .nil)))))) (.cons (.ret (.lit (.bl false))) .nil) .nil) (.cons (.ite (.or (.not (.isi [.tuple] (.ix (.var 0) (.lit (.int 1))))) (.not (.chain .le .le (.lit (.int 1)) (.bi .len (.cons (.ix (.var 0) (.lit (.int 1))) .nil)) (.lit (.int 3))))) (.cons (.ret (.lit (.bl false))) .nil) .nil) (.cons (.ret (.bi .all (.cons (.comp (.e (.ix (.var 0) (.lit (.int 1)))) [2] (.name 2) (.lit (.bl true)) (.call i_is_branch (.cons (.var 2) (.cons (.var 1) .nil)))) .nil))) .nil)))
def b_all_ends : Ts := (.cons (.ret (.bin .add (.lst (.cons (.ix (.var 0) (.lit (.int 0))) .nil)) (.comp (.e (.ix (.var 0) (.lit (.int 1)))) [1] (.name 1) (.lit (.bl true)) (.ix (.var 1) (.lit (.int 0)))))) .nil)
def b_are_feeds (i_is_pair_to : Nat) : Ts := (.cons (.ite (.or (.not (.isi [.tuple] (.var 0))) (.not (.bi .all (.cons (.comp (.e (.var 0)) [2] (.name 2) (.lit (.bl true)) (.call i_is_pair_to (.cons (.var 2) (.cons (.var 1) .nil)))) .nil)))) (.cons (.ret (.lit (.bl false))) .nil) .nil) (.cons (.ret (.bi .all (.cons (.comp (.zip (.cons (.var 0) (.cons (.sl (.var 0) (.some (.lit (.int 1))) .none) .nil))) [2, 3] (.tup 2 (.cons (.name 2) (.cons (.name 3) .nil))) (.lit (.bl true)) (.cmp .lt (.ix (.var 2) (.lit (.int 0))) (.ix (.var 3) (.lit (.int 0))))) .nil))) .nil))
def b_wrong_joint (i_is_joint i_all_ends : Nat) : Ts := (.cons (.asg (.lst .nil) (.name 2)) (.cons (.fo (.enum (.cons (.var 0) .nil)) (.tup 2 (.cons (.name 3) (.cons (.name 4) .nil))) (.cons (.ite (.not (.call i_is_joint (.cons (.var 4) (.cons (.var 1) .nil)))) (.cons (.ret (.var 3)) .nil) .nil) (.cons (.fo (.e (.call i_all_ends (.cons (.var 4) .nil))) (.name 5) (.cons (.ite (.cmp .is_in (.var 5) (.var 2)) (.cons (.ret (.var 3)) .nil) .nil) (.cons (.expr (.meth .append (.var 2) (.cons (.var 5) .nil))) .nil))) .nil))) (.cons (.ret (.lit .non)) .nil)))
def b_need_layout (i_are_lengths i_wrong_joint i_are_feeds : Nat) : Ts := (.cons (.ite (.or (.not (.isi [.tuple] (.var 0))) (.cmp .ne (.bi .len (.cons (.var 0) .nil)) (.lit (.int 3)))) (.cons .bad .nil) .nil) (.cons (.ite (.not (.call i_are_lengths (.cons (.ix (.var 0) (.lit (.int 0))) .nil))) (.cons .bad .nil) .nil) (.cons (.asg (.bin .sub (.bi .len (.cons (.ix (.var 0) (.lit (.int 0))) .nil)) (.lit (.int 1))) (.name 1)) (.cons (.ite (.or (.not (.isi [.tuple] (.ix (.var 0) (.lit (.int 1))))) (.cmp .gt (.bi .len (.cons (.ix (.var 0) (.lit (.int 1))) .nil)) (.lit (.int 10)))) (.cons .bad .nil) .nil) (.cons (.asg (.call i_wrong_joint (.cons (.ix (.var 0) (.lit (.int 1))) (.cons (.var 1) .nil))) (.name 2)) (.cons (.ite (.cmp .isNot (.var 2) (.lit .non)) (.cons .bad .nil) .nil) (.cons (.ite (.not (.call i_are_feeds (.cons (.ix (.var 0) (.lit (.int 2))) (.cons (.var 1) .nil)))) (.cons .bad .nil) .nil) (.cons (.ret (.var 0)) .nil))))))))
def b_links_of : Ts := (.cons (.asg (.lst .nil) (.name 1)) (.cons (.fo (.enum (.cons (.ix (.var 0) (.lit (.int 1))) .nil)) (.tup 2 (.cons (.name 2) (.cons (.name 3) .nil))) (.cons (.aug 1 .add (.comp (.range1 (.cons (.bi .len (.cons (.ix (.var 3) (.lit (.int 1))) .nil)) .nil)) [4] (.name 4) (.lit (.bl true)) (.tup (.cons (.var 2) (.cons (.var 4) .nil))))) .nil)) (.cons (.ret (.var 1)) .nil)))
def b_is_link (i_is_integer : Nat) : Ts := (.cons (.ite (.or (.not (.isi [.tuple] (.var 1))) (.or (.cmp .ne (.bi .len (.cons (.var 1) .nil)) (.lit (.int 2))) (.not (.call i_is_integer (.cons (.ix (.var 1) (.lit (.int 0))) (.cons (.lit (.int 0)) (.cons (.bin .sub (.bi .len (.cons (.ix (.var 0) (.lit (.int 1))) .nil)) (.lit (.int 1))) .nil))))))) (.cons (.ret (.lit (.bl false))) .nil) .nil) (.cons (.ret (.call i_is_integer (.cons (.ix (.var 1) (.lit (.int 1))) (.cons (.lit (.int 0)) (.cons (.bin .sub (.bi .len (.cons (.ix (.ix (.ix (.var 0) (.lit (.int 1))) (.ix (.var 1) (.lit (.int 0)))) (.lit (.int 1))) .nil)) (.lit (.int 1))) .nil))))) .nil))
def b_ends_in : Ts := (.cons (.asg (.ix (.ix (.var 0) (.lit (.int 1))) (.ix (.var 1) (.lit (.int 0)))) (.name 2)) (.cons (.ret (.tup (.cons (.ix (.var 2) (.lit (.int 0))) (.cons (.ix (.ix (.ix (.var 2) (.lit (.int 1))) (.ix (.var 1) (.lit (.int 1)))) (.lit (.int 0))) .nil)))) .nil))
def b_is_cut_in : Ts := (.cons (.ret (.cmp .eq (.ix (.ix (.ix (.ix (.ix (.var 0) (.lit (.int 1))) (.ix (.var 1) (.lit (.int 0)))) (.lit (.int 1))) (.ix (.var 1) (.lit (.int 1)))) (.lit (.int 1))) (.lit (.int 1)))) .nil)
def b_crossing (i_ends_in : Nat) : Ts := (.cons (.asg (.call i_ends_in (.cons (.var 0) (.cons (.var 1) .nil))) (.tup 2 (.cons (.name 2) (.cons (.name 3) .nil)))) (.cons (.ret (.bi .int (.cons (.cmp .eq (.ix (.var 2) (.lit (.int 1))) (.ix (.var 3) (.lit (.int 1)))) .nil))) .nil))
def b_need_span (i_need_layout i_is_link : Nat) : Ts := (.cons (.expr (.call i_need_layout (.cons (.var 0) .nil))) (.cons (.ite (.or (.not (.isi [.list, .tuple] (.var 1))) (.not (.bi .all (.cons (.comp (.e (.var 1)) [2] (.name 2) (.lit (.bl true)) (.call i_is_link (.cons (.var 0) (.cons (.var 2) .nil)))) .nil)))) (.cons .bad .nil) .nil) .nil))
/-! ### runs from nothing -/
theorem lift_flat {n ar : Nat} {f : Sv} {ds : List D} {r : D} {S : Sto} (hl : Nat.beq ds.length ar = true) (hds : D.blws 0 ds = true) (hr : r.blw 0 = true)
    (h : (f (ds.map some ++ List.replicate (n - ar) none) ⟨[], [0], false⟩).To ⟨fun _ S' => S'.dirty = false ∧ r = .non, fun d S' => S'.dirty = false ∧ d = r, fun _ _ => False, fun _ _ => False⟩) : liftF (fnSem n ar f) ds S = .ok r S := by
  have h1 : (fnSem n ar f ds emp).To fun d _ => d = r := by
    refine fn_to hl (SR.To.mono h ?_ ?_ (fun _ _ z => z) (fun _ _ z => z))
    · rintro _ S' ⟨h2, rfl⟩
      show (ret emp .non S').To _
      rw [ret_flat (S := emp) h2 rfl]
    · rintro d S' ⟨h2, rfl⟩
      show (ret emp d S').To _
      rw [ret_flat (S := emp) h2 hr]
  unfold liftF
  rw [hds]
  dsimp only
  cases e : fnSem n ar f ds emp with
  | bad => rw [e] at h1; exact h1.elim
  | ok d S' => rw [e, to_ok] at h1; subst h1; simp only [hr]
theorem lift_lst {n ar : Nat} {f : Sv} {ds xs : List D} {S : Sto} (hl : Nat.beq ds.length ar = true) (hds : D.blws 0 ds = true) (hx : D.blws 0 xs = true)
    (h : (f (ds.map some ++ List.replicate (n - ar) none) ⟨[], [0], false⟩).To ⟨fun _ _ => False, fun d S' => S'.dirty = false ∧ ∃ k, d = .ref k ∧ S'.objs[k]? = some (.lst xs), fun _ _ => False, fun _ _ => False⟩) : liftF (fnSem n ar f) ds S = .ok (.ref S.len) (S.add (.lst xs)) := by
  have h1 : (fnSem n ar f ds emp).To fun d S' => d = .ref 0 ∧ S'.objs[0]? = some (.lst xs) := by
    refine fn_to hl (SR.To.mono h (fun _ _ z => z.elim) ?_ (fun _ _ z => z) (fun _ _ z => z))
    rintro d S' ⟨h2, k, rfl, h3⟩
    show (ret emp (.ref k) S').To _
    rw [ret_list (S := emp) h2 (Nat.zero_le _) h3 hx]
    exact ⟨rfl, by simp [emp, Sto.len]⟩
  unfold liftF
  rw [hds]
  dsimp only
  cases e : fnSem n ar f ds emp with
  | bad => rw [e] at h1; exact h1.elim
  | ok d S' =>
    rw [e, to_ok] at h1
    obtain ⟨rfl, h2⟩ := h1
    have hb : D.blw 0 (.ref 0) = false := rfl
    have hx' : (O.lst xs).blw 0 = true := hx
    simp only [hb, h2, hx']
theorem ret_same {S : Sto} {d : D} {Q : D → Sto → Prop} (h : S.dirty = false) (hd : d.blw S.len = true) : (ret S d S.enter).To Q = Q d S := by
  rw [ret_flat (by exact h) hd]
  obtain ⟨B, bs, t⟩ := S
  obtain rfl : t = false := h
  simp [Sto.enter, Sto.len]
/-- a def that leaves the store, lifted -/
theorem lift_keep {f : Fn} {ds : List D} {r : D} {S : Sto} (h : ∀ S, S.dirty = false → f ds S = .ok r S) (hr : r.blw 0 = true) (hS : S.dirty = false) : liftF f ds S = .ok r S := by
  unfold liftF
  split
  · rw [h emp rfl]; simp only [hr]
  · exact h S hS
/-! ### whole numbers -/
def isIB (lo hi : Int) : D → Bool
  | .int i => decide (lo ≤ i) && decide (i ≤ hi)
  | _ => false
def SpInt (f : Fn) : Prop := ∀ (S : Sto) (x : D) (lo hi : Int), S.dirty = false → (tyOf S x).isSome = true → f [x, .int lo, .int hi] S = .ok (.bl (isIB lo hi x)) S
theorem tyOf_enter {S : Sto} {x : D} : tyOf S.enter x = tyOf S x := rfl
theorem lift_eq {f : Fn} {ds : List D} {r : D} {S : Sto} (h : f ds S = .ok r S) (h0 : D.blws 0 ds = true → f ds emp = .ok r emp) (hr : r.blw 0 = true) : liftF f ds S = .ok r S := by
  unfold liftF
  split
  · rename_i hb; rw [h0 hb]; simp only [hr]
  · exact h
theorem spInt (F : Nat → Fn) : SpInt (liftF (fnSem 3 3 (svs F b_is_integer))) := fun S x lo hi h1 h2 => by
  have key : ∀ S : Sto, S.dirty = false → (tyOf S x).isSome = true → fnSem 3 3 (svs F b_is_integer) [x, .int lo, .int hi] S = .ok (.bl (isIB lo hi x)) S := fun S h1 h2 => by
    refine Res.To.eq (fn_to rfl ?_)
    simp only [b_is_integer, List.map, List.cons_append, List.nil_append, List.replicate]
    have e : ∀ b, b = isIB lo hi x → (ret S (.bl b) S.enter).To fun b_1 S_1 => b_1 = .bl (isIB lo hi x) ∧ S_1 = S := fun b hb => by rw [ret_same h1 rfl, hb]; exact ⟨rfl, rfl⟩
    obtain ⟨t, ht⟩ := Option.isSome_iff_exists.mp h2
    have ht' : tyOf S.enter x = some t := ht
    cases x with
    | int i =>
      cases ht
      simp_arith [ht', isSub, List.any_cons, List.any_nil, Bool.or_false, if_true, Bool.not_false]
      by_cases h3 : lo ≤ i
      · rw [if_pos h3]; exact e _ (by simp [isIB, h3])
      · rw [if_neg h3]; exact e _ (by simp [isIB, h3])
    | bl b =>
      cases ht
      simp_arith [ht', isSub, List.any_cons, List.any_nil, Bool.or_false, if_true, Bool.not_true, if_false, Bool.false_eq_true]
      exact e _ rfl
    | ref n =>
      have : isSub t .int = false := by
        simp only [tyOf] at ht
        split at ht <;> cases ht <;> rfl
      simp_arith [ht', this, List.any_cons, List.any_nil, Bool.or_false, if_true, Bool.not_true, if_false, Bool.false_eq_true]
      exact e _ rfl
    | non =>
      cases ht
      simp_arith [ht', isSub, List.any_cons, List.any_nil, Bool.or_false, if_false, Bool.false_eq_true]
      exact e _ rfl
    | str z =>
      cases ht
      simp_arith [ht', isSub, List.any_cons, List.any_nil, Bool.or_false, if_false, Bool.false_eq_true]
      exact e _ rfl
    | tup z =>
      cases ht
      simp_arith [ht', isSub, List.any_cons, List.any_nil, Bool.or_false, if_false, Bool.false_eq_true]
      exact e _ rfl
  refine lift_eq (key S h1 h2) (fun hb => key emp rfl ?_) rfl
  cases x with
  | ref n => cases hb
  | _ => rfl
/-! ### data whose kinds are known -/
mutual
def D.tyd (S : Sto) : D → Bool
  | .ref n => (tyOf S (.ref n)).isSome
  | .tup xs => D.tyds S xs
  | .non => true
  | .bl _ => true
  | .int _ => true
  | .str _ => true
def D.tyds (S : Sto) : List D → Bool
  | [] => true
  | x :: xs => D.tyd S x && D.tyds S xs
end
theorem tyd_tup {S : Sto} {xs : List D} : D.tyd S (.tup xs) = D.tyds S xs := by simp only [D.tyd]
theorem tyds_nil {S : Sto} : D.tyds S [] = true := by simp only [D.tyds]
theorem tyds_cons {S : Sto} {x : D} {xs : List D} : D.tyds S (x :: xs) = (D.tyd S x && D.tyds S xs) := by simp only [D.tyds]
theorem tyd_some {S : Sto} {x : D} (h : D.tyd S x = true) : (tyOf S x).isSome = true := by
  cases x with
  | ref n => simpa only [D.tyd] using h
  | _ => rfl
theorem tyds_mem {S : Sto} : ∀ {xs : List D} {x : D}, D.tyds S xs = true → x ∈ xs → D.tyd S x = true
  | a :: xs, x, h, hx => by
    simp only [D.tyds, Bool.and_eq_true] at h
    rcases List.mem_cons.mp hx with rfl | hx
    · exact h.1
    · exact tyds_mem h.2 hx
mutual
theorem tyd_flat {S : Sto} : ∀ {x : D}, D.blw 0 x = true → D.tyd S x = true
  | .ref n, h => by cases h
  | .tup xs, h => by simp only [D.tyd]; exact tyds_flat (by simpa only [D.blw] using h)
  | .non, _ => by simp only [D.tyd]
  | .bl _, _ => by simp only [D.tyd]
  | .int _, _ => by simp only [D.tyd]
  | .str _, _ => by simp only [D.tyd]
theorem tyds_flat {S : Sto} : ∀ {xs : List D}, D.blws 0 xs = true → D.tyds S xs = true
  | [], _ => by simp only [D.tyds]
  | x :: xs, h => by
    simp only [D.blws, Bool.and_eq_true] at h
    simp only [D.tyds, tyd_flat h.1, tyds_flat h.2, Bool.and_self]
end
theorem tyOf_add {S : Sto} {x : D} {o : O} (h : (tyOf S x).isSome = true) : tyOf (S.add o) x = tyOf S x := by
  cases x with
  | ref n =>
    simp only [tyOf] at h ⊢
    cases e : S.objs[n]? with
    | none => rw [e] at h; cases h
    | some ob => rw [add_at e]
  | _ => rfl
mutual
theorem tyd_add {S : Sto} {o : O} : ∀ {x : D}, D.tyd S x = true → D.tyd (S.add o) x = true
  | .ref n, h => by
    simp only [D.tyd] at h ⊢
    rw [tyOf_add h]; exact h
  | .tup xs, h => by simp only [D.tyd] at h ⊢; exact tyds_add h
  | .non, _ => by simp only [D.tyd]
  | .bl _, _ => by simp only [D.tyd]
  | .int _, _ => by simp only [D.tyd]
  | .str _, _ => by simp only [D.tyd]
theorem tyds_add {S : Sto} {o : O} : ∀ {xs : List D}, D.tyds S xs = true → D.tyds (S.add o) xs = true
  | [], _ => by simp only [D.tyds]
  | x :: xs, h => by
    simp only [D.tyds, Bool.and_eq_true] at h ⊢
    exact ⟨tyd_add h.1, tyds_add h.2⟩
end
mutual
theorem tyd_enter {S : Sto} : ∀ {x : D}, D.tyd S x = true → D.tyd S.enter x = true
  | .ref n, h => by simp only [D.tyd] at h ⊢; exact h
  | .tup xs, h => by simp only [D.tyd] at h ⊢; exact tyds_enter h
  | .non, _ => by simp only [D.tyd]
  | .bl _, _ => by simp only [D.tyd]
  | .int _, _ => by simp only [D.tyd]
  | .str _, _ => by simp only [D.tyd]
theorem tyds_enter {S : Sto} : ∀ {xs : List D}, D.tyds S xs = true → D.tyds S.enter xs = true
  | [], _ => by simp only [D.tyds]
  | x :: xs, h => by
    simp only [D.tyds, Bool.and_eq_true] at h ⊢
    exact ⟨tyd_enter h.1, tyds_enter h.2⟩
end
/-- a truth of a thing with a greatest number, told by a def -/
def SpB (p : Int → D → Bool) (f : Fn) : Prop := ∀ (S : Sto) (x : D) (most : Int), S.dirty = false → D.tyd S x = true → f [x, .int most] S = .ok (.bl (p most x)) S
theorem spB_lift {p : Int → D → Bool} {f : Fn} (h : SpB p f) : SpB p (liftF f) := fun S x most h1 h2 => lift_eq (h S x most h1 h2) (fun hb => h emp x most rfl (by
  simp only [D.blws, Bool.and_eq_true] at hb
  exact tyd_flat hb.1)) rfl
theorem isT_not {S : Sto} {x : D} (h : ∀ xs, x ≠ .tup xs) (ht : (tyOf S x).isSome = true) : ∃ t, tyOf S x = some t ∧ isSub t .tuple = false := by
  obtain ⟨t, ht⟩ := Option.isSome_iff_exists.mp ht
  refine ⟨t, ht, ?_⟩
  cases x with
  | tup xs => exact absurd rfl (h xs)
  | ref n => simp only [tyOf] at ht; split at ht <;> cases ht <;> rfl
  | _ => cases ht; rfl
def isPairB (most : Int) : D → Bool
  | .tup [a, b] => isIB 0 most a && isIB 0 1 b
  | _ => false
theorem isPairB_len {most : Int} {xs : List D} (h : xs.length ≠ 2) : isPairB most (.tup xs) = false := by
  unfold isPairB
  split
  · rename_i a b e; cases e; simp at h
  · rfl
theorem len2 {xs : List D} (h : xs.length = 2) : ∃ a b, xs = [a, b] := by
  match xs, h with
  | [a, b], _ => exact ⟨a, b, rfl⟩
theorem spPair (F : Nat → Fn) (i : Nat) (hI : SpInt (F i)) : SpB isPairB (liftF (fnSem 2 2 (svs F (b_is_pair_to i)))) := spB_lift fun S x most h1 h2 => by
  refine Res.To.eq (fn_to rfl ?_)
  simp only [b_is_pair_to, List.map, List.cons_append, List.nil_append, List.replicate]
  have e : ∀ b, b = isPairB most x → (ret S (.bl b) S.enter).To fun b_1 S_1 => b_1 = .bl (isPairB most x) ∧ S_1 = S := fun b hb => by rw [ret_same h1 rfl, hb]; exact ⟨rfl, rfl⟩
  by_cases hx : ∃ xs, x = .tup xs
  · obtain ⟨xs, rfl⟩ := hx
    simp_arith [if_true]
    by_cases hl : xs.length = 2
    · obtain ⟨a, b, rfl⟩ := len2 hl
      simp only [D.tyd, D.tyds, Bool.and_eq_true] at h2
      have i1 := fun lo hi => hI S.enter a lo hi h1 (tyd_some (tyd_enter h2.1))
      have i2 := fun lo hi => hI S.enter b lo hi h1 (tyd_some (tyd_enter h2.2.1))
      simp_arith [i1, i2, Int.cast_ofNat_Int, if_true, decide_true]
      cases ha : isIB 0 most a with
      | true => simp_arith [if_true]; exact e _ (by simp [isPairB, ha])
      | false => simp_arith [if_false, Bool.false_eq_true]; exact e _ (by simp [isPairB, ha])
    · have : ¬ ((xs.length : Int) = 2) := by omega
      simp_arith [this, if_false]
      exact e _ (isPairB_len hl).symm
  · obtain ⟨t, ht, hs⟩ := isT_not (fun xs z => hx ⟨xs, z⟩) (tyd_some h2)
    have ht' : tyOf S.enter x = some t := ht
    simp_arith [ht', hs, if_false, Bool.false_eq_true]
    exact e _ (by cases x <;> first | rfl | exact absurd ⟨_, rfl⟩ hx)
def isBranchB (most : Int) : D → Bool
  | .tup [a, b] => isPairB most a && isIB 0 1 b
  | _ => false
theorem isBranchB_len {most : Int} {xs : List D} (h : xs.length ≠ 2) : isBranchB most (.tup xs) = false := by
  unfold isBranchB
  split
  · rename_i a b e; cases e; simp at h
  · rfl
theorem spBranch (F : Nat → Fn) (j i : Nat) (hP : SpB isPairB (F j)) (hI : SpInt (F i)) : SpB isBranchB (liftF (fnSem 2 2 (svs F (b_is_branch j i)))) := spB_lift fun S x most h1 h2 => by
  refine Res.To.eq (fn_to rfl ?_)
  simp only [b_is_branch, List.map, List.cons_append, List.nil_append, List.replicate]
  have e : ∀ b, b = isBranchB most x → (ret S (.bl b) S.enter).To fun b_1 S_1 => b_1 = .bl (isBranchB most x) ∧ S_1 = S := fun b hb => by rw [ret_same h1 rfl, hb]; exact ⟨rfl, rfl⟩
  by_cases hx : ∃ xs, x = .tup xs
  · obtain ⟨xs, rfl⟩ := hx
    simp_arith [if_true]
    by_cases hl : xs.length = 2
    · obtain ⟨a, b, rfl⟩ := len2 hl
      simp only [D.tyd, D.tyds, Bool.and_eq_true] at h2
      have i1 := fun most => hP S.enter a most h1 (tyd_enter h2.1)
      have i2 := fun lo hi => hI S.enter b lo hi h1 (tyd_some (tyd_enter h2.2.1))
      simp_arith [i1, i2, Int.cast_ofNat_Int, if_true, decide_true]
      cases ha : isPairB most a with
      | true => simp_arith [if_true]; exact e _ (by simp [isBranchB, ha])
      | false => simp_arith [if_false, Bool.false_eq_true]; exact e _ (by simp [isBranchB, ha])
    · have : ¬ ((xs.length : Int) = 2) := by omega
      simp_arith [this, if_false]
      exact e _ (isBranchB_len hl).symm
  · obtain ⟨t, ht, hs⟩ := isT_not (fun xs z => hx ⟨xs, z⟩) (tyd_some h2)
    have ht' : tyOf S.enter x = some t := ht
    simp_arith [ht', hs, if_false, Bool.false_eq_true]
    exact e _ (by cases x <;> first | rfl | exact absurd ⟨_, rfl⟩ hx)
theorem bls_map {α : Type} (p : α → Bool) : ∀ l : List α, blsOf (l.map fun x => D.bl (p x)) = some (l.map p)
  | [] => rfl
  | x :: l => by simp only [List.map_cons, blsOf, bls_map p l]
theorem filt_true {α : Type} (l : List α) : l.filter (fun _ => true) = l := by simp
/-- all([f(x, most) for x in xs]), and the like: the list is made, and folded -/
theorem all_comp {F : Nat → Fn} {ρ : En} {B : List O} {bs : List Nat} {xs : List D} {g : G} {t el : E} {p : D → Bool} {Q : D → Sto → Prop} (hb : bs.headD 0 ≤ B.length) (hl : xs.length ≤ 16777216)
    (step : ∀ x ∈ xs, ∀ acc, (gv g x ρ ⟨B ++ [.lst acc], bs, false⟩).To fun ρ1 S1 => (ev F t ρ1 S1).To fun b S2 => tb b fun c => c = true ∧ S2 = ⟨B ++ [.lst acc], bs, false⟩ ∧ (true = true → (ev F el ρ1 ⟨B ++ [.lst acc], bs, false⟩).To fun y S3 => y = .bl (p x) ∧ S3 = ⟨B ++ [.lst acc], bs, false⟩))
    (fin : Q (.bl (xs.all p)) ⟨B ++ [.lst (xs.map fun x => .bl (p x))], bs, false⟩) :
    (compL (.items xs) B.length (gv g) (ev F t) (ev F el) ρ (xs.length + 1) 0 ⟨B ++ [.lst []], bs, false⟩).To fun d S => (blN (fun bs => bs.all id) [d] S).To Q := by
  refine comp_pure' (α := D) (enc := id) (l := xs) (fun _ => true) (fun x => .bl (p x)) (by simpa using of_items (B := B) (ds := xs)) rfl rfl (by simp) hl hb step ?_
  rw [filt_true, p_bl, get_app0, List.getElem?_cons_zero, op_some, seqO_lst, op_some, bls_map, op_some]
  simpa [List.all_map] using fin
def isJointB (most : Int) : D → Bool
  | .tup [a, .tup bs] => isPairB most a && (decide (1 ≤ bs.length) && decide (bs.length ≤ 3)) && bs.all (isBranchB most)
  | _ => false
theorem isJointB_len {most : Int} {xs : List D} (h : xs.length ≠ 2) : isJointB most (.tup xs) = false := by
  unfold isJointB
  split
  · rename_i a b e; cases e; simp at h
  · rfl
theorem spJoint (F : Nat → Fn) (j i : Nat) (hP : SpB isPairB (F j)) (hB : SpB isBranchB (F i)) : SpB isJointB (liftF (fnSem 3 2 (svs F (b_is_joint j i)))) := spB_lift fun S x most h1 h2 => by
  refine Res.To.eq (fn_to rfl ?_)
  simp only [b_is_joint, List.map, List.cons_append, List.nil_append, List.replicate]
  generalize hQ : (fun (b : D) (S_1 : Sto) => b = .bl (isJointB most x) ∧ S_1 = S) = Q
  have e : ∀ b, b = isJointB most x → (ret S (.bl b) S.enter).To Q := fun b hb => by rw [ret_same h1 rfl, hb, ← hQ]; exact ⟨rfl, rfl⟩
  by_cases hx : ∃ xs, x = .tup xs
  · obtain ⟨xs, rfl⟩ := hx
    simp_arith [Bool.not_true, if_false, Bool.false_eq_true]
    by_cases hl : xs.length = 2
    · obtain ⟨a, b, rfl⟩ := len2 hl
      simp only [D.tyd, D.tyds, Bool.and_eq_true] at h2
      have i1 := fun most => hP S.enter a most h1 (tyd_enter h2.1)
      simp_arith [i1, Int.cast_ofNat_Int, decide_true, Bool.not_true, if_false, Bool.false_eq_true]
      cases ha : isPairB most a with
      | false => simp_arith [if_true, Bool.not_false]; exact e _ (by unfold isJointB; split <;> simp_all)
      | true =>
        simp_arith [if_false, Bool.not_true, Bool.false_eq_true]
        by_cases hy : ∃ ys, b = .tup ys
        · obtain ⟨ys, rfl⟩ := hy
          simp_arith [Bool.not_true, if_false, Bool.false_eq_true]
          have hyd := h2.2.1
          simp only [D.tyd] at hyd
          by_cases hl1 : (1 : Int) ≤ ys.length
          · by_cases hl3 : (ys.length : Int) ≤ 3
            · simp_arith [hl1, hl3]
              obtain ⟨B, bs, t⟩ := S
              obtain rfl : t = false := h1
              simp_arith [st_enter]
              refine all_comp (p := isBranchB most) (by simp) (by omega) (fun y hy acc => ?_) ?_
              · have i2 := hB ⟨B ++ [.lst acc], B.length :: bs, false⟩ y most rfl (tyd_add (S := ⟨B, B.length :: bs, false⟩) (tyd_enter (S := ⟨B, bs, false⟩) (tyds_mem hyd hy)))
                simp_arith [i2]
                exact fun _ => trivial
              · rw [ret_flat rfl rfl]
                rw [← hQ]
                refine ⟨?_, by simp [Sto.len]⟩
                have q1 : 1 ≤ ys.length := by omega
                have q3 : ys.length ≤ 3 := by omega
                simp [isJointB, ha, q1, q3]
            · simp_arith [hl1, hl3]
              exact e _ (by have q3 : ¬ ys.length ≤ 3 := by omega
                            simp [isJointB, q3])
          · simp_arith [hl1]
            exact e _ (by have q3 : ¬ 1 ≤ ys.length := by omega
                          simp [isJointB, q3])
        · obtain ⟨t, ht, hs⟩ := isT_not (fun xs z => hy ⟨xs, z⟩) (tyd_some h2.2.1)
          have ht' : tyOf S.enter b = some t := ht
          simp_arith [ht', hs, Bool.not_false, if_true]
          exact e _ (by cases b <;> first | rfl | exact absurd ⟨_, rfl⟩ hy)
    · have : ¬ ((xs.length : Int) = 2) := by omega
      simp_arith [this, decide_false, Bool.not_false, if_true]
      exact e _ (isJointB_len hl).symm
  · obtain ⟨t, ht, hs⟩ := isT_not (fun xs z => hx ⟨xs, z⟩) (tyd_some h2)
    have ht' : tyOf S.enter x = some t := ht
    simp_arith [ht', hs, Bool.not_false, if_true]
    exact e _ (by cases x <;> first | rfl | exact absurd ⟨_, rfl⟩ hx)
end Sw

/-! P2: need_layout lets layouts by. -/
namespace Sw
open PySem L2 Enc
local macro_rules | `(tactic| simp_arith [$xs,*]) => `(tactic| simp only [↓e_lit, ↓e_var, ↓e_bin, ↓e_cmp, ↓e_chain, ↓e_neg, ↓e_not, ↓e_and, ↓e_or, ↓e_ite, ↓e_tup, ↓e_lst, ↓e_dnewT, ↓e_dnewF, ↓e_ix, ↓e_sl, ↓p_none, ↓p_some, ↓e_call, ↓e_bi, ↓e_isi, ↓e_app, ↓e_pop, ↓e_get, ↓e_rev, ↓e_lenum, ↓e_dispk, ↓op_srcR, ↓op_enumR, ↓op_zipR, turns_live, turns_enumL, turns_zipL, turns_items, turns_enumI, turns_zipI, turns_range, Option.bind_some, Option.elim_some, ↓e_comp, ↓s_wh, ↓a_nil, ↓a_cons, ↓a_star, ↓g_name, ↓g_tup, ↓gs_nil, ↓gs_cons, ↓s_nil, ↓s_cons, ↓s_expr, ↓s_ret, ↓s_asg, ↓s_aug, ↓s_put, ↓s_ite, ↓s_pass, ↓s_brk, ↓s_cont, ↓i_e, ↓i_r1, ↓i_r2, ↓i_enum, ↓i_zip, ↓s_fo, ↓look_z, ↓look_s, ↓tb_bl, ↓ti_int, ↓tr_ref, ↓tt_tup, ↓op_some, ↓to_ok, ↓st_nx, ↓st_rt, ↓st_bk, ↓st_ct, List.set_cons_zero, List.set_cons_succ, boD, coD, biN, aoD, ↓p_addI, ↓p_addT, ↓p_addL, ↓p_sub, ↓p_mul, ↓p_fdiv, ↓p_mod, ↓p_pow, ↓p_iaddI, ↓p_iaddL, ↓p_isub, ↓p_lt, ↓p_gt, ↓p_le, ↓p_ge, ↓p_eq, ↓p_ne, ↓p_in, ↓p_notIn, ↓q_int, ↓p_isNN, ↓p_isTN, ↓p_isIN, ↓p_isRN, ↓p_isntNN, ↓p_isntTN, ↓p_isntIN, ↓p_isntRN, ↓p_isBB, ↓p_isntBB, ↓p_ixT, ↓p_ixR, ↓p_slT, ↓p_slR, ↓p_lenT, ↓p_lenR, ↓p_intI, ↓p_intB, ↓p_min, ↓p_max, ↓p_bl, ↓p_sum, ↓p_tupleT, ↓p_tupleR, ↓p_listT, ↓p_listR, ↓p_app, ↓p_pop0, ↓p_popI, ↓p_get1, ↓p_revT, ↓p_revR, ↓p_isi, ↓op_dput, ↓op_list, src_tup, enum_tup, zip_tup, seqO_lst, seqO_frz, lstO_lst, lenO_lst, lenO_frz, ixO_lst, isLst_lst, seqOf_tup, decide_eq_true_eq, List.length_cons, List.length_nil, Nat.beq, true_and, Nat.reduceAdd, List.getElem?_cons_zero, List.getElem?_cons_succ, get_app0, get_app, set_app0, set_app, List.append_assoc, List.cons_append, List.nil_append, List.length_append, wipeE, ↓op_map, ↓atI_map, atI_0, atI_1, atI_2, atI_3, List.length_map, st_enter, st_add, st_putT, st_len, bw_int, bw_bl, bw_non, bw_str, bw_tup, bws_nil, bws_cons, Enc.flat, flats, Bool.and_true, Bool.and_self, isT_tup, sub_TT, List.any_cons, List.any_nil, Bool.or_false, Bool.not_true, Bool.not_false, if_true, if_false, Bool.false_eq_true, decide_true, decide_false, $xs,*])
theorem isIB_enc {lo hi i : Int} (h1 : lo ≤ i) (h2 : i ≤ hi) : isIB lo hi (enc i) = true := by simp [isIB, enc_int, h1, h2]
theorem bit01 {i : Int} (h : isBit i) : 0 ≤ i ∧ i ≤ 1 := by rcases h with rfl | rfl <;> decide
theorem isPair_enc {most : Int} {e : End} (h1 : 0 ≤ e.1) (h2 : e.1 ≤ most) (h3 : isBit e.2) : isPairB most (enc e) = true := by
  rw [enc_prod]
  simp [isPairB, isIB_enc h1 h2, isIB_enc (bit01 h3).1 (bit01 h3).2]
theorem isBranch_enc {most : Int} {b : End × Int} (h1 : 0 ≤ b.1.1) (h2 : b.1.1 ≤ most) (h3 : isBit b.1.2) (h4 : isBit b.2) : isBranchB most (enc b) = true := by
  rw [enc_prod]
  simp [isBranchB, isPair_enc h1 h2 h3, isIB_enc (bit01 h4).1 (bit01 h4).2]
theorem isJoint_enc {most : Int} {j : End × List (End × Int)} (hl : 1 ≤ j.2.length ∧ j.2.length ≤ 3) (he : ∀ e ∈ endsOf j, 0 ≤ e.1 ∧ e.1 ≤ most ∧ isBit e.2) (hc : ∀ b ∈ j.2, isBit b.2) : isJointB most (enc j) = true := by
  rw [enc_prod, enc_list]
  have h0 := he j.1 (by simp [endsOf])
  simp only [isJointB, isPair_enc h0.1 h0.2.1 h0.2.2, List.length_map, hl.1, hl.2, decide_true, Bool.and_self, Bool.true_and, List.all_map, List.all_eq_true]
  intro b hb
  have h1 := he b.1 (by simp only [endsOf, List.mem_cons, List.mem_map]; exact .inr ⟨b, hb, rfl⟩)
  exact isBranch_enc h1.1 h1.2.1 h1.2.2 (hc b hb)
def SpLens (f : Fn) : Prop := ∀ (S : Sto) (l : List Int), 1 ≤ l.length → l.length ≤ 10 → (∀ x ∈ l, 2 ≤ x ∧ x ≤ 9) → f [enc l] S = .ok (.bl true) S
theorem spLens (F : Nat → Fn) (i : Nat) (hI : SpInt (F i)) : SpLens (liftF (fnSem 2 1 (svs F (b_are_lengths i)))) := fun S l h1 h2 h3 => by
  refine lift_flat rfl (by simp [bws_cons, Enc.flat, bws_nil]) rfl ?_
  simp only [b_are_lengths, List.map, List.cons_append, List.nil_append, List.replicate, enc_list]
  have q1 : (1 : Int) ≤ l.length := by omega
  have q2 : (l.length : Int) ≤ 10 := by omega
  simp_arith [q1, q2]
  refine comp_pure' (α := Int) (enc := enc) (B := []) (bs := [0]) (l := l) (fun _ => true) (fun x => .bl (isIB 2 9 (enc x))) of_items rfl rfl (by simp) (by omega) (by simp) (fun x hx acc => ?_) ?_
  · have e := hI ⟨[.lst acc], [0], false⟩ (enc x) 2 9 rfl rfl
    simp_arith [e]
    exact fun _ => trivial
  · rw [filt_true]
    simp_arith [bls_map]
    simp only [List.all_map, List.all_eq_true]
    simp
    intro x hx
    exact isIB_enc (h3 x hx).1 (h3 x hx).2
def SpEnds (f : Fn) : Prop := ∀ (S : Sto) (j : End × List (End × Int)), j.2.length ≤ 1000 → f [enc j] S = .ok (.ref S.len) (S.add (.lst ((endsOf j).map enc)))
theorem spEnds (F : Nat → Fn) : SpEnds (liftF (fnSem 2 1 (svs F b_all_ends))) := fun S j h => by
  refine lift_lst rfl (by simp [bws_cons, Enc.flat, bws_nil]) (flats _ _) ?_
  simp only [b_all_ends, List.map, List.cons_append, List.nil_append, List.replicate, enc_prod, enc_list]
  simp_arith []
  refine ⟨rfl, ?_⟩
  refine comp_pure' (α := End × Int) (enc := enc) (B := [.lst [.tup [.int j.1.1, .int j.1.2]]]) (bs := [0]) (l := j.2) (fun _ => true) (fun b => enc b.1) of_items rfl rfl (by simp) (by omega) (by simp) (fun x hx acc => ?_) ?_
  · simp_arith [enc_prod]
    exact fun _ => trivial
  · rw [filt_true]
    simp_arith [enc_prod]
    refine ⟨Nat.ble_eq_true_of_le (by omega), ?_⟩
    simp [endsOf, enc_prod, enc_int, Function.comp_def]
def SpWrong (f : Fn) : Prop := ∀ (S : Sto) (js : List (End × List (End × Int))) (most : Int), js.length ≤ 10 → (∀ j ∈ js, 1 ≤ j.2.length ∧ j.2.length ≤ 3) → (∀ j ∈ js, ∀ b ∈ j.2, isBit b.2) → (∀ e ∈ allEnds js, 0 ≤ e.1 ∧ e.1 ≤ most ∧ isBit e.2) → (allEnds js).Nodup → f [enc js, .int most] S = .ok .non S
theorem allEnds_len {js : List (End × List (End × Int))} (h : ∀ j ∈ js, 1 ≤ j.2.length ∧ j.2.length ≤ 3) : (allEnds js).length ≤ 4 * js.length := by
  induction js with
  | nil => simp [allEnds]
  | cons j js ih =>
    have h1 := ih fun j hj => h j (List.mem_cons_of_mem _ hj)
    have h2 := h j List.mem_cons_self
    simp only [allEnds, List.flatMap_cons, List.length_append, endsOf, List.length_cons, List.length_map] at h1 ⊢
    omega
theorem spWrong (F : Nat → Fn) (iJ iA : Nat) (hJ : SpB isJointB (F iJ)) (hA : SpEnds (F iA)) : SpWrong (liftF (fnSem 6 2 (svs F (b_wrong_joint iJ iA)))) := fun S js most h1 h2 h3 h4 h5 => by
  refine lift_flat rfl (by simp [bws_cons, Enc.flat, bws_nil, bw_int]) rfl ?_
  simp only [b_wrong_joint, List.map, List.cons_append, List.nil_append, List.replicate, enc_list]
  simp_arith []
  refine ⟨rfl, ?_⟩
  obtain ⟨I, hI⟩ : ∃ I : List ((End × List (End × Int)) × Nat) → En → Sto → Prop, ∀ done ρ S, I done ρ S ↔ ∃ z1 z2 z3 : Option D, ρ = [some (.tup (js.map enc)), some (.int most), some (.ref 0), z1, z2, z3] ∧ S.objs[0]? = some (.lst ((allEnds (done.map (·.1))).map enc)) ∧ S.bs = [0] ∧ S.dirty = false := ⟨_, fun _ _ _ => Iff.rfl⟩
  refine for_fix (l := js.zipIdx) (enc := fun p => D.tup [.int (p.2 : Nat), enc p.1]) (by have := fix_enumI (ds := js.map enc); rw [List.zipIdx_map, List.map_map] at this; exact this) (by simp) I ((hI _ _ _).mpr ⟨_, _, _, rfl, rfl, rfl, rfl⟩) (fun done d rest ρ S e h => ?_) (fun ρ S h => ?_)
  · obtain ⟨z1, z2, z3, rfl, a2, a3, a4⟩ := (hI _ _ _).mp h
    obtain ⟨j, n⟩ := d
    have ejs : js = done.map (·.1) ++ j :: rest.map (·.1) := by
      have := congrArg (List.map (·.1)) e
      simpa using this
    have hj : j ∈ js := by rw [ejs]; simp
    have hsub : ∀ e ∈ endsOf j, e ∈ allEnds js := fun e he => by rw [ejs]; simp only [allEnds, List.flatMap_append, List.flatMap_cons, List.mem_append]; exact .inr (.inl he)
    have e1 := hJ S (enc j) most a4 (tyd_flat (Enc.flat _ _))
    rw [isJoint_enc (h2 j hj) (fun e he => h4 e (hsub e he)) (h3 j hj)] at e1
    have e2 := hA S j (by have := (h2 j hj).2; omega)
    simp_arith [e1, e2, add_new]
    have nd : (allEnds (done.map (·.1)) ++ endsOf j).Nodup := by
      rw [ejs] at h5
      simp only [allEnds, List.flatMap_append, List.flatMap_cons] at h5 ⊢
      rw [← List.append_assoc] at h5
      exact (List.nodup_append.mp h5).1
    obtain ⟨J, hJ'⟩ : ∃ J : List End → En → Sto → Prop, ∀ dn ρ S', J dn ρ S' ↔ ∃ z3 : Option D, ρ = [some (.tup (js.map enc)), some (.int most), some (.ref 0), some (.int (n : Nat)), some (enc j), z3] ∧ S'.objs[0]? = some (.lst ((allEnds (done.map (·.1)) ++ dn).map enc)) ∧ S'.objs[S.len]? = some (.lst ((endsOf j).map enc)) ∧ S'.bs = [0] ∧ S'.dirty = false := ⟨_, fun _ _ _ => Iff.rfl⟩
    have hS := lt_of_at a2
    refine for_enc (l := endsOf j) (enc := enc) (by simp) J ((hJ' _ _ _).mpr ⟨_, rfl, by simpa using add_at a2, add_new, a3, a4⟩) (fun dn rs ρ S' e' h' => ?_) (fun dn x rs ρ S' e' h' => ?_) (fun ρ S' h' => ?_)
    · obtain ⟨_, _, _, b3, _⟩ := (hJ' _ _ _).mp h'
      exact live_next b3 rfl e'
    · obtain ⟨z3, rfl, b2, b3, b4, b5⟩ := (hJ' _ _ _).mp h'
      have hin := in_refE (a := x) (S := S') b2 rfl (by decide)
      have hx : x ∉ allEnds (done.map (·.1)) ++ dn := by
        rw [e', ← List.append_assoc] at nd
        intro hx
        exact (List.nodup_append.mp nd).2.2 x hx x (by simp) rfl
      replace hin : in? S' (enc x) (.ref 0) = some false := by rw [hin]; simp only [hx, decide_false]
      simp_arith [hin, b2, ↓isLst_lst]
      have hal := allEnds_len h2
      have hle : (allEnds (done.map (·.1))).length + dn.length ≤ 100 := by
        have h6 : (allEnds js).length = (allEnds (done.map (·.1))).length + ((endsOf j).length + (allEnds (rest.map (·.1))).length) := by
          rw [ejs]; simp [allEnds, List.flatMap_append]
        have h7 := congrArg List.length e'
        simp at h7
        omega
      refine ⟨Nat.ble_eq_true_of_le (by omega), (hJ' _ _ _).mpr ⟨_, rfl, by rw [put_at b2]; simp, (put_ne (by omega)).trans b3, b4, b5⟩⟩
    · obtain ⟨z3, rfl, b2, b3, b4, b5⟩ := (hJ' _ _ _).mp h'
      refine (hI _ _ _).mpr ⟨_, _, _, rfl, ?_, b4, b5⟩
      rw [b2]
      simp [allEnds_append, endsOf]
  · obtain ⟨z1, z2, z3, rfl, a2, a3, a4⟩ := (hI _ _ _).mp h
    simp_arith [a4]
def SpFeeds (f : Fn) : Prop := ∀ (S : Sto) (l : List (Int × Int)) (most : Int), l.length ≤ 1000 → l.Pairwise (fun a b => a.1 < b.1) → (∀ x ∈ l, 0 ≤ x.1 ∧ x.1 ≤ most ∧ isBit x.2) → f [enc l, .int most] S = .ok (.bl true) S
theorem cutL_tail {α : Type} (l : List α) : cutL l (some 1) none = l.tail := by
  unfold cutL
  cases l with
  | nil => simp
  | cons a l => simp [HT.sIx]
theorem pw_zip {α : Type} {R : α → α → Prop} : ∀ {l : List α}, l.Pairwise R → ∀ p ∈ l.zip l.tail, R p.1 p.2
  | [], _, p, hp => by simp at hp
  | [a], _, p, hp => by simp at hp
  | a :: b :: l, h, p, hp => by
    simp only [List.tail_cons, List.zip_cons_cons, List.mem_cons] at hp
    obtain ⟨h1, h2⟩ := List.pairwise_cons.mp h
    rcases hp with rfl | hp
    · exact h1 b (by simp)
    · exact pw_zip h2 p hp
theorem spFeeds (F : Nat → Fn) (i : Nat) (hP : SpB isPairB (F i)) : SpFeeds (liftF (fnSem 4 2 (svs F (b_are_feeds i)))) := fun S l most h1 h2 h3 => by
  refine lift_flat rfl (by simp [bws_cons, Enc.flat, bws_nil, bw_int]) rfl ?_
  simp only [b_are_feeds, List.map, List.cons_append, List.nil_append, List.replicate, enc_list]
  simp_arith []
  refine comp_pure' (α := Int × Int) (enc := enc) (B := []) (bs := [0]) (l := l) (fun _ => true) (fun x => .bl (isPairB most (enc x))) of_items rfl rfl (by simp) (by omega) (by simp) (fun x hx acc => ?_) ?_
  · have e := hP ⟨[.lst acc], [0], false⟩ (enc x) most rfl (tyd_flat (Enc.flat _ _))
    simp_arith [e]
    exact fun _ => trivial
  · rw [filt_true]
    have e : (l.map fun x => isPairB most (enc x)).all id = true := by
      simp only [List.all_map, List.all_eq_true]
      intro x hx
      exact isPair_enc (h3 x hx).1 (h3 x hx).2.1 (h3 x hx).2.2
    simp_arith [bls_map, e]
    have ez : (l.map enc).zip (cutL (l.map enc) (some 1) none) = (l.zip l.tail).map fun p => (enc p.1, enc p.2) := by
      rw [cutL_tail, List.map_tail.symm, List.zip_map]
      rfl
    refine comp_pure' (α := (Int × Int) × (Int × Int)) (enc := fun p => .tup [enc p.1, enc p.2]) (B := [O.lst (l.map fun x => .bl (isPairB most (enc x)))]) (bs := [0]) (l := l.zip l.tail) (fun _ => true) (fun p => .bl (decide (p.1.1 < p.2.1))) (by have := of_zipI (B := [O.lst (l.map fun x => .bl (isPairB most (enc x)))]) (xs := l.map enc) (ys := cutL (l.map enc) (some 1) none); rw [ez, List.map_map] at this; exact this) rfl rfl (by simp; omega) (by simp; omega) (by simp) (fun x hx acc => ?_) ?_
    · simp_arith [enc_prod, enc_int]
      exact fun _ => trivial
    · rw [filt_true]
      have e2 : ((l.zip l.tail).map fun p => decide (p.1.1 < p.2.1)).all id = true := by
        simp only [List.all_map, List.all_eq_true]
        intro x hx
        simpa using pw_zip h2 x hx
      simp_arith [bls_map, e2]
def SpNeed (f : Fn) : Prop := ∀ (S : Sto) (y : Lay), y.Ok → f [y.d] S = .ok y.d S
theorem Lay.flat (y : Lay) (k : Nat) : D.blw k y.d = true := by simp [Lay.d, bw_tup, bws_cons, bws_nil, Enc.flat]
theorem asc_len : ∀ (l : List Int) (a n : Int), l.Pairwise (· < ·) → (∀ x ∈ l, a ≤ x ∧ x < n) → (l.length : Int) ≤ max 0 (n - a)
  | [], a, n, _, _ => by simp; omega
  | x :: l, a, n, h1, h2 => by
    obtain ⟨h3, h4⟩ := List.pairwise_cons.mp h1
    have h5 := h2 x (by simp)
    have := asc_len l (x + 1) n h4 fun y hy => ⟨by have := h3 y hy; omega, (h2 y (by simp [hy])).2⟩
    simp only [List.length_cons]
    omega
theorem Lay.Ok.fl {y : Lay} (h : y.Ok) : y.feeds.length ≤ 10 := by
  have h1 : (y.feeds.map (·.1)).Pairwise (· < ·) := List.pairwise_map.mpr h.fa
  have h2 := asc_len _ 0 y.lens.length h1 fun x hx => by
    obtain ⟨f, hf, rfl⟩ := List.mem_map.mp hx
    have := h.fi f hf
    exact ⟨this.1, this.2.1⟩
  have := h.n10
  simp only [List.length_map] at h2
  omega
theorem spNeed (F : Nat → Fn) (iL iW iF : Nat) (hL : SpLens (F iL)) (hW : SpWrong (F iW)) (hF : SpFeeds (F iF)) : SpNeed (liftF (fnSem 3 1 (svs F (b_need_layout iL iW iF)))) := fun S y h => by
  refine lift_flat rfl (by simp [bws_cons, Lay.flat, bws_nil]) (Lay.flat y 0) ?_
  simp only [b_need_layout, List.map, List.cons_append, List.nil_append, List.replicate, Lay.d, enc_list]
  have e1 : ∀ S, F iL [.tup (y.lens.map enc)] S = .ok (.bl true) S := fun S => hL S y.lens h.n1 h.n10 h.ln
  have e2 : ∀ S, F iW [.tup (y.joints.map enc), .int (y.lens.length - 1)] S = .ok .non S := fun S => hW S y.joints (y.lens.length - 1) h.jn h.b1 h.bc (fun e he => by have := h.en e he; exact ⟨this.1, by omega, this.2.2⟩) h.nd
  have e3 : ∀ S, F iF [.tup (y.feeds.map enc), .int (y.lens.length - 1)] S = .ok (.bl true) S := fun S => hF S y.feeds (y.lens.length - 1) (by have := h.fl; omega) h.fa (fun e he => by have := h.fi e he; exact ⟨this.1, by omega, this.2.2⟩)
  have hj : ¬ (10 : Int) < y.joints.length := by have := h.jn; omega
  simp_arith [e1, e2, e3, Int.cast_ofNat_Int, hj]
end Sw

/-! P3: links, ties. -/
namespace Sw
open PySem L2 Enc
local macro_rules | `(tactic| simp_arith [$xs,*]) => `(tactic| simp only [↓e_lit, ↓e_var, ↓e_bin, ↓e_cmp, ↓e_chain, ↓e_neg, ↓e_not, ↓e_and, ↓e_or, ↓e_ite, ↓e_tup, ↓e_lst, ↓e_dnewT, ↓e_dnewF, ↓e_ix, ↓e_sl, ↓p_none, ↓p_some, ↓e_call, ↓e_bi, ↓e_isi, ↓e_app, ↓e_pop, ↓e_get, ↓e_rev, ↓e_lenum, ↓e_dispk, ↓op_srcR, ↓op_enumR, ↓op_zipR, turns_live, turns_enumL, turns_zipL, turns_items, turns_enumI, turns_zipI, turns_range, Option.bind_some, Option.elim_some, ↓e_comp, ↓s_wh, ↓a_nil, ↓a_cons, ↓a_star, ↓g_name, ↓g_tup, ↓gs_nil, ↓gs_cons, ↓s_nil, ↓s_cons, ↓s_expr, ↓s_ret, ↓s_asg, ↓s_aug, ↓s_put, ↓s_ite, ↓s_pass, ↓s_brk, ↓s_cont, ↓i_e, ↓i_r1, ↓i_r2, ↓i_enum, ↓i_zip, ↓s_fo, ↓look_z, ↓look_s, ↓tb_bl, ↓ti_int, ↓tr_ref, ↓tt_tup, ↓op_some, ↓to_ok, ↓st_nx, ↓st_rt, ↓st_bk, ↓st_ct, List.set_cons_zero, List.set_cons_succ, boD, coD, biN, aoD, ↓p_addI, ↓p_addT, ↓p_addL, ↓p_sub, ↓p_mul, ↓p_fdiv, ↓p_mod, ↓p_pow, ↓p_iaddI, ↓p_iaddL, ↓p_isub, ↓p_lt, ↓p_gt, ↓p_le, ↓p_ge, ↓p_eq, ↓p_ne, ↓p_in, ↓p_notIn, ↓q_int, ↓p_isNN, ↓p_isTN, ↓p_isIN, ↓p_isRN, ↓p_isntNN, ↓p_isntTN, ↓p_isntIN, ↓p_isntRN, ↓p_isBB, ↓p_isntBB, ↓p_ixT, ↓p_ixR, ↓p_slT, ↓p_slR, ↓p_lenT, ↓p_lenR, ↓p_intI, ↓p_intB, ↓p_min, ↓p_max, ↓p_bl, ↓p_sum, ↓p_tupleT, ↓p_tupleR, ↓p_listT, ↓p_listR, ↓p_app, ↓p_pop0, ↓p_popI, ↓p_get1, ↓p_revT, ↓p_revR, ↓p_isi, ↓op_dput, ↓op_list, src_tup, enum_tup, zip_tup, seqO_lst, seqO_frz, lstO_lst, lenO_lst, lenO_frz, ixO_lst, isLst_lst, seqOf_tup, decide_eq_true_eq, List.length_cons, List.length_nil, Nat.beq, true_and, Nat.reduceAdd, List.getElem?_cons_zero, List.getElem?_cons_succ, get_app0, get_app, set_app0, set_app, List.append_assoc, List.cons_append, List.nil_append, List.length_append, wipeE, ↓op_map, ↓atI_map, atI_0, atI_1, atI_2, atI_3, List.length_map, st_enter, st_add, st_putT, st_len, bw_int, bw_bl, bw_non, bw_str, bw_tup, bws_nil, bws_cons, Enc.flat, flats, Bool.and_true, Bool.and_self, isT_tup, sub_TT, List.any_cons, List.any_nil, Bool.or_false, Bool.not_true, Bool.not_false, if_true, if_false, Bool.false_eq_true, decide_true, decide_false, $xs,*])
def b_ties_in (i_links_of i_is_cut_in i_ends_in i_crossing : Nat) : Ts := (.cons (.asg (.lst .nil) (.name 2)) (.cons (.fo (.e (.call i_links_of (.cons (.var 0) .nil))) (.name 3) (.cons (.ite (.or (.not (.call i_is_cut_in (.cons (.var 0) (.cons (.var 3) .nil)))) (.cmp .is_in (.var 3) (.var 1))) (.cons (.asg (.call i_ends_in (.cons (.var 0) (.cons (.var 3) .nil))) (.tup 2 (.cons (.name 4) (.cons (.name 5) .nil)))) (.cons (.expr (.meth .append (.var 2) (.cons (.tup (.cons (.ix (.var 4) (.lit (.int 0))) (.cons (.ix (.var 5) (.lit (.int 0))) (.cons (.call i_crossing (.cons (.var 0) (.cons (.var 3) .nil))) (.cons (.tup (.cons (.lit (.str "link")) (.cons (.ix (.var 3) (.lit (.int 0))) (.cons (.ix (.var 3) (.lit (.int 1))) .nil)))) .nil))))) .nil))) .nil)) .nil) .nil)) (.cons (.ret (.bin .add (.var 2) (.comp (.e (.ix (.var 0) (.lit (.int 2)))) [6, 7] (.tup 2 (.cons (.name 6) (.cons (.name 7) .nil))) (.lit (.bl true)) (.tup (.cons (.var 6) (.cons (.lit (.int (-1))) (.cons (.var 7) (.cons (.tup (.cons (.lit (.str "feed")) (.cons (.var 6) .nil))) .nil)))))))) .nil)))
abbrev Link := Int × Int
/-- a link, its stem, its end, its cut -/
abbrev Rw := Link × End × End × Int
def rowsOf (j : End × List (End × Int)) (i : Nat) : List Rw := j.2.zipIdx.map fun b => (((i : Int), (b.2 : Int)), j.1, b.1.1, b.1.2)
def Lay.rows (y : Lay) : List Rw := y.joints.zipIdx.flatMap fun p => rowsOf p.1 p.2
def Lay.links (y : Lay) : List Link := y.rows.map (·.1)
theorem mem_rows {y : Lay} {r : Rw} : r ∈ y.rows ↔ ∃ (i k : Nat) (j : End × List (End × Int)) (b : End × Int), y.joints[i]? = some j ∧ j.2[k]? = some b ∧ r = (((i : Int), (k : Int)), j.1, b.1, b.2) := by
  simp only [Lay.rows, List.mem_flatMap, rowsOf, List.mem_map]
  constructor
  · rintro ⟨⟨j, i⟩, h1, ⟨b, k⟩, h2, rfl⟩
    exact ⟨i, k, j, b, List.mem_zipIdx_iff_getElem?.mp h1, List.mem_zipIdx_iff_getElem?.mp h2, rfl⟩
  · rintro ⟨i, k, j, b, h1, h2, rfl⟩
    exact ⟨(j, i), List.mem_zipIdx_iff_getElem?.mpr h1, (b, k), List.mem_zipIdx_iff_getElem?.mpr h2, rfl⟩
theorem enumI_enc {α : Type} {f : α → D} {l : List α} : (Src.enumI (l.map f)).Fix (l.zipIdx.map fun p => .tup [.int (p.2 : Nat), f p.1]) := by
  have := fix_enumI (ds := l.map f)
  rw [List.zipIdx_map, List.map_map] at this
  exact this
theorem rows_len {y : Lay} (h : y.Ok) : y.rows.length ≤ 30 := by
  have key : ∀ (js : List (End × List (End × Int))) (n : Nat), (∀ j ∈ js, j.2.length ≤ 3) → ((js.zipIdx n).flatMap fun p => rowsOf p.1 p.2).length ≤ 3 * js.length := by
    intro js
    induction js with
    | nil => simp
    | cons j js ih =>
      intro n hj
      have h1 := ih (n + 1) fun j h => hj j (List.mem_cons_of_mem _ h)
      have h2 := hj j List.mem_cons_self
      simp only [List.zipIdx_cons, List.flatMap_cons, List.length_append, rowsOf, List.length_map, List.length_zipIdx, List.length_cons] at h1 ⊢
      omega
  have := key y.joints 0 fun j hj => (h.b1 j hj).2
  have := h.jn
  simp only [Lay.rows]
  omega
theorem joint_at {y : Lay} {i : Nat} {j : End × List (End × Int)} (h : y.joints[i]? = some j) : atI (y.joints.map enc) (i : Int) = some (enc j) := by
  rw [atI_nat, List.getElem?_map, h]; rfl
theorem rows_links (j : End × List (End × Int)) (n : Nat) : (rowsOf j n).map (fun r => enc r.1) = (List.range j.2.length).map fun k : Nat => D.tup [.int (n : Nat), .int (0 + (k : Nat))] := by
  apply List.ext_getElem?
  intro i
  simp only [rowsOf, List.map_map, List.getElem?_map, List.getElem?_zipIdx, List.getElem?_range']
  by_cases h : i < j.2.length
  · simp [h, enc_prod, enc_int]
  · simp [h]
/-! ### links_of -/
def SpLinks (f : Fn) : Prop := ∀ (S : Sto) (y : Lay), y.Ok → f [y.d] S = .ok (.ref S.len) (S.add (.lst (y.links.map enc)))
theorem spLinks (F : Nat → Fn) : SpLinks (liftF (fnSem 5 1 (svs F b_links_of))) := fun S y h => by
  refine lift_lst rfl (by simp [bws_cons, Lay.flat, bws_nil]) (flats _ _) ?_
  simp only [b_links_of, List.map, List.cons_append, List.nil_append, List.replicate, Lay.d, enc_list]
  simp_arith []
  refine ⟨rfl, ?_⟩
  obtain ⟨I, hI⟩ : ∃ I : List ((End × List (End × Int)) × Nat) → En → Sto → Prop, ∀ done ρ S, I done ρ S ↔ ∃ z1 z2 z3 : Option D, ρ = [some (.tup [.tup (y.lens.map enc), .tup (y.joints.map enc), .tup (y.feeds.map enc)]), some (.ref 0), z1, z2, z3] ∧ S.objs[0]? = some (.lst ((done.flatMap fun p => rowsOf p.1 p.2).map fun r => enc r.1)) ∧ S.bs = [0] ∧ S.dirty = false := ⟨_, fun _ _ _ => Iff.rfl⟩
  refine for_fix (l := y.joints.zipIdx) (enc := fun p => D.tup [.int (p.2 : Nat), enc p.1]) ?a1 ?a2 I ?a3 ?a4 ?a5
  case a1 => exact enumI_enc
  case a2 => simp
  case a3 => exact ((hI _ _ _).mpr ⟨_, _, _, rfl, by simp, rfl, rfl⟩)
  · intro done d rest ρ S e h'
    have h2 := (hI _ _ _).mp h'
    rcases h2 with ⟨z1, z2, z3, hρ, a2, a3, a4⟩
    subst hρ
    obtain ⟨j, n⟩ := d
    have hj : j ∈ y.joints := by
      have : (j, n) ∈ y.joints.zipIdx := by rw [e]; simp
      exact List.mem_of_getElem? (List.mem_zipIdx_iff_getElem?.mp this)
    have hjl := h.b1 j hj
    have hR : okR (j.2.length : Int) = true := by simp only [okR, Bool.and_eq_true, decide_eq_true_eq]; omega
    simp_arith [enc_prod, enc_list, hR, Int.toNat_natCast]
    obtain ⟨B, bs, t⟩ := S
    obtain rfl : t = false := a4
    obtain rfl : bs = [0] := a3
    refine comp_pure' (α := Nat) (B := B) (bs := [0]) (l := List.range j.2.length) (enc := fun i => D.int (0 + (i : Nat))) (fun _ => true) (fun k => .tup [.int (n : Nat), .int (0 + (k : Nat))]) of_range rfl rfl (by simp) (by simp; omega) (by simp) (fun x hx acc => ?_) ?_
    · simp_arith []
      exact fun _ => ⟨rfl, trivial⟩
    · rw [filt_true]
      have a2' : ∀ L : List O, (B ++ L)[0]? = some (.lst ((done.flatMap fun p => rowsOf p.1 p.2).map fun r => enc r.1)) := fun L => by
        rw [List.getElem?_append_left (List.getElem?_eq_some_iff.mp a2).1]; exact a2
      simp_arith [a2']
      have hb : D.blws 0 (List.map (fun k : Nat => D.tup [D.int (n : Nat), D.int (0 + (k : Nat))]) (List.range j.2.length)) = true := bws_map (fun a => rfl) _
      simp_arith [hb]
      have hl := rows_len h
      have hle : (done.flatMap fun p => rowsOf p.1 p.2).length + j.2.length ≤ 30 := by
        have e1 : y.rows = (done.flatMap fun p => rowsOf p.1 p.2) ++ (rowsOf j n ++ rest.flatMap fun p => rowsOf p.1 p.2) := by
          rw [Lay.rows, e, List.flatMap_append, List.flatMap_cons]
        have e2 := congrArg List.length e1
        have e3 : (rowsOf j n).length = j.2.length := by simp [rowsOf]
        simp only [List.length_append, e3] at e2
        omega
      refine ⟨Nat.ble_eq_true_of_le (by simp only [List.length_range]; omega), (hI _ _ _).mpr ⟨_, _, _, rfl, ?_, rfl, rfl⟩⟩
      rw [getElem?_setN (a2' _), List.flatMap_append, List.flatMap_cons, List.flatMap_nil, List.append_nil, List.map_append, rows_links]
  · intro ρ S h'
    have h2 := (hI _ _ _).mp h'
    rcases h2 with ⟨z1, z2, z3, hρ, a2, a3, a4⟩
    subst hρ
    simp_arith []
    refine ⟨a4, 0, rfl, ?_⟩
    rw [a2, Lay.links, Lay.rows, List.map_map]
    rfl
/-! ### a link's parts -/
def SpEndsIn (f : Fn) : Prop := ∀ (S : Sto) (y : Lay) (r : Rw), r ∈ y.rows → f [y.d, enc r.1] S = .ok (.tup [enc r.2.1, enc r.2.2.1]) S
theorem br_at {j : End × List (End × Int)} {k : Nat} {b : End × Int} (h : j.2[k]? = some b) : atI (j.2.map enc) (k : Int) = some (enc b) := by
  rw [atI_nat, List.getElem?_map, h]; rfl
theorem spEndsIn (F : Nat → Fn) : SpEndsIn (liftF (fnSem 3 2 (svs F b_ends_in))) := fun S y r h => by
  obtain ⟨i, k, j, b, h1, h2, rfl⟩ := mem_rows.mp h
  refine lift_flat rfl (by simp [bws_cons, Lay.flat, Enc.flat, bws_nil]) (by simp [bw_tup, bws_cons, Enc.flat, bws_nil]) ?_
  have e1 : (atI y.joints (i : Int)) = some j := by rw [atI_nat, h1]
  have e2 : (atI j.2 (k : Int)) = some b := by rw [atI_nat, h2]
  simp only [b_ends_in, List.map, List.cons_append, List.nil_append, List.replicate, Lay.d, enc_list, enc_prod, enc_int]
  simp_arith [e1, e2, enc_prod, enc_list]
  exact ⟨rfl, rfl⟩
def SpCutIn (f : Fn) : Prop := ∀ (S : Sto) (y : Lay) (r : Rw), r ∈ y.rows → f [y.d, enc r.1] S = .ok (.bl (decide (r.2.2.2 = 1))) S
theorem spCutIn (F : Nat → Fn) : SpCutIn (liftF (fnSem 2 2 (svs F b_is_cut_in))) := fun S y r h => by
  obtain ⟨i, k, j, b, h1, h2, rfl⟩ := mem_rows.mp h
  refine lift_flat rfl (by simp [bws_cons, Lay.flat, Enc.flat, bws_nil]) rfl ?_
  have e1 : (atI y.joints (i : Int)) = some j := by rw [atI_nat, h1]
  have e2 : (atI j.2 (k : Int)) = some b := by rw [atI_nat, h2]
  simp only [b_is_cut_in, List.map, List.cons_append, List.nil_append, List.replicate, Lay.d, enc_list, enc_prod, enc_int]
  simp_arith [e1, e2, enc_prod, enc_list, enc_int]
def crossI (r : Rw) : Int := if r.2.1.2 = r.2.2.1.2 then 1 else 0
def SpCross (f : Fn) : Prop := ∀ (S : Sto) (y : Lay) (r : Rw), r ∈ y.rows → f [y.d, enc r.1] S = .ok (.int (crossI r)) S
theorem spCross (F : Nat → Fn) (i : Nat) (hE : SpEndsIn (F i)) : SpCross (liftF (fnSem 4 2 (svs F (b_crossing i)))) := fun S y r h => by
  refine lift_flat rfl (by simp [bws_cons, Lay.flat, Enc.flat, bws_nil]) rfl ?_
  have e1 := fun S => hE S y r h
  simp only [b_crossing, List.map, List.cons_append, List.nil_append, List.replicate]
  simp_arith [e1]
  simp_arith [enc_prod, enc_int, crossI]
/-! ### spans -/
theorem seq_cases {S : Sto} {x : D} {xs : List D} (h : seqOf S x = some xs) : x = .tup xs ∨ ∃ n o, x = .ref n ∧ S.objs[n]? = some o ∧ seqO o = some xs := by
  cases x with
  | tup ys => simp only [seqOf] at h; cases h; exact .inl rfl
  | ref n =>
    simp only [seqOf, list_eq] at h
    cases e : S.objs[n]? with
    | none => rw [e] at h; cases h
    | some o => rw [e] at h; exact .inr ⟨n, o, rfl, e, h⟩
  | _ => cases h
theorem in_seq {α : Type} [Enc α] {S : Sto} {x : D} {l : List α} {a : α} [Decidable (a ∈ l)] (h : seqOf S x = some (l.map enc)) (hd : Enc.dep α ≤ 60) : in? S (enc a) x = some (decide (a ∈ l)) := by
  rcases seq_cases h with rfl | ⟨n, o, rfl, h1, h2⟩
  · exact in_tupE hd
  · exact in_refE h1 h2 hd
inductive Stp where
  | link (i k : Int)
  | feed (p : Int)
  deriving DecidableEq
def Stp.d : Stp → D
  | .link i k => .tup [.str "link", .int i, .int k]
  | .feed p => .tup [.str "feed", .int p]
structure Tie where
  a : Int
  b : Int
  u : Int
  s : Stp
def Tie.d (t : Tie) : D := .tup [.int t.a, .int t.b, .int t.u, t.s.d]
theorem Tie.flat (t : Tie) (k : Nat) : D.blw k t.d = true := by
  obtain ⟨a, b, u, s⟩ := t
  cases s <;> simp [Tie.d, Stp.d, bw_tup, bws_cons, bws_nil, bw_int, bw_str]
def tieOf (r : Rw) : Tie := ⟨r.2.1.1, r.2.2.1.1, crossI r, .link r.1.1 r.1.2⟩
def tieF (f : Int × Int) : Tie := ⟨f.1, -1, f.2, .feed f.1⟩
def Lay.live (y : Lay) (l : List Link) : List Rw := y.rows.filter fun r => !decide (r.2.2.2 = 1) || decide (r.1 ∈ l)
def Lay.ties (y : Lay) (l : List Link) : List Tie := (y.live l).map tieOf ++ y.feeds.map tieF
def SpTies (f : Fn) : Prop := ∀ (S : Sto) (y : Lay) (x : D) (l : List Link), S.dirty = false → y.Ok → seqOf S x = some (l.map enc) → f [y.d, x] S = .ok (.ref S.len) (S.add (.lst ((y.ties l).map Tie.d)))
theorem lift_new {f : Fn} {ds xs : List D} {S : Sto} (h : f ds S = .ok (.ref S.len) (S.add (.lst xs))) (h0 : D.blws 0 ds = true → f ds emp = .ok (.ref 0) (emp.add (.lst xs))) (hx : D.blws 0 xs = true) : liftF f ds S = .ok (.ref S.len) (S.add (.lst xs)) := by
  unfold liftF
  split
  · rename_i hb
    rw [h0 hb]
    have h1 : D.blw 0 (.ref 0) = false := rfl
    have h2 : (emp.add (.lst xs)).objs[0]? = some (.lst xs) := rfl
    have h3 : (O.lst xs).blw 0 = true := hx
    simp only [h1, h2, h3]
  · exact h
theorem spTies (F : Nat → Fn) (iL iC iE iX : Nat) (hL : SpLinks (F iL)) (hC : SpCutIn (F iC)) (hE : SpEndsIn (F iE)) (hX : SpCross (F iX)) : SpTies (liftF (fnSem 8 2 (svs F (b_ties_in iL iC iE iX)))) := by
  have key : ∀ (S : Sto) (y : Lay) (x : D) (l : List Link), S.dirty = false → y.Ok → seqOf S x = some (l.map enc) → fnSem 8 2 (svs F (b_ties_in iL iC iE iX)) [y.d, x] S = .ok (.ref S.len) (S.add (.lst ((y.ties l).map Tie.d))) := fun S y x l h1 h2 h3 => by
    obtain ⟨B, bs, t⟩ := S
    obtain rfl : t = false := h1
    refine Res.To.eq (fn_to rfl ?_)
    generalize hQ : (fun (b : D) (S_1 : Sto) => b = .ref (Sto.len ⟨B, bs, false⟩) ∧ S_1 = Sto.add ⟨B, bs, false⟩ (.lst ((y.ties l).map Tie.d))) = Q
    simp only [b_ties_in, List.map, List.cons_append, List.nil_append, List.replicate]
    have e1 := fun S => hL S y h2
    simp_arith [e1]
    refine ⟨rfl, ?_⟩
    have hrl := rows_len h2
    -- what is kept: the base, the list found, the links
    obtain ⟨I, hI⟩ : ∃ I : List Rw → En → Sto → Prop, ∀ done ρ S, I done ρ S ↔ ∃ z3 z4 z5 : Option D, ρ = [some y.d, some x, some (.ref B.length), z3, z4, z5, none, none] ∧ S = ⟨B ++ [.lst ((done.filter fun r => !decide (r.2.2.2 = 1) || decide (r.1 ∈ l)).map fun r => (tieOf r).d), .lst (y.links.map enc)], B.length :: bs, false⟩ := ⟨_, fun _ _ _ => Iff.rfl⟩
    have hlinks : y.links.map enc = y.rows.map fun r => enc r.1 := by rw [Lay.links, List.map_map]; rfl
    refine for_enc (l := y.rows) (enc := fun r => enc r.1) ?a1 I ?a2 ?a3 ?a4 ?a5
    case a1 => simp [Lay.links]
    case a2 => exact (hI _ _ _).mpr ⟨_, _, _, rfl, by simp⟩
    case a3 =>
      intro done rest ρ S e h
      obtain ⟨_, _, _, _, hS⟩ := (hI _ _ _).mp h
      subst hS
      refine live_next (o := .lst (y.links.map enc)) ?_ ?_ e
      · rw [get_app]; rfl
      · rw [seqO_lst, hlinks]
    case a4 =>
      intro done r rest ρ S e h
      obtain ⟨z3, z4, z5, hρ, hS⟩ := (hI _ _ _).mp h
      subst hρ hS
      have hr : r ∈ y.rows := by rw [e]; simp
      have c1 := fun S => hC S y r hr
      have c2 := fun S => hE S y r hr
      have c3 := fun S => hX S y r hr
      have c4 : ∀ L t, in? ⟨B ++ L, t, false⟩ (enc r.1) x = some (decide (r.1 ∈ l)) := fun L t => by
        refine in_seq (α := Link) ?_ (by decide)
        rcases seq_cases h3 with rfl | ⟨n, o, rfl, q1, q2⟩
        · rfl
        · rw [seqOf_ref, list_at (o := o)]
          · exact q2
          · exact (List.getElem?_append_left (List.getElem?_eq_some_iff.mp q1).1).trans q1
      have hdl : (done.filter fun r => !decide (r.2.2.2 = 1) || decide (r.1 ∈ l)).length ≤ 30 := by
        have h5 := List.length_filter_le (fun r : Rw => !decide (r.2.2.2 = 1) || decide (r.1 ∈ l)) done
        have h6 := congrArg List.length e
        simp at h6
        omega
      have yes : (!decide (r.2.2.2 = 1) || decide (r.1 ∈ l)) = true → fits ((done.filter fun r => !decide (r.2.2.2 = 1) || decide (r.1 ∈ l)).length + 1) = true ∧ I (done ++ [r]) [some y.d, some x, some (.ref B.length), some (enc r.1), some (enc r.2.1), some (enc r.2.2.1), none, none] ⟨B ++ [.lst (((done.filter fun r => !decide (r.2.2.2 = 1) || decide (r.1 ∈ l)).map fun r => (tieOf r).d) ++ [(tieOf r).d]), .lst (y.links.map enc)], B.length :: bs, false⟩ := fun hc => by
        refine ⟨Nat.ble_eq_true_of_le (by omega), (hI _ _ _).mpr ⟨_, _, _, rfl, ?_⟩⟩
        rw [List.filter_append]
        simp [hc]
      simp_arith [c1, c2, c3, c4]
      by_cases hcut : r.2.2.2 = 1
      · by_cases hin : r.1 ∈ l
        · have y1 := yes (by simp [hin])
          simp_arith [hcut, hin]
          simp_arith [enc_prod, enc_int]
          exact ⟨rfl, rfl, y1.1, y1.2⟩
        · simp_arith [hcut, hin]
          refine (hI _ _ _).mpr ⟨_, _, _, rfl, ?_⟩
          rw [List.filter_append]
          simp [hcut, hin]
      · have y1 := yes (by simp [hcut])
        simp_arith [hcut]
        simp_arith [enc_prod, enc_int]
        exact ⟨rfl, rfl, y1.1, y1.2⟩
    case a5 =>
      intro ρ S h
      obtain ⟨z3, z4, z5, hρ, hS⟩ := (hI _ _ _).mp h
      subst hρ hS
      simp_arith [Lay.d]
      rw [enc_list y.feeds]
      simp_arith []
      have hfl := h2.fl
      refine comp_pure' (α := Int × Int) (enc := enc) (B := B ++ [O.lst ((y.live l).map fun r => (tieOf r).d), O.lst (y.links.map enc)]) (bs := B.length :: bs) (l := y.feeds) (fun _ => true) (fun f => (tieF f).d) of_items (by simp [Lay.live]) (by simp) (by simp) (by omega) (by simp) (fun f hf acc => ?_) ?_
      · simp_arith [enc_prod, enc_int]
        exact fun _ => ⟨rfl, rfl, rfl, trivial⟩
      · rw [filt_true]
        have hll : (y.live l).length ≤ 30 := Nat.le_trans (List.length_filter_le _ _) hrl
        simp_arith []
        refine ⟨Nat.ble_eq_true_of_le (by omega), ?_⟩
        have e5 : (y.ties l).map Tie.d = ((y.live l).map fun r => (tieOf r).d) ++ y.feeds.map fun f => (tieF f).d := by
          simp [Lay.ties, Function.comp_def]
        rw [← e5]
        rw [ret_list (o := .lst ((y.ties l).map Tie.d)) rfl (by simp [Sto.len]) get_app (bws_map (fun t => Tie.flat t _) _), ← hQ]
        exact ⟨rfl, by simp [Sto.len, Sto.add]⟩
  intro S y x l h1 h2 h3
  refine lift_new (key S y x l h1 h2 h3) (fun hb => key emp y x l rfl h2 ?_) (bws_map (fun t => Tie.flat t _) _)
  rcases seq_cases h3 with rfl | ⟨n, o, rfl, q1, q2⟩
  · rfl
  · simp only [D.blws, Lay.flat, Bool.true_and] at hb
    cases hb
end Sw

/-! P4: spread. -/
namespace Sw
open PySem L2 Enc
local macro_rules | `(tactic| simp_arith [$xs,*]) => `(tactic| simp only [↓e_lit, ↓e_var, ↓e_bin, ↓e_cmp, ↓e_chain, ↓e_neg, ↓e_not, ↓e_and, ↓e_or, ↓e_ite, ↓e_tup, ↓e_lst, ↓e_dnewT, ↓e_dnewF, ↓e_ix, ↓e_sl, ↓p_none, ↓p_some, ↓e_call, ↓e_bi, ↓e_isi, ↓e_app, ↓e_pop, ↓e_get, ↓e_rev, ↓e_lenum, ↓e_dispk, ↓op_srcR, ↓op_enumR, ↓op_zipR, turns_live, turns_enumL, turns_zipL, turns_items, turns_enumI, turns_zipI, turns_range, Option.bind_some, Option.elim_some, ↓e_comp, ↓s_wh, ↓a_nil, ↓a_cons, ↓a_star, ↓g_name, ↓g_tup, ↓gs_nil, ↓gs_cons, ↓s_nil, ↓s_cons, ↓s_expr, ↓s_ret, ↓s_asg, ↓s_aug, ↓s_put, ↓s_ite, ↓s_pass, ↓s_brk, ↓s_cont, ↓i_e, ↓i_r1, ↓i_r2, ↓i_enum, ↓i_zip, ↓s_fo, ↓look_z, ↓look_s, ↓tb_bl, ↓ti_int, ↓tr_ref, ↓tt_tup, ↓op_some, ↓to_ok, ↓st_nx, ↓st_rt, ↓st_bk, ↓st_ct, List.set_cons_zero, List.set_cons_succ, boD, coD, biN, aoD, ↓p_addI, ↓p_addT, ↓p_addL, ↓p_sub, ↓p_mul, ↓p_fdiv, ↓p_mod, ↓p_pow, ↓p_iaddI, ↓p_iaddL, ↓p_isub, ↓p_lt, ↓p_gt, ↓p_le, ↓p_ge, ↓p_eq, ↓p_ne, ↓p_in, ↓p_notIn, ↓q_int, ↓p_isNN, ↓p_isTN, ↓p_isIN, ↓p_isRN, ↓p_isntNN, ↓p_isntTN, ↓p_isntIN, ↓p_isntRN, ↓p_isBB, ↓p_isntBB, ↓p_ixT, ↓p_ixR, ↓p_slT, ↓p_slR, ↓p_lenT, ↓p_lenR, ↓p_intI, ↓p_intB, ↓p_min, ↓p_max, ↓p_bl, ↓p_sum, ↓p_tupleT, ↓p_tupleR, ↓p_listT, ↓p_listR, ↓p_app, ↓p_pop0, ↓p_popI, ↓p_get1, ↓p_revT, ↓p_revR, ↓p_isi, ↓op_dput, ↓op_list, src_tup, enum_tup, zip_tup, seqO_lst, seqO_frz, lstO_lst, lenO_lst, lenO_frz, ixO_lst, isLst_lst, seqOf_tup, decide_eq_true_eq, List.length_cons, List.length_nil, Nat.beq, true_and, Nat.reduceAdd, List.getElem?_cons_zero, List.getElem?_cons_succ, get_app0, get_app, set_app0, set_app, List.append_assoc, List.cons_append, List.nil_append, List.length_append, wipeE, ↓op_map, ↓atI_map, atI_0, atI_1, atI_2, atI_3, List.length_map, st_enter, st_add, st_putT, st_len, bw_int, bw_bl, bw_non, bw_str, bw_tup, bws_nil, bws_cons, Enc.flat, flats, Bool.and_true, Bool.and_self, isT_tup, sub_TT, List.any_cons, List.any_nil, Bool.or_false, Bool.not_true, Bool.not_false, if_true, if_false, Bool.false_eq_true, decide_true, decide_false, $xs,*])
def spIn : Ts := (.cons (.ite (.cmp .eq (.var 10) (.var 5)) (.cons (.asg (.bi .int (.cons (.cmp .ne (.ix (.var 3) (.var 10)) (.var 8)) .nil)) (.name 12)) (.cons (.ite (.cmp .notIn (.var 11) (.var 3)) (.cons (.put (.var 3) (.var 11) (.var 12)) (.cons (.expr (.meth .append (.var 4) (.cons (.var 11) .nil))) .nil)) (.cons (.ite (.cmp .ne (.ix (.var 3) (.var 11)) (.var 12)) (.cons (.ret (.lit (.bl false))) .nil) .nil) .nil)) .nil)) .nil) .nil)
def spMid : Ts := (.cons (.fo (.e (.tup (.cons (.tup (.cons (.var 6) (.cons (.var 7) .nil))) (.cons (.tup (.cons (.var 7) (.cons (.var 6) .nil))) .nil)))) (.tup 2 (.cons (.name 10) (.cons (.name 11) .nil))) spIn) .nil)
def spOut : Ts := (.cons (.asg (.meth .pop (.var 4) .nil) (.name 5)) (.cons (.fo (.e (.var 0)) (.tup 4 (.cons (.name 6) (.cons (.name 7) (.cons (.name 8) (.cons (.name 9) .nil))))) spMid) .nil))
def b_spread : Ts := (.cons (.put (.var 3) (.var 1) (.var 2)) (.cons (.asg (.lst (.cons (.var 1) .nil)) (.name 4)) (.cons (.wh 200 (.cmp .ne (.var 4) (.lst .nil)) spOut) (.cons (.ret (.lit (.bl true))) .nil))))
/-- a dict of whole numbers -/
def kd (kn : List (Int × Int)) : O := .dct (kn.map fun p => (.int p.1, .int p.2))
theorem kd_look : ∀ (kn : List (Int × Int)) (x : Int), dLook keyOf (kn.map fun p => ((.int p.1 : D), (.int p.2 : D))) (.inl x) = (kn.lookup x).map D.int
  | [], x => rfl
  | (a, v) :: kn, x => by
    simp only [List.map_cons, dLook, keyOf, List.lookup_cons]
    by_cases h : a = x
    · subst h; simp
    · have h1 : decide ((Sum.inl a : Key) = Sum.inl x) = false := decide_eq_false (fun z => h (Sum.inl.inj z))
      have h2 : (x == a) = false := beq_eq_false_iff_ne.mpr (Ne.symm h)
      simp only [h1, h2, kd_look kn x]
theorem kd_get (kn : List (Int × Int)) (x : Int) : getO (kd kn) (.int x) = some ((kn.lookup x).map D.int) := by
  simp only [getO, kd, keyOf, kd_look]
theorem kd_ix (kn : List (Int × Int)) (x : Int) : ixO (kd kn) (.int x) = (kn.lookup x).map D.int := by
  have h : seqO (kd kn) = none := rfl
  simp only [ixO, h, kd_get]
  cases kn.lookup x <;> rfl
theorem kd_put {kn : List (Int × Int)} {x v : Int} (h : kn.lookup x = none) (hl : kn.length ≤ 1000) : dputO (kd kn) (.int x) (.int v) = some (kd (kn ++ [(x, v)])) := by
  have hf : fits (kn.length + 1) = true := Nat.ble_eq_true_of_le (by omega)
  simp only [dputO, kd, keyOf, List.length_map, hf, dPut, kd_look, h, Option.map_none, List.map_append, List.map_cons, List.map_nil]
theorem kd_in {S : Sto} {n : Nat} {kn : List (Int × Int)} (x : Int) (h : S.objs[n]? = some (kd kn)) : in? S (.int x) (.ref n) = some (kn.lookup x).isSome := by
  have h0 : seqO (kd kn) = none := rfl
  rw [in_ref h, h0]
  simp only [kd_get, Option.map_some, Option.isSome_map]
/-- the sign due across a tie -/
def xr (v u : Int) : Int := if v = u then 0 else 1
theorem xr_bit (v u : Int) : isBit (xr v u) := by unfold xr; split <;> simp [isBit]
theorem xr_sym {v w u : Int} (hv : isBit v) (hw : isBit w) (hu : isBit u) : w = xr v u ↔ v = xr w u := by
  rcases hv with rfl | rfl <;> rcases hw with rfl | rfl <;> rcases hu with rfl | rfl <;> decide
/-- a way of signs with which all ties fit -/
structure FitsT (s : Int → Int) (ts : List Tie) : Prop where
  bit : ∀ x, isBit (s x)
  fit : ∀ t ∈ ts, s t.b = xr (s t.a) t.u
/-- both ends of a tie are known, and fit -/
def Sat (kn : List (Int × Int)) (t : Tie) : Prop := ∃ va vb, kn.lookup t.a = some va ∧ kn.lookup t.b = some vb ∧ vb = xr va t.u
structure Clo (U : List Int) (ts : List Tie) (kn : List (Int × Int)) : Prop where
  bit : ∀ x v, kn.lookup x = some v → isBit v
  ok : ∀ t ∈ ts, ((kn.lookup t.a).isSome = true ∨ (kn.lookup t.b).isSome = true) → Sat kn t
  inU : ∀ x, (kn.lookup x).isSome = true → x ∈ U
structure TiesIn (U : List Int) (ts : List Tie) : Prop where
  a : ∀ t ∈ ts, t.a ∈ U
  b : ∀ t ∈ ts, t.b ∈ U
  u : ∀ t ∈ ts, isBit t.u
/-- how many are not known yet -/
def free (U : List Int) (kn : List (Int × Int)) : Nat := (U.filter fun x => !(kn.lookup x).isSome).length
theorem look_app (kn : List (Int × Int)) (x v y : Int) : (kn ++ [(x, v)]).lookup y = (kn.lookup y).or (if y = x then some v else none) := by
  rw [List.lookup_append]
  congr 1
  simp only [List.lookup_cons, List.lookup_nil]
  by_cases h : y = x
  · simp [h]
  · have hb : (y == x) = false := beq_eq_false_iff_ne.mpr h
    simp [hb, h]
theorem free_app {U : List Int} {kn : List (Int × Int)} {x v : Int} (hU : U.Nodup) (hx : x ∈ U) (h : kn.lookup x = none) : free U (kn ++ [(x, v)]) + 1 = free U kn := by
  unfold free
  induction U with
  | nil => cases hx
  | cons a U ih =>
    obtain ⟨h1, h2⟩ := List.nodup_cons.mp hU
    by_cases hax : a = x
    · subst hax
      have e1 : ((kn ++ [(a, v)]).lookup a).isSome = true := by rw [look_app]; simp [h]
      have e2 : (kn.lookup a).isSome = false := by simp [h]
      rw [List.filter_cons, List.filter_cons]
      simp only [e1, e2, Bool.not_true, Bool.not_false, if_true, if_false, List.length_cons, Bool.false_eq_true]
      congr 2
      apply List.filter_congr
      intro y hy
      have : y ≠ a := fun z => h1 (z ▸ hy)
      rw [look_app]
      simp [this]
    · have hx' : x ∈ U := (List.mem_cons.mp hx).resolve_left (Ne.symm hax)
      have e3 : ((kn ++ [(x, v)]).lookup a).isSome = (kn.lookup a).isSome := by rw [look_app]; simp [hax]
      have := ih h2 hx'
      rw [List.filter_cons, List.filter_cons, e3]
      split
      · simp only [List.length_cons]; omega
      · exact this
/-- the state of spread: what was known at first, from where, which wait -/
structure Sp0 (U : List Int) (ts : List Tie) (k0 : List (Int × Int)) (node sign : Int) (kn : List (Int × Int)) (W : List Int) : Prop where
  bit : ∀ x v, kn.lookup x = some v → isBit v
  inU : ∀ x, (kn.lookup x).isSome = true → x ∈ U
  ext : ∀ x v, k0.lookup x = some v → kn.lookup x = some v
  forced : ∀ s, FitsT s ts → s node = sign → ∀ x v, kn.lookup x = some v → k0.lookup x = none → s x = v
  wt : ∀ x ∈ W, (kn.lookup x).isSome = true ∧ k0.lookup x = none
/-- all but those that wait are done -/
def Done (ts : List Tie) (k0 : List (Int × Int)) (kn : List (Int × Int)) (W : List Int) (here : Option Int) : Prop := ∀ t ∈ ts, ∀ x, (x = t.a ∨ x = t.b) → (kn.lookup x).isSome = true → k0.lookup x = none → x ∉ W → some x ≠ here → Sat kn t
theorem Sat.app {kn : List (Int × Int)} {t : Tie} {x v : Int} (h : Sat kn t) : Sat (kn ++ [(x, v)]) t := by
  obtain ⟨va, vb, h1, h2, h3⟩ := h
  exact ⟨va, vb, by rw [look_app, h1]; rfl, by rw [look_app, h2]; rfl, h3⟩
theorem Sp0.put {U : List Int} {ts : List Tie} {k0 : List (Int × Int)} {node sign : Int} {kn : List (Int × Int)} {W : List Int} {near far u v : Int} (h : Sp0 U ts k0 node sign kn W) (hv : kn.lookup near = some v) (hn : k0.lookup near = none) (hf : kn.lookup far = none) (hU : far ∈ U)
    (ht : ∀ s, FitsT s ts → s far = xr (s near) u) : Sp0 U ts k0 node sign (kn ++ [(far, xr v u)]) (W ++ [far]) := by
  have e0 : k0.lookup far = none := by
    cases e : k0.lookup far with
    | none => rfl
    | some w => have := h.ext far w e; rw [hf] at this; cases this
  refine ⟨fun x w hx => ?_, fun x hx => ?_, fun x w hx => ?_, fun s hs hsn x w hx hx0 => ?_, fun x hx => ?_⟩
  · rw [look_app] at hx
    by_cases e : x = far
    · subst e; rw [hf] at hx; simp at hx; subst hx; exact xr_bit _ _
    · simp only [e, if_false, Option.or_none] at hx; exact h.bit x w hx
  · rw [look_app] at hx
    by_cases e : x = far
    · subst e; exact hU
    · simp only [e, if_false, Option.or_none] at hx; exact h.inU x hx
  · rw [look_app, h.ext x w hx]; rfl
  · rw [look_app] at hx
    by_cases e : x = far
    · subst e; rw [hf] at hx; simp at hx; rw [← hx, ht s hs, h.forced s hs hsn near v hv hn]
    · simp only [e, if_false, Option.or_none] at hx; exact h.forced s hs hsn x w hx hx0
  · rcases List.mem_append.mp hx with hx | hx
    · have := h.wt x hx
      refine ⟨?_, this.2⟩
      rw [look_app]
      obtain ⟨w, hw⟩ := Option.isSome_iff_exists.mp this.1
      rw [hw]; rfl
    · simp only [List.mem_singleton] at hx
      subst hx
      refine ⟨?_, e0⟩
      rw [look_app]; simp
theorem Done.put {ts : List Tie} {k0 : List (Int × Int)} {kn : List (Int × Int)} {W : List Int} {here : Option Int} {far w : Int} (h : Done ts k0 kn W here) : Done ts k0 (kn ++ [(far, w)]) (W ++ [far]) here := fun t ht x hx h1 h2 h3 h4 => by
  rw [look_app] at h1
  have hne : x ≠ far := fun z => h3 (by simp [z])
  simp only [hne, if_false, Option.or_none] at h1
  exact (h t ht x hx h1 h2 (fun z => h3 (List.mem_append_left _ z)) h4).app
/-- where the things of spread stand -/
structure SpS (S0 S : Sto) (nT nK nW : Nat) (ts : List Tie) (kn : List (Int × Int)) (W : List Int) : Prop where
  kp : Kp [nK] S0 S
  t : S.objs[nT]? = some (.lst (ts.map Tie.d))
  k : S.objs[nK]? = some (kd kn)
  w : S.objs[nW]? = some (.lst (W.map D.int))
  l0 : S0.len ≤ nW
theorem SpS.ne {S0 S : Sto} {nT nK nW : Nat} {ts : List Tie} {kn : List (Int × Int)} {W : List Int} (h : SpS S0 S nT nK nW ts kn W) : nK ≠ nW := fun z => by have := h.k; rw [z, h.w] at this; cases this
theorem SpS.ne2 {S0 S : Sto} {nT nK nW : Nat} {ts : List Tie} {kn : List (Int × Int)} {W : List Int} (h : SpS S0 S nT nK nW ts kn W) : nK ≠ nT := fun z => by have := h.k; rw [z, h.t] at this; cases this
theorem SpS.putK {S0 S : Sto} {nT nK nW : Nat} {ts : List Tie} {kn kn' : List (Int × Int)} {W : List Int} (h : SpS S0 S nT nK nW ts kn W) : SpS S0 (S.put nK (kd kn') true) nT nK nW ts kn' W :=
  ⟨h.kp.putN (.inl (by simp)) h.kp.cl, (put_ne h.ne2).trans h.t, put_at h.k, (put_ne h.ne).trans h.w, h.l0⟩
theorem SpS.putW {S0 S : Sto} {nT nK nW : Nat} {ts : List Tie} {kn : List (Int × Int)} {W W' : List Int} (h : SpS S0 S nT nK nW ts kn W) (ht : nT < S0.len) : SpS S0 (S.put nW (.lst (W'.map D.int)) true) nT nK nW ts kn W' :=
  ⟨h.kp.putN (.inr h.l0) h.kp.cl, (put_ne (by have := h.l0; omega)).trans h.t, (put_ne (Ne.symm h.ne)).trans h.k, put_at h.w, h.l0⟩
/-- one way along a tie -/
theorem sp_dir (F : Nat → Fn) {S0 S : Sto} {nT nK nW : Nat} {ts : List Tie} {kn : List (Int × Int)} {W : List Int} {here one other u near far : Int} {d0 d1 d2 d9 d12 : Option D} {k : Ks} (hS : SpS S0 S nT nK nW ts kn W) (hT : nT < S0.len) (hl : kn.length ≤ 1000) (hW : W.length ≤ 1000) (hv : near = here → (kn.lookup near).isSome = true)
    (no : near ≠ here → ∀ d, k.nx [d0, d1, d2, some (.ref nK), some (.ref nW), some (.int here), some (.int one), some (.int other), some (.int u), d9, some (.int near), some (.int far), d] S)
    (add : ∀ v S' d, near = here → kn.lookup near = some v → kn.lookup far = none → SpS S0 S' nT nK nW ts (kn ++ [(far, xr v u)]) (W ++ [far]) → k.nx [d0, d1, d2, some (.ref nK), some (.ref nW), some (.int here), some (.int one), some (.int other), some (.int u), d9, some (.int near), some (.int far), d] S')
    (same : ∀ v d, near = here → kn.lookup near = some v → kn.lookup far = some (xr v u) → k.nx [d0, d1, d2, some (.ref nK), some (.ref nW), some (.int here), some (.int one), some (.int other), some (.int u), d9, some (.int near), some (.int far), d] S)
    (bad : ∀ v w, near = here → kn.lookup near = some v → kn.lookup far = some w → w ≠ xr v u → k.rt (.bl false) S) :
    (svs F spIn [d0, d1, d2, some (.ref nK), some (.ref nW), some (.int here), some (.int one), some (.int other), some (.int u), d9, some (.int near), some (.int far), d12] S).To k := by
  simp only [spIn]
  by_cases hnh : near = here
  · obtain ⟨v, hv1⟩ := Option.isSome_iff_exists.mp (hv hnh)
    have hk := hS.k
    have e1 := kd_ix kn near
    rw [hv1] at e1
    have hin := kd_in far hk
    have exr : (if (!decide (v = u)) = true then (1 : Int) else 0) = xr v u := by unfold xr; by_cases h : v = u <;> simp [h]
    have hnh' : (near = here) = True := eq_true hnh
    simp_arith [hnh', hk, e1, Option.map_some, hin, exr]
    cases hf : kn.lookup far with
    | none =>
      have hp := kd_put (v := xr v u) hf hl
      have h2 := hS.putK (kn' := kn ++ [(far, xr v u)])
      have hw2 := h2.w
      simp_arith [hp, Option.isSome_none, hw2, ↓isLst_lst]
      refine ⟨Nat.ble_eq_true_of_le (by omega), ?_⟩
      refine add v _ _ hnh hv1 hf ?_
      have := h2.putW (W' := W ++ [far]) hT
      simpa using this
    | some w =>
      have e2 := kd_ix kn far
      rw [hf] at e2
      simp_arith [Option.isSome_some, e2, Option.map_some]
      by_cases hw : w = xr v u
      · simp_arith [hw]
        exact same v _ hnh hv1 (hw ▸ hf)
      · simp_arith [hw]
        exact bad v w hnh hv1 hf hw
  · simp_arith [hnh]
    exact no hnh _
/-- a loop over two things -/
theorem for_two {x y : D} {g : Gv} {f : Sv} {ρ : En} {S : Sto} {k : Ks} (h : (g x ρ S).To fun ρ1 S1 => (f ρ1 S1).To ⟨fun ρ2 S2 => (g y ρ2 S2).To fun ρ3 S3 => (f ρ3 S3).To ⟨k.nx, k.rt, k.nx, k.nx⟩, k.rt, k.nx, fun ρ2 S2 => (g y ρ2 S2).To fun ρ3 S3 => (f ρ3 S3).To ⟨k.nx, k.rt, k.nx, k.nx⟩⟩) : (svFor (.items [x, y]) g f 3 0 ρ S).To k := by
  refine for_enc (l := [x, y]) (enc := id) (by simp) (fun done ρ S => match done with
    | [] => (g x ρ S).To fun ρ1 S1 => (f ρ1 S1).To ⟨fun ρ2 S2 => (g y ρ2 S2).To fun ρ3 S3 => (f ρ3 S3).To ⟨k.nx, k.rt, k.nx, k.nx⟩, k.rt, k.nx, fun ρ2 S2 => (g y ρ2 S2).To fun ρ3 S3 => (f ρ3 S3).To ⟨k.nx, k.rt, k.nx, k.nx⟩⟩
    | [_] => (g y ρ S).To fun ρ3 S3 => (f ρ3 S3).To ⟨k.nx, k.rt, k.nx, k.nx⟩
    | _ => k.nx ρ S) h (fun done rest ρ S e _ => ?_) (fun done d rest ρ S e h => ?_) (fun ρ S h => h)
  · have := fix_next (S := S) (s := .items [x, y]) (l := [x, y]) (enc := id) (by simpa using fix_items (ds := [x, y])) e
    exact this
  · match done, e, h with
    | [], e, h => cases e; exact h
    | [a], e, h => cases e; exact h
    | a :: b :: r, e, h => simp at e
structure Nx (U : List Int) (ts : List Tie) (k0 : List (Int × Int)) (node sign here : Int) (kn : List (Int × Int)) (W : List Int) (kn' : List (Int × Int)) (W' : List Int) : Prop where
  sp : Sp0 U ts k0 node sign kn' W'
  dn : Done ts k0 kn' W' (some here)
  fr : free U kn' + W'.length = free U kn + W.length
  len : kn'.length + free U kn' = kn.length + free U kn
  mono : ∀ x v, kn.lookup x = some v → kn'.lookup x = some v
section
variable {U : List Int} {ts : List Tie} {k0 : List (Int × Int)} {node sign here : Int} {kn kn' kn2 : List (Int × Int)} {W W' W2 : List Int}
theorem Nx.refl (h1 : Sp0 U ts k0 node sign kn W) (h2 : Done ts k0 kn W (some here)) : Nx U ts k0 node sign here kn W kn W := ⟨h1, h2, rfl, rfl, fun _ _ h => h⟩
theorem Nx.trans (a : Nx U ts k0 node sign here kn W kn' W') (b : Nx U ts k0 node sign here kn' W' kn2 W2) : Nx U ts k0 node sign here kn W kn2 W2 := ⟨b.sp, b.dn, b.fr.trans a.fr, b.len.trans a.len, fun x v h => b.mono x v (a.mono x v h)⟩
theorem Nx.sat (a : Nx U ts k0 node sign here kn W kn' W') {t : Tie} (h : Sat kn t) : Sat kn' t := by
  obtain ⟨va, vb, h1, h2, h3⟩ := h
  exact ⟨va, vb, a.mono _ _ h1, a.mono _ _ h2, h3⟩
theorem Nx.put (h1 : Sp0 U ts k0 node sign kn W) (h2 : Done ts k0 kn W (some here)) {near far u v : Int} (hU : U.Nodup) (hv : kn.lookup near = some v) (hn : k0.lookup near = none) (hf : kn.lookup far = none) (hfU : far ∈ U) (ht : ∀ s, FitsT s ts → s far = xr (s near) u) : Nx U ts k0 node sign here kn W (kn ++ [(far, xr v u)]) (W ++ [far]) := by
  have e := free_app (v := xr v u) hU hfU hf
  refine ⟨h1.put hv hn hf hfU ht, h2.put, by simp; omega, by simp; omega, fun x w hx => ?_⟩
  rw [look_app, hx]; rfl
/-- one tie, gone along both ways -/
theorem sp_tie (F : Nat → Fn) {S0 S : Sto} {nT nK nW : Nat} {t : Tie} {d0 d1 d2 d10 d11 d12 : Option D} {k : Ks} {ρ : En} (hρ : ρ = [d0, d1, d2, some (.ref nK), some (.ref nW), some (.int here), some (.int t.a), some (.int t.b), some (.int t.u), some t.s.d, d10, d11, d12]) (hS : SpS S0 S nT nK nW ts kn W) (hT : nT < S0.len) (hU : U.Nodup) (hTI : TiesIn U ts) (h0 : Clo U ts k0)
    (ht : t ∈ ts) (h1 : Sp0 U ts k0 node sign kn W) (h2 : Done ts k0 kn W (some here)) (hh : (kn.lookup here).isSome = true) (hn : k0.lookup here = none) (hl : kn.length + free U kn ≤ 900) (hW : free U kn + W.length ≤ 900)
    (nx : ∀ kn' W' S' e10 e11 e12, SpS S0 S' nT nK nW ts kn' W' → Nx U ts k0 node sign here kn W kn' W' → ((t.a = here ∨ t.b = here) → Sat kn' t) → k.nx [d0, d1, d2, some (.ref nK), some (.ref nW), some (.int here), some (.int t.a), some (.int t.b), some (.int t.u), some t.s.d, e10, e11, e12] S')
    (bad : ∀ kn' W' S', SpS S0 S' nT nK nW ts kn' W' → (∀ s, FitsT s ts → s node ≠ sign) → k.rt (.bl false) S') : (svs F spMid ρ S).To k := by
  subst hρ
  simp only [spMid]
  simp_arith [Nat.reduceAdd]
  refine ⟨rfl, rfl, rfl, for_two ?_⟩
  simp_arith [Nat.reduceAdd]
  have oth : ∀ s, FitsT s ts → s t.a = xr (s t.b) t.u := fun s hs => (xr_sym (hs.bit _) (hs.bit _) (hTI.u t ht)).mp (hs.fit t ht)
  have far0 : t.a = here → k0.lookup t.b = none := fun e => by
    cases e2 : k0.lookup t.b with
    | none => rfl
    | some w =>
      obtain ⟨va, vb, z1, _⟩ := h0.ok t ht (.inr (by rw [e2]; rfl))
      rw [e, hn] at z1; cases z1
  have far1 : t.b = here → k0.lookup t.a = none := fun e => by
    cases e2 : k0.lookup t.a with
    | none => rfl
    | some w =>
      obtain ⟨va, vb, z1, z2, _⟩ := h0.ok t ht (.inl (by rw [e2]; rfl))
      rw [e, hn] at z2; cases z2
  -- the second way, from what the first one left
  have second : ∀ kn1 W1 S1 e12, SpS S0 S1 nT nK nW ts kn1 W1 → Nx U ts k0 node sign here kn W kn1 W1 → (t.a = here → ∃ va, kn1.lookup t.a = some va ∧ kn1.lookup t.b = some (xr va t.u)) →
      (svs F spIn [d0, d1, d2, some (.ref nK), some (.ref nW), some (.int here), some (.int t.a), some (.int t.b), some (.int t.u), some t.s.d, some (.int t.b), some (.int t.a), e12] S1).To ⟨k.nx, k.rt, k.nx, k.nx⟩ := fun kn1 W1 S1 e12 s1 n1 f1 => by
    have hh1 : (kn1.lookup here).isSome = true := by
      obtain ⟨v, hv⟩ := Option.isSome_iff_exists.mp hh
      rw [n1.mono _ _ hv]; rfl
    have e1 := n1.len
    have e2 := n1.fr
    refine sp_dir F s1 hT (by omega) (by omega) (fun e => e ▸ hh1) (fun hne d => ?_) (fun v S' d e hv hf hS' => ?_) (fun v d e hv hf => ?_) (fun v w e hv hf hw => ?_)
    · refine nx kn1 W1 S1 _ _ _ s1 n1 fun hor => ?_
      obtain ⟨va, z1, z2⟩ := f1 (hor.resolve_right hne)
      exact ⟨va, _, z1, z2, rfl⟩
    · have n2 := n1.trans (Nx.put n1.sp n1.dn hU hv (e ▸ hn) hf (hTI.a t ht) oth)
      refine nx _ _ S' _ _ _ hS' n2 fun _ => ?_
      refine ⟨xr v t.u, v, by rw [look_app, hf]; simp, by rw [look_app, hv]; rfl, ?_⟩
      exact (xr_sym (xr_bit _ _) (n1.sp.bit _ _ hv) (hTI.u t ht)).mpr rfl
    · refine nx kn1 W1 S1 _ _ _ s1 n1 fun _ => ⟨xr v t.u, v, hf, hv, ?_⟩
      exact (xr_sym (xr_bit _ _) (n1.sp.bit _ _ hv) (hTI.u t ht)).mpr rfl
    · refine bad kn1 W1 S1 s1 fun s hs hsn => ?_
      have z1 := n1.sp.forced s hs hsn t.b v hv (e ▸ hn)
      have z2 := n1.sp.forced s hs hsn t.a w hf (far1 e)
      exact hw (by rw [← z2, oth s hs, z1])
  refine sp_dir F hS hT (by omega) (by omega) (fun e => e ▸ hh) (fun hne d => ?_) (fun v S' d e hv hf hS' => ?_) (fun v d e hv hf => ?_) (fun v w e hv hf hw => ?_)
  · simp_arith [Nat.reduceAdd]
    exact second kn W S _ hS (Nx.refl h1 h2) fun e => absurd e hne
  · simp_arith [Nat.reduceAdd]
    exact second _ _ S' _ hS' (Nx.put h1 h2 hU hv (e ▸ hn) hf (hTI.b t ht) fun s hs => hs.fit t ht) fun _ => ⟨v, by rw [look_app, hv]; rfl, by rw [look_app, hf]; simp⟩
  · simp_arith [Nat.reduceAdd]
    exact second kn W S _ hS (Nx.refl h1 h2) fun _ => ⟨v, hv, hf⟩
  · refine bad kn W S hS fun s hs hsn => ?_
    have z1 := h1.forced s hs hsn t.a v hv (e ▸ hn)
    have z2 := h1.forced s hs hsn t.b w hf (far0 e)
    exact hw (by rw [← z2, hs.fit t ht, z1])
end
/-- what spread promises -/
def SpSpread (f : Fn) : Prop := ∀ (S : Sto) (nT nK : Nat) (U : List Int) (ts : List Tie) (k0 : List (Int × Int)) (node sign : Int), S.dirty = false → S.objs[nT]? = some (.lst (ts.map Tie.d)) → S.objs[nK]? = some (kd k0) → U.Nodup → U.length ≤ 100 → k0.length + free U k0 ≤ 100 → TiesIn U ts → Clo U ts k0 → node ∈ U → k0.lookup node = none → isBit sign → ts.length ≤ 1000 →
  (f [.ref nT, .int node, .int sign, .ref nK] S).To fun d S' => ∃ b kn, d = .bl b ∧ S' = ⟨S.objs.set nK (kd kn), S.bs, false⟩ ∧
    (b = true → Clo U ts kn ∧ (∀ x v, k0.lookup x = some v → kn.lookup x = some v) ∧ kn.lookup node = some sign ∧ kn.length + free U kn = k0.length + free U k0 ∧ ∀ s, FitsT s ts → s node = sign → ∀ x v, kn.lookup x = some v → k0.lookup x = none → s x = v) ∧
    (b = false → ∀ s, FitsT s ts → s node ≠ sign)
theorem ret_put {S S' : Sto} {nK : Nat} {o : O} {d : D} {Q : D → Sto → Prop} (k : Kp [nK] S.enter S') (ho : S'.objs[nK]? = some o) (hn : nK < S.len) (hd : d.blw S.len = true) (h : Q d ⟨S.objs.set nK o, S.bs, false⟩) : (ret S d S').To Q := by
  rw [ret_flat k.cl hd]
  have : S'.objs.take S.len = S.objs.set nK o := by
    apply List.ext_getElem?
    intro i
    by_cases hi : i < S.len
    · rw [List.getElem?_take, if_pos hi]
      by_cases e : i = nK
      · subst e; rw [ho, List.getElem?_set_self hi]
      · rw [List.getElem?_set_ne (Ne.symm e)]; exact k.get i hi (by simpa using e)
    · rw [List.getElem?_take, if_neg hi, List.getElem?_eq_none (by simp [Sto.len] at hi ⊢; exact hi)]
  rw [this]
  exact h
theorem spSpread (F : Nat → Fn) : SpSpread (fnSem 13 4 (svs F b_spread)) := fun S nT nK U ts k0 node sign h1 h2 h3 h4 h5 h6 h7 h8 h9 h10 h11 h12 => by
  refine fn_to rfl ?_
  generalize hQ : (fun (d : D) (S' : Sto) => ∃ b kn, d = .bl b ∧ S' = (⟨S.objs.set nK (kd kn), S.bs, false⟩ : Sto) ∧
    (b = true → Clo U ts kn ∧ (∀ x v, k0.lookup x = some v → kn.lookup x = some v) ∧ kn.lookup node = some sign ∧ kn.length + free U kn = k0.length + free U k0 ∧ ∀ s, FitsT s ts → s node = sign → ∀ x v, kn.lookup x = some v → k0.lookup x = none → s x = v) ∧
    (b = false → ∀ s, FitsT s ts → s node ≠ sign)) = Q
  simp only [b_spread, List.map, List.cons_append, List.nil_append, List.replicate]
  have hK : S.enter.objs[nK]? = some (kd k0) := h3
  have hT : S.enter.objs[nT]? = some (.lst (ts.map Tie.d)) := h2
  have hp := kd_put (v := sign) h10 (by omega)
  have hnT := lt_of_at h2
  have hnK := lt_of_at h3
  have hne : nK ≠ nT := fun z => by rw [z, h2] at h3; cases h3
  simp_arith [hK, hp]
  refine ⟨rfl, ?_⟩
  generalize hS0 : S.enter = S0
  have c0 : S0.dirty = false := hS0 ▸ h1
  have hl0 : S0.len = S.len := by rw [← hS0]; rfl
  have fr0 := free_app (v := sign) h4 h9 h10
  have lenput : (S0.put nK (kd (k0 ++ [(node, sign)])) true).len = S0.len := Sto.put_len _ _ _ _
  have e0 : ∀ x w, (k0 ++ [(node, sign)]).lookup x = some w → k0.lookup x = none → x = node ∧ w = sign := fun x w hx h0 => by
    rw [look_app, h0] at hx
    by_cases e : x = node
    · simp [e] at hx; exact ⟨e, hx.symm⟩
    · simp [e] at hx
  have sp0 : Sp0 U ts k0 node sign (k0 ++ [(node, sign)]) [node] := by
    refine ⟨fun x w hx => ?_, fun x hx => ?_, fun x w hx => by rw [look_app, hx]; rfl, fun s hs hsn x w hx h0 => ?_, fun x hx => ?_⟩
    · cases h0 : k0.lookup x with
      | none => obtain ⟨_, rfl⟩ := e0 x w hx h0; exact h11
      | some w' => rw [look_app, h0] at hx; cases hx; exact h8.bit x w h0
    · cases h0 : k0.lookup x with
      | none => obtain ⟨w, hw⟩ := Option.isSome_iff_exists.mp hx; obtain ⟨rfl, _⟩ := e0 x w hw h0; exact h9
      | some w' => exact h8.inU x (by rw [h0]; rfl)
    · obtain ⟨rfl, rfl⟩ := e0 x w hx h0; exact hsn
    · simp only [List.mem_singleton] at hx; subst hx; exact ⟨by rw [look_app, h10]; simp, h10⟩
  have dn0 : Done ts k0 (k0 ++ [(node, sign)]) [node] none := fun t ht x hx hx1 hx2 hx3 hx4 => by
    obtain ⟨w, hw⟩ := Option.isSome_iff_exists.mp hx1
    obtain ⟨rfl, _⟩ := e0 x w hw hx2
    exact absurd (by simp) hx3
  obtain ⟨I, hI⟩ : ∃ I : Nat → En → Sto → Prop, ∀ n ρ S', I n ρ S' ↔ ∃ (kn : List (Int × Int)) (W : List Int) (e5 e6 e7 e8 e9 e10 e11 e12 : Option D), ρ = [some (.ref nT), some (.int node), some (.int sign), some (.ref nK), some (.ref S0.len), e5, e6, e7, e8, e9, e10, e11, e12] ∧ SpS S0 S' nT nK S0.len ts kn W ∧ Sp0 U ts k0 node sign kn W ∧ Done ts k0 kn W none ∧ n = free U kn + W.length ∧ kn.length + free U kn = k0.length + free U k0 ∧ kn.lookup node = some sign ∧ n ≤ 150 := ⟨_, fun _ _ _ => Iff.rfl⟩
  rw [lenput]
  refine while_go I ?step 200 (free U (k0 ++ [(node, sign)]) + 1) _ _ (by omega) ?start
  case start =>
    refine (hI _ _ _).mpr ⟨k0 ++ [(node, sign)], [node], _, _, _, _, _, _, _, _, rfl, ⟨?_, ?_, ?_, ?_, Nat.le_refl _⟩, sp0, dn0, by simp, by simp; omega, by rw [look_app, h10]; simp, by omega⟩
    · exact ((Kp.refl (W := [nK]) c0).putN (n := nK) (o' := kd (k0 ++ [(node, sign)])) (ok := true) (.inl (by simp)) c0).addN
    · exact add_at ((put_ne hne).trans (by rw [← hS0]; exact h2))
    · exact add_at (put_at (by rw [← hS0]; exact h3))
    · have := add_new (S := S0.put nK (kd (k0 ++ [(node, sign)])) true) (o := .lst [D.int node])
      rw [lenput] at this
      simpa using this
  case step =>
    intro n ρ S1 h
    obtain ⟨kn, W, e5, e6, e7, e8, e9, e10, e11, e12, hρ, a1, a2, a3, a4, a5, a6, a7⟩ := (hI _ _ _).mp h
    subst hρ
    simp_arith [Nat.reduceAdd]
    refine ⟨rfl, ?_⟩
    have wq := q_list (α := Int) (S := S1.add (.lst [])) (n := S0.len) (m := S1.len) (l := W) (l' := []) (add_at a1.w) rfl add_new rfl (by decide)
    simp_arith [wq]
    have s1 : SpS S0 (S1.add (.lst [])) nT nK S0.len ts kn W := ⟨a1.kp.addN, add_at a1.t, add_at a1.k, add_at a1.w, a1.l0⟩
    by_cases hW : W = []
    · subst hW
      simp_arith [Nat.reduceAdd]
      rw [← hS0] at s1
      refine ret_put s1.kp s1.k hnK rfl ?_
      rw [← hQ]
      refine ⟨true, kn, rfl, rfl, fun _ => ⟨⟨a2.bit, fun t ht hor => ?_, a2.inU⟩, a2.ext, a6, a5, a2.forced⟩, fun z => nomatch z⟩
      -- all ties are done
      have one : ∀ x, (x = t.a ∨ x = t.b) → (kn.lookup x).isSome = true → Sat kn t := fun x hx hk => by
        cases e : k0.lookup x with
        | none => exact a3 t ht x hx hk e (by simp) (by simp)
        | some w =>
          have : Sat k0 t := h8.ok t ht (by rcases hx with rfl | rfl; · exact .inl (by rw [e]; rfl)
                                            · exact .inr (by rw [e]; rfl))
          obtain ⟨va, vb, z1, z2, z3⟩ := this
          exact ⟨va, vb, a2.ext _ _ z1, a2.ext _ _ z2, z3⟩
      exact hor.elim (one _ (.inl rfl)) (one _ (.inr rfl))
    · have hd : decide (W = []) = false := decide_eq_false hW
      simp_arith [hd]
      obtain ⟨W0, here, rfl⟩ : ∃ W0 here, W = W0 ++ [here] := ⟨W.dropLast, W.getLast hW, (List.dropLast_concat_getLast hW).symm⟩
      refine ⟨free U kn + W0.length, by simp at a4; omega, ?_⟩
      have hw := s1.w
      have hpop : (List.map D.int (W0 ++ [here]))[W0.length + 1 - 1]? = some (.int here) := by simp
      have hdl : (List.map D.int (W0 ++ [here])).dropLast = W0.map D.int := by simp
      have s2 := s1.putW (W' := W0) (by rw [hl0]; exact hnT)
      have t2 := s2.t
      simp only [spOut]
      simp_arith [hw, ↓isLst_lst]
      rw [hpop, op_some, hdl]
      generalize (S1.add (.lst [])).put S0.len (.lst (W0.map D.int)) true = S2 at s2 t2
      simp_arith [t2]
      have hh := a2.wt here (by simp)
      have sp2 : Sp0 U ts k0 node sign kn W0 := ⟨a2.bit, a2.inU, a2.ext, a2.forced, fun x hx => a2.wt x (List.mem_append_left _ hx)⟩
      have dn2 : Done ts k0 kn W0 (some here) := fun t ht x hx q1 q2 q3 q4 => a3 t ht x hx q1 q2 (by
        simp only [List.mem_append, List.mem_singleton]
        rintro (z | z)
        · exact q3 z
        · exact q4 (by rw [z])) (by simp)
      have frn : free U kn + W0.length ≤ 150 := by simp at a4; omega
      obtain ⟨J, hJ⟩ : ∃ J : List Tie → En → Sto → Prop, ∀ done ρ S', J done ρ S' ↔ ∃ (kn' : List (Int × Int)) (W' : List Int) (e6 e7 e8 e9 e10 e11 e12 : Option D), ρ = [some (.ref nT), some (.int node), some (.int sign), some (.ref nK), some (.ref S0.len), some (.int here), e6, e7, e8, e9, e10, e11, e12] ∧ SpS S0 S' nT nK S0.len ts kn' W' ∧ Nx U ts k0 node sign here kn W0 kn' W' ∧ ∀ t ∈ done, (t.a = here ∨ t.b = here) → Sat kn' t := ⟨_, fun _ _ _ => Iff.rfl⟩
      refine for_enc (l := ts) (enc := Tie.d) ?b1 J ?b2 ?b3 ?b4 ?b5
      case b1 => simp
      case b2 => exact (hJ _ _ _).mpr ⟨kn, W0, _, _, _, _, _, _, _, rfl, s2, Nx.refl sp2 dn2, by simp⟩
      case b3 =>
        intro done rest ρ S3 e h
        obtain ⟨_, _, _, _, _, _, _, _, _, _, z, _⟩ := (hJ _ _ _).mp h
        exact live_next z.t rfl e
      case b4 =>
        intro done t rest ρ S3 e h
        obtain ⟨kn', W', g6, g7, g8, g9, g10, g11, g12, hρ, z1, z2, z3⟩ := (hJ _ _ _).mp h
        subst hρ
        have ht : t ∈ ts := by rw [e]; simp
        simp_arith [Tie.d]
        have hh' : (kn'.lookup here).isSome = true := by
          obtain ⟨v, hv⟩ := Option.isSome_iff_exists.mp hh.1
          rw [z2.mono _ _ hv]; rfl
        have q1 := z2.len
        have q2 := z2.fr
        refine sp_tie F rfl z1 (by rw [hl0]; exact hnT) h4 h7 h8 ht z2.sp z2.dn hh' hh.2 (by omega) (by omega) (fun kn2 W2 S4 f10 f11 f12 y1 y2 y3 => ?_) (fun kn2 W2 S4 y1 y2 => ?_)
        · refine (hJ _ _ _).mpr ⟨kn2, W2, _, _, _, _, _, _, _, rfl, y1, z2.trans y2, fun t' ht' hor => ?_⟩
          rcases List.mem_append.mp ht' with ht' | ht'
          · exact y2.sat (z3 t' ht' hor)
          · simp only [List.mem_singleton] at ht'
            subst ht'
            exact y3 hor
        · have k4 := y1.kp
          rw [← hS0] at k4
          refine ret_put k4 y1.k hnK rfl ?_
          rw [← hQ]
          exact ⟨false, kn2, rfl, rfl, by simp, fun _ => y2⟩
      case b5 =>
        intro ρ S3 h
        obtain ⟨kn', W', g6, g7, g8, g9, g10, g11, g12, hρ, z1, z2, z3⟩ := (hJ _ _ _).mp h
        subst hρ
        refine (hI _ _ _).mpr ⟨kn', W', _, _, _, _, _, _, _, _, rfl, z1, z2.sp, fun t ht x hx q1 q2 q3 _ => ?_, z2.fr.symm, z2.len.trans a5, z2.mono _ _ a6, frn⟩
        by_cases hxh : x = here
        · subst hxh
          exact z3 t ht (by rcases hx with z | z; · exact .inl z.symm
                            · exact .inr z.symm)
        · exact z2.dn t ht x hx q1 q2 q3 fun z => hxh (by cases z; rfl)
theorem SpSpread.lift {f : Fn} (h : SpSpread f) : SpSpread (liftF f) := fun S nT nK U ts k0 node sign h1 h2 h3 h4 h5 h6 h7 h8 h9 h10 h11 h12 => by
  rw [lift_ref rfl]
  exact h S nT nK U ts k0 node sign h1 h2 h3 h4 h5 h6 h7 h8 h9 h10 h11 h12
end Sw

/-! P5: least signs, plainly. -/
namespace Sw
open PySem L2 Enc
/-- the sign of a node in a row of signs; where all current comes from has 0 -/
def rget (row : List Int) (x : Int) : Int := if x < 0 then 0 else row.getD x.toNat 0
def allSigns : Nat → List (List Int)
  | 0 => [[]]
  | n + 1 => (allSigns n).flatMap fun r => [r ++ [0], r ++ [1]]
def fitRow (y : Lay) (l : List Link) (row : List Int) : Bool :=
  ((y.live l).all fun r => !decide ((rget row r.2.1.1 + rget row r.2.2.1.1 + crossI r) % 2 = 1)) && y.feeds.all fun f => decide (rget row f.1 = f.2)
def leastSigns (y : Lay) (l : List Link) : Option (List Int) := (allSigns y.lens.length).find? (fitRow y l)
theorem allSigns_len : ∀ {n : Nat} {r : List Int}, r ∈ allSigns n → r.length = n
  | 0, r, h => by simp [allSigns] at h; subst h; rfl
  | n + 1, r, h => by
    simp only [allSigns, List.mem_flatMap, List.mem_cons, List.not_mem_nil, or_false] at h
    obtain ⟨q, hq, rfl | rfl⟩ := h
    · simp [allSigns_len hq]
    · simp [allSigns_len hq]
theorem allSigns_bit : ∀ {n : Nat} {r : List Int}, r ∈ allSigns n → ∀ x ∈ r, isBit x
  | 0, r, h, x, hx => by simp [allSigns] at h; subst h; cases hx
  | n + 1, r, h, x, hx => by
    simp only [allSigns, List.mem_flatMap, List.mem_cons, List.not_mem_nil, or_false] at h
    obtain ⟨q, hq, rfl | rfl⟩ := h
    · rcases List.mem_append.mp hx with hx | hx
      · exact allSigns_bit hq x hx
      · simp at hx; exact .inl hx
    · rcases List.mem_append.mp hx with hx | hx
      · exact allSigns_bit hq x hx
      · simp at hx; exact .inr hx
theorem mem_allSigns : ∀ {n : Nat} {r : List Int}, r.length = n → (∀ x ∈ r, isBit x) → r ∈ allSigns n
  | 0, r, h, _ => by simp [allSigns, List.length_eq_zero_iff.mp h]
  | n + 1, r, h, hb => by
    have hne : r ≠ [] := fun z => by subst z; cases h
    have e := List.dropLast_concat_getLast hne
    simp only [allSigns, List.mem_flatMap, List.mem_cons, List.not_mem_nil, or_false]
    refine ⟨r.dropLast, mem_allSigns (by simp [h]) (fun x hx => hb x (List.dropLast_subset _ hx)), ?_⟩
    rcases hb (r.getLast hne) (List.getLast_mem hne) with z | z
    · exact .inl (by rw [← z]; exact e.symm)
    · exact .inr (by rw [← z]; exact e.symm)
theorem rget_bit {n : Nat} {r : List Int} (h : r ∈ allSigns n) (x : Int) : isBit (rget r x) := by
  unfold rget
  split
  · exact .inl rfl
  · rw [List.getD_eq_getElem?_getD]
    cases e : r[x.toNat]? with
    | none => exact .inl rfl
    | some v => exact allSigns_bit h v (List.mem_of_getElem? e)
theorem rget_nat (r : List Int) (i : Nat) : rget r (i : Int) = r.getD i 0 := by
  unfold rget
  rw [if_neg (by omega)]
  rfl
/-- one row of signs stands ahead of another -/
def LexLt (r r' : List Int) : Prop := ∃ p : Nat, p < r.length ∧ r.getD p 0 < r'.getD p 0 ∧ ∀ q < p, r.getD q 0 = r'.getD q 0
theorem LexLt.asymm {r r' : List Int} (h : LexLt r r') (h' : LexLt r' r) : False := by
  obtain ⟨p, _, h2, h3⟩ := h
  obtain ⟨p', _, h5, h6⟩ := h'
  rcases Nat.lt_trichotomy p p' with hlt | rfl | hlt
  · have := h6 p hlt; omega
  · omega
  · have := h3 p' hlt; omega
theorem getD_app {r : List Int} {a : Int} {p : Nat} (h : p < r.length) : (r ++ [a]).getD p 0 = r.getD p 0 := by
  simp [List.getD_eq_getElem?_getD, List.getElem?_append_left h]
theorem getD_end {r : List Int} {a : Int} : (r ++ [a]).getD r.length 0 = a := by
  simp [List.getD_eq_getElem?_getD]
theorem allSigns_pw : ∀ n : Nat, (allSigns n).Pairwise LexLt
  | 0 => by simp [allSigns]
  | n + 1 => by
    simp only [allSigns, List.pairwise_flatMap]
    refine ⟨fun r hr => ?_, (allSigns_pw n).imp_of_mem fun {r r'} hr hr' h x hx x' hx' => ?_⟩
    · simp only [List.pairwise_cons, List.mem_singleton, forall_eq, List.not_mem_nil, false_implies, implies_true, List.Pairwise.nil, and_self, and_true]
      refine ⟨r.length, by simp, by rw [getD_end, getD_end]; decide, fun q hq => ?_⟩
      rw [getD_app hq, getD_app hq]
    · obtain ⟨p, h1, h2, h3⟩ := h
      have e1 := allSigns_len hr
      have e2 := allSigns_len hr'
      have : ∃ a b, x = r ++ [a] ∧ x' = r' ++ [b] := by
        simp only [List.mem_cons, List.not_mem_nil, or_false] at hx hx'
        rcases hx with rfl | rfl <;> rcases hx' with rfl | rfl <;> exact ⟨_, _, rfl, rfl⟩
      obtain ⟨a, b, rfl, rfl⟩ := this
      refine ⟨p, by simp; omega, ?_, fun q hq => ?_⟩
      · rw [getD_app h1, getD_app (by omega)]; exact h2
      · rw [getD_app (by omega), getD_app (by omega)]; exact h3 q hq
/-- a row that fits, and that no other one that fits stands ahead of, is the least one -/
theorem least_eq {n : Nat} {p : List Int → Bool} {row : List Int} (h1 : row ∈ allSigns n) (h2 : p row = true) (h3 : ∀ r ∈ allSigns n, p r = true → r = row ∨ LexLt row r) : (allSigns n).find? p = some row := by
  cases e : (allSigns n).find? p with
  | none => rw [List.find?_eq_none] at e; exact absurd h2 (e row h1)
  | some r0 =>
    obtain ⟨h4, as, bs, h5, h6⟩ := List.find?_eq_some_iff_append.mp e
    have hr0 : r0 ∈ allSigns n := by rw [h5]; simp
    rcases h3 r0 hr0 h4 with rfl | hlt
    · rfl
    · have hrow : row ∈ bs ∨ row = r0 := by
        rw [h5] at h1
        rcases List.mem_append.mp h1 with z | z
        · have := h6 row z; rw [h2] at this; cases this
        · rcases List.mem_cons.mp z with z | z
          · exact .inr z
          · exact .inl z
      rcases hrow with z | z
      · have pw := allSigns_pw n
        rw [h5] at pw
        have := (List.pairwise_append.mp pw).2.1
        exact (LexLt.asymm hlt ((List.pairwise_cons.mp this).1 row z)).elim
      · rw [z]
/-! ### rows and ways of signs -/
theorem mod2 {a b c : Int} (ha : isBit a) (hb : isBit b) (hc : isBit c) : (!decide ((a + b + c) % 2 = 1)) = true ↔ b = xr a c := by
  rcases ha with rfl | rfl <;> rcases hb with rfl | rfl <;> rcases hc with rfl | rfl <;> decide
theorem cross_bit (r : Rw) : isBit (crossI r) := by unfold crossI; split <;> simp [isBit]
theorem xr0 {a b : Int} (ha : isBit a) (hb : isBit b) : (0 : Int) = xr a b ↔ a = b := by
  rcases ha with rfl | rfl <;> rcases hb with rfl | rfl <;> decide
theorem fits_iff {y : Lay} (hy : y.Ok) {l : List Link} {row : List Int} (h : row ∈ allSigns y.lens.length) : fitRow y l row = true ↔ FitsT (rget row) (y.ties l) := by
  unfold fitRow
  rw [Bool.and_eq_true, List.all_eq_true, List.all_eq_true]
  constructor
  · rintro ⟨h1, h2⟩
    refine ⟨rget_bit h, fun t ht => ?_⟩
    rcases List.mem_append.mp ht with ht | ht
    · obtain ⟨r, hr, rfl⟩ := List.mem_map.mp ht
      exact (mod2 (rget_bit h _) (rget_bit h _) (cross_bit r)).mp (h1 r hr)
    · obtain ⟨f, hf, rfl⟩ := List.mem_map.mp ht
      have := of_decide_eq_true (h2 f hf)
      exact (xr0 (rget_bit h _) (hy.fi f hf).2.2).mpr this
  · intro hF
    refine ⟨fun r hr => ?_, fun f hf => ?_⟩
    · exact (mod2 (rget_bit h _) (rget_bit h _) (cross_bit r)).mpr (hF.fit (tieOf r) (List.mem_append_left _ (List.mem_map_of_mem hr)))
    · exact decide_eq_true ((xr0 (rget_bit h _) (hy.fi f hf).2.2).mp (hF.fit (tieF f) (List.mem_append_right _ (List.mem_map_of_mem hf))))
/-- the nodes -/
def Lay.nodes (y : Lay) : List Int := (List.range (y.lens.length + 1)).map fun (i : Nat) => (i : Int) - 1
theorem mem_nodes {y : Lay} {x : Int} : x ∈ y.nodes ↔ -1 ≤ x ∧ x < y.lens.length := by
  simp only [Lay.nodes, List.mem_map, List.mem_range]
  constructor
  · rintro ⟨i, hi, rfl⟩; omega
  · rintro ⟨h1, h2⟩; exact ⟨(x + 1).toNat, by omega, by omega⟩
theorem nodes_nodup (y : Lay) : y.nodes.Nodup := by
  unfold Lay.nodes
  refine List.Pairwise.map _ (fun (a b : Nat) (h : a ≠ b) => ?_) List.nodup_range
  omega
theorem nodes_len (y : Lay) : y.nodes.length = y.lens.length + 1 := by simp [Lay.nodes]
theorem row_ends {y : Lay} {r : Rw} (h : r ∈ y.rows) : r.2.1 ∈ allEnds y.joints ∧ r.2.2.1 ∈ allEnds y.joints := by
  obtain ⟨i, k, j, b, h1, h2, rfl⟩ := mem_rows.mp h
  have hj := List.mem_of_getElem? h1
  have hb := List.mem_of_getElem? h2
  simp only [allEnds, List.mem_flatMap, endsOf, List.mem_cons, List.mem_map]
  exact ⟨⟨j, hj, .inl rfl⟩, ⟨j, hj, .inr ⟨b, hb, rfl⟩⟩⟩
theorem ties_in {y : Lay} (h : y.Ok) (l : List Link) : TiesIn y.nodes (y.ties l) := by
  have key : ∀ t ∈ y.ties l, t.a ∈ y.nodes ∧ t.b ∈ y.nodes ∧ isBit t.u := fun t ht => by
    rcases List.mem_append.mp ht with ht | ht
    · obtain ⟨r, hr, rfl⟩ := List.mem_map.mp ht
      obtain ⟨e1, e2⟩ := row_ends (List.mem_filter.mp hr).1
      have q1 := h.en _ e1
      have q2 := h.en _ e2
      exact ⟨mem_nodes.mpr ⟨by simp only [tieOf]; omega, q1.2.1⟩, mem_nodes.mpr ⟨by simp only [tieOf]; omega, q2.2.1⟩, cross_bit r⟩
    · obtain ⟨f, hf, rfl⟩ := List.mem_map.mp ht
      have q := h.fi f hf
      exact ⟨mem_nodes.mpr ⟨by simp only [tieF]; omega, q.2.1⟩, mem_nodes.mpr ⟨by simp [tieF], by simp only [tieF]; omega⟩, q.2.2⟩
  exact ⟨fun t ht => (key t ht).1, fun t ht => (key t ht).2.1, fun t ht => (key t ht).2.2⟩
/-! ### what is left of a way of signs when one component is turned -/
theorem xr_flip {a u : Int} (ha : isBit a) (hu : isBit u) : 1 - xr a u = xr (1 - a) u := by
  rcases ha with rfl | rfl <;> rcases hu with rfl | rfl <;> decide
theorem flip_bit {a : Int} (h : isBit a) : isBit (1 - a) := by rcases h with rfl | rfl <;> simp [isBit]
theorem flip_fits {U : List Int} {ts : List Tie} {kn : List (Int × Int)} (hT : TiesIn U ts) (hC : Clo U ts kn) {s : Int → Int} (hs : FitsT s ts) : FitsT (fun x => if (kn.lookup x).isSome = true then s x else 1 - s x) ts := by
  refine ⟨fun x => ?_, fun t ht => ?_⟩
  · split
    · exact hs.bit x
    · exact flip_bit (hs.bit x)
  · have h1 := hs.fit t ht
    by_cases ha : (kn.lookup t.a).isSome = true
    · obtain ⟨va, vb, q1, q2, _⟩ := hC.ok t ht (.inl ha)
      rw [if_pos ha, if_pos (by rw [q2]; rfl)]
      exact h1
    · have hb : ¬ (kn.lookup t.b).isSome = true := fun hb => by
        obtain ⟨va, vb, q1, q2, _⟩ := hC.ok t ht (.inr hb)
        exact ha (by rw [q1]; rfl)
      rw [if_neg ha, if_neg hb, h1]
      exact xr_flip (hs.bit _) (hT.u t ht)
/-- what is known behind the first i pieces -/
structure SgI (y : Lay) (ts : List Tie) (i : Nat) (kn : List (Int × Int)) : Prop where
  clo : Clo y.nodes ts kn
  pw : kn.lookup (-1) = some 0
  all : ∀ p : Nat, p < i → (kn.lookup (p : Int)).isSome = true
  lex : ∀ s, FitsT s ts → s (-1) = 0 → (∀ x v, kn.lookup x = some v → s x = v) ∨ ∃ p : Nat, p < i ∧ (∃ v, kn.lookup (p : Int) = some v ∧ v < s p) ∧ ∀ q : Nat, q < p → ∃ v, kn.lookup (q : Int) = some v ∧ s q = v
theorem SgI.known {y : Lay} {ts : List Tie} {i : Nat} {kn : List (Int × Int)} (h : SgI y ts i kn) (hk : (kn.lookup (i : Int)).isSome = true) : SgI y ts (i + 1) kn := by
  refine ⟨h.clo, h.pw, fun p hp => ?_, fun s hs h0 => ?_⟩
  · rcases Nat.lt_succ_iff_lt_or_eq.mp hp with z | rfl
    · exact h.all p z
    · exact hk
  · rcases h.lex s hs h0 with z | ⟨p, hp, z⟩
    · exact .inl z
    · exact .inr ⟨p, by omega, z⟩
theorem SgI.new {y : Lay} {ts : List Tie} {i : Nat} {kn kn' : List (Int × Int)} (h : SgI y ts i kn) (hk : kn.lookup (i : Int) = none) (hc : Clo y.nodes ts kn') (ext : ∀ x v, kn.lookup x = some v → kn'.lookup x = some v) (hn : kn'.lookup (i : Int) = some 0)
    (hf : ∀ s, FitsT s ts → s i = 0 → ∀ x v, kn'.lookup x = some v → kn.lookup x = none → s x = v) : SgI y ts (i + 1) kn' := by
  refine ⟨hc, ext _ _ h.pw, fun p hp => ?_, fun s hs h0 => ?_⟩
  · rcases Nat.lt_succ_iff_lt_or_eq.mp hp with z | rfl
    · obtain ⟨v, hv⟩ := Option.isSome_iff_exists.mp (h.all p z)
      rw [ext _ _ hv]; rfl
    · rw [hn]; rfl
  · rcases h.lex s hs h0 with z | ⟨p, hp, ⟨v, q1, q2⟩, q3⟩
    · rcases hs.bit (i : Int) with e | e
      · refine .inl fun x v hx => ?_
        cases hx0 : kn.lookup x with
        | none => exact hf s hs e x v hx hx0
        | some w =>
          have := ext x w hx0
          rw [hx] at this
          cases this
          exact z x v hx0
      · refine .inr ⟨i, by omega, ⟨0, hn, by omega⟩, fun q hq => ?_⟩
        obtain ⟨v, hv⟩ := Option.isSome_iff_exists.mp (h.all q hq)
        exact ⟨v, ext _ _ hv, z _ v hv⟩
    · refine .inr ⟨p, by omega, ⟨v, ext _ _ q1, q2⟩, fun q hq => ?_⟩
      obtain ⟨w, w1, w2⟩ := q3 q hq
      exact ⟨w, ext _ _ w1, w2⟩
/-- the row that comes of it is the least one -/
theorem SgI.least {y : Lay} (hy : y.Ok) {l : List Link} {kn : List (Int × Int)} (h : SgI y (y.ties l) y.lens.length kn) {row : List Int} (hl : row.length = y.lens.length) (hr : ∀ p : Nat, p < y.lens.length → kn.lookup (p : Int) = some (row.getD p 0)) : leastSigns y l = some row := by
  have hbit : ∀ x ∈ row, isBit x := fun x hx => by
    obtain ⟨p, hp, rfl⟩ := List.mem_iff_getElem.mp hx
    have := hr p (by omega)
    refine h.clo.bit (p : Int) _ ?_
    rw [this]
    simp [List.getD_eq_getElem?_getD, List.getElem?_eq_getElem hp]
  have hm := mem_allSigns hl hbit
  have hget : ∀ x v, kn.lookup x = some v → rget row x = v := fun x v hx => by
    have hU := mem_nodes.mp (h.clo.inU x (by rw [hx]; rfl))
    by_cases hx1 : x = -1
    · subst hx1
      rw [h.pw] at hx
      cases hx
      rfl
    · have e : x = (x.toNat : Int) := by omega
      have := hr x.toNat (by omega)
      rw [← e, hx] at this
      rw [e, rget_nat]
      exact (Option.some.inj this).symm
  have hT := ties_in hy l
  have hknow : ∀ x ∈ y.nodes, ∃ v, kn.lookup x = some v := fun x hx => by
    have hU := mem_nodes.mp hx
    by_cases hx1 : x = -1
    · exact ⟨0, by rw [hx1]; exact h.pw⟩
    · have e : x = (x.toNat : Int) := by omega
      exact ⟨_, by rw [e]; exact hr x.toNat (by omega)⟩
  have hfit : FitsT (rget row) (y.ties l) := by
    refine ⟨rget_bit hm, fun t ht => ?_⟩
    obtain ⟨va, hva⟩ := hknow _ (hT.a t ht)
    obtain ⟨va', vb, q1, q2, q3⟩ := h.clo.ok t ht (.inl (by rw [hva]; rfl))
    rw [hget _ _ q1, hget _ _ q2, q3]
  refine least_eq hm ((fits_iff hy hm).mpr hfit) fun r hrm hrf => ?_
  have hF := (fits_iff hy hrm).mp hrf
  have hrl := allSigns_len hrm
  rcases h.lex (rget r) hF rfl with z | ⟨p, hp, ⟨v, q1, q2⟩, q3⟩
  · left
    apply List.ext_getElem (by omega)
    intro i h1 h2
    have e1 := z (i : Int) _ (hr i (by omega))
    rw [rget_nat] at e1
    simpa [List.getD_eq_getElem?_getD, List.getElem?_eq_getElem h1, List.getElem?_eq_getElem h2] using e1
  · right
    refine ⟨p, by omega, ?_, fun q hq => ?_⟩
    · have := hr p hp
      rw [q1] at this
      rw [← Option.some.inj this, ← rget_nat r p]
      exact q2
    · obtain ⟨w, w1, w2⟩ := q3 q hq
      have := hr q (by omega)
      rw [w1] at this
      rw [← Option.some.inj this, ← rget_nat r q]
      exact w2.symm
theorem least_none {y : Lay} (hy : y.Ok) {l : List Link} (h : ∀ s, FitsT s (y.ties l) → s (-1) ≠ 0) : leastSigns y l = none := by
  unfold leastSigns
  rw [List.find?_eq_none]
  intro r hr hf
  exact h _ ((fits_iff hy hr).mp hf) rfl
end Sw

/-! P6: signs_in, signs, is_short, is_sound. -/
namespace Sw
open PySem L2 Enc
local macro_rules | `(tactic| simp_arith [$xs,*]) => `(tactic| simp only [↓e_lit, ↓e_var, ↓e_bin, ↓e_cmp, ↓e_chain, ↓e_neg, ↓e_not, ↓e_and, ↓e_or, ↓e_ite, ↓e_tup, ↓e_lst, ↓e_dnewT, ↓e_dnewF, ↓e_ix, ↓e_sl, ↓p_none, ↓p_some, ↓e_call, ↓e_bi, ↓e_isi, ↓e_app, ↓e_pop, ↓e_get, ↓e_rev, ↓e_lenum, ↓e_dispk, ↓op_srcR, ↓op_enumR, ↓op_zipR, turns_live, turns_enumL, turns_zipL, turns_items, turns_enumI, turns_zipI, turns_range, Option.bind_some, Option.elim_some, ↓e_comp, ↓s_wh, ↓a_nil, ↓a_cons, ↓a_star, ↓g_name, ↓g_tup, ↓gs_nil, ↓gs_cons, ↓s_nil, ↓s_cons, ↓s_expr, ↓s_ret, ↓s_asg, ↓s_aug, ↓s_put, ↓s_ite, ↓s_pass, ↓s_brk, ↓s_cont, ↓i_e, ↓i_r1, ↓i_r2, ↓i_enum, ↓i_zip, ↓s_fo, ↓look_z, ↓look_s, ↓tb_bl, ↓ti_int, ↓tr_ref, ↓tt_tup, ↓op_some, ↓to_ok, ↓st_nx, ↓st_rt, ↓st_bk, ↓st_ct, List.set_cons_zero, List.set_cons_succ, boD, coD, biN, aoD, ↓p_addI, ↓p_addT, ↓p_addL, ↓p_sub, ↓p_mul, ↓p_fdiv, ↓p_mod, ↓p_pow, ↓p_iaddI, ↓p_iaddL, ↓p_isub, ↓p_lt, ↓p_gt, ↓p_le, ↓p_ge, ↓p_eq, ↓p_ne, ↓p_in, ↓p_notIn, ↓q_int, ↓p_isNN, ↓p_isTN, ↓p_isIN, ↓p_isRN, ↓p_isntNN, ↓p_isntTN, ↓p_isntIN, ↓p_isntRN, ↓p_isBB, ↓p_isntBB, ↓p_ixT, ↓p_ixR, ↓p_slT, ↓p_slR, ↓p_lenT, ↓p_lenR, ↓p_intI, ↓p_intB, ↓p_min, ↓p_max, ↓p_bl, ↓p_sum, ↓p_tupleT, ↓p_tupleR, ↓p_listT, ↓p_listR, ↓p_app, ↓p_pop0, ↓p_popI, ↓p_get1, ↓p_revT, ↓p_revR, ↓p_isi, ↓op_dput, ↓op_list, src_tup, enum_tup, zip_tup, seqO_lst, seqO_frz, lstO_lst, lenO_lst, lenO_frz, ixO_lst, isLst_lst, seqOf_tup, decide_eq_true_eq, List.length_cons, List.length_nil, Nat.beq, true_and, Nat.reduceAdd, List.getElem?_cons_zero, List.getElem?_cons_succ, get_app0, get_app, set_app0, set_app, List.append_assoc, List.cons_append, List.nil_append, List.length_append, wipeE, ↓op_map, ↓atI_map, atI_0, atI_1, atI_2, atI_3, List.length_map, st_enter, st_add, st_putT, st_len, bw_int, bw_bl, bw_non, bw_str, bw_tup, bws_nil, bws_cons, Enc.flat, flats, Bool.and_true, Bool.and_self, isT_tup, sub_TT, List.any_cons, List.any_nil, Bool.or_false, Bool.not_true, Bool.not_false, if_true, if_false, Bool.false_eq_true, decide_true, decide_false, $xs,*])
def b_signs_in (i_ties_in i_spread : Nat) : Ts := (.cons (.asg (.tup (.cons (.call i_ties_in (.cons (.var 0) (.cons (.var 1) .nil))) (.cons (.dnew false) .nil))) (.tup 2 (.cons (.name 3) (.cons (.name 4) .nil)))) (.cons (.ite (.not (.call i_spread (.cons (.var 3) (.cons (.lit (.int (-1))) (.cons (.lit (.int 0)) (.cons (.var 4) .nil)))))) (.cons (.ret (.lit .non)) .nil) .nil) (.cons (.fo (.range1 (.cons (.bi .len (.cons (.ix (.var 0) (.lit (.int 0))) .nil)) .nil)) (.name 2) (.cons (.ite (.and (.cmp .notIn (.var 2) (.var 4)) (.not (.call i_spread (.cons (.var 3) (.cons (.var 2) (.cons (.lit (.int 0)) (.cons (.var 4) .nil))))))) (.cons (.ret (.lit .non)) .nil) .nil) .nil)) (.cons (.ret (.bi .tuple (.cons (.comp (.range1 (.cons (.bi .len (.cons (.ix (.var 0) (.lit (.int 0))) .nil)) .nil)) [2] (.name 2) (.lit (.bl true)) (.ix (.var 4) (.var 2))) .nil))) .nil))))
def b_signs (i_need_span i_signs_in : Nat) : Ts := (.cons (.expr (.call i_need_span (.cons (.var 0) (.cons (.var 1) .nil)))) (.cons (.ret (.call i_signs_in (.cons (.var 0) (.cons (.var 1) .nil)))) .nil))
def b_is_short (i_signs : Nat) : Ts := (.cons (.ret (.cmp .is (.call i_signs (.cons (.var 0) (.cons (.var 1) .nil))) (.lit .non))) .nil)
def b_is_sound (i_signs_in i_need_layout : Nat) : Ts := (.cons (.ret (.cmp .isNot (.call i_signs_in (.cons (.call i_need_layout (.cons (.var 0) .nil)) (.cons (.tup .nil) .nil))) (.lit .non))) .nil)
def optD : Option (List Int) → D
  | none => .non
  | some r => enc r
theorem optD_flat (o : Option (List Int)) (k : Nat) : D.blw k (optD o) = true := by cases o <;> simp [optD, bw_non, Enc.flat]
def SpSignsIn (f : Fn) : Prop := ∀ (S : Sto) (y : Lay) (x : D) (l : List Link), S.dirty = false → y.Ok → seqOf S x = some (l.map enc) → f [y.d, x] S = .ok (optD (leastSigns y l)) S
theorem ties_len {y : Lay} (h : y.Ok) (l : List Link) : (y.ties l).length ≤ 1000 := by
  have h1 := rows_len h
  have h2 : (y.live l).length ≤ y.rows.length := List.length_filter_le _ _
  have h3 := h.fl
  simp only [Lay.ties, List.length_append, List.length_map]
  omega
theorem spSignsIn (F : Nat → Fn) (iT iS : Nat) (hT : SpTies (F iT)) (hP : SpSpread (F iS)) : SpSignsIn (liftF (fnSem 5 2 (svs F (b_signs_in iT iS)))) := by
  have key : ∀ (S : Sto) (y : Lay) (x : D) (l : List Link), S.dirty = false → y.Ok → seqOf S x = some (l.map enc) → fnSem 5 2 (svs F (b_signs_in iT iS)) [y.d, x] S = .ok (optD (leastSigns y l)) S := fun S y x l h1 h2 h3 => by
    obtain ⟨B, bs, t⟩ := S
    obtain rfl : t = false := h1
    refine Res.To.eq (fn_to rfl ?_)
    generalize hQ : (fun (b : D) (S_1 : Sto) => b = optD (leastSigns y l) ∧ S_1 = (⟨B, bs, false⟩ : Sto)) = Q
    simp only [b_signs_in, List.map, List.cons_append, List.nil_append, List.replicate]
    have e1 := hT ⟨B, B.length :: bs, false⟩ y x l rfl h2 (by rw [← h3]; rfl)
    simp_arith [e1]
    refine ⟨rfl, ?_⟩
    have hTI := ties_in h2 l
    have hn10 := h2.n10
    have fU : ∀ kn, free y.nodes kn ≤ 11 := fun kn => by
      have := List.length_filter_le (fun x => !(kn.lookup x).isSome) y.nodes
      have := nodes_len y
      unfold free
      omega
    have clo0 : Clo y.nodes (y.ties l) [] := ⟨fun x v h => by simp at h, fun t ht h => by simp at h, fun x h => by simp at h⟩
    have fin : ∀ (d : D) (L : List O), d = optD (leastSigns y l) → (ret ⟨B, bs, false⟩ d ⟨B ++ L, B.length :: bs, false⟩).To Q := fun d L hd => by
      rw [ret_flat rfl (hd ▸ optD_flat _ _), ← hQ]
      exact ⟨hd, by simp [Sto.len]⟩
    refine (hP ⟨B ++ [.lst ((y.ties l).map Tie.d), kd []], B.length :: bs, false⟩ B.length (B.length + 1) y.nodes (y.ties l) [] (-1) 0 rfl get_app0 get_app (nodes_nodup y) (by rw [nodes_len]; omega) (by have := fU []; simp; omega) hTI clo0 (mem_nodes.mpr ⟨by omega, by omega⟩) rfl (.inl rfl) (ties_len h2 l)).mono fun d S1 ⟨b, kn, q1, q2, q3, q4⟩ => ?_
    subst q1 q2
    simp_arith [set_app]
    cases b with
    | false =>
      simp_arith [Nat.reduceAdd]
      refine fin _ _ ?_
      rw [least_none h2 (q4 rfl)]
      rfl
    | true =>
      obtain ⟨c1, _, c3, c4, c5⟩ := q3 rfl
      have sg0 : SgI y (y.ties l) 0 kn := ⟨c1, c3, fun p hp => absurd hp (by omega), fun s hs h0 => .inl fun x v hx => c5 s hs h0 x v hx rfl⟩
      have hR : okR (y.lens.length : Int) = true := by simp only [okR, Bool.and_eq_true, decide_eq_true_eq]; omega
      simp_arith [Lay.d]
      rw [enc_list y.lens]
      simp_arith [hR, Int.toNat_natCast]
      obtain ⟨I, hI⟩ : ∃ I : List Nat → En → Sto → Prop, ∀ done ρ S', I done ρ S' ↔ ∃ (kn : List (Int × Int)) (z : Option D), ρ = [some (D.tup [.tup (y.lens.map enc), enc y.joints, enc y.feeds]), some x, z, some (.ref B.length), some (.ref (B.length + 1))] ∧ S' = ⟨B ++ [.lst ((y.ties l).map Tie.d), kd kn], B.length :: bs, false⟩ ∧ SgI y (y.ties l) done.length kn ∧ kn.length + free y.nodes kn ≤ 20 := ⟨_, fun _ _ _ => Iff.rfl⟩
      refine for_fix (l := List.range y.lens.length) (enc := fun i => D.int (0 + (i : Nat))) ?a1 ?a2 I ?a3 ?a4 ?a5
      case a1 => simpa using fix_range (lo := 0) (n := y.lens.length)
      case a2 => simp
      case a3 => exact (hI _ _ _).mpr ⟨kn, _, rfl, rfl, sg0, by have := fU kn; have := fU []; simp at c4; omega⟩
      case a4 =>
        intro done i rest ρ S1 e h
        obtain ⟨kn, z, hρ, hS, a3, a4⟩ := (hI _ _ _).mp h
        subst hρ hS
        obtain ⟨hi, hil⟩ := range_split e
        have hk2 : (⟨B ++ [.lst ((y.ties l).map Tie.d), kd kn], B.length :: bs, false⟩ : Sto).objs[B.length + 1]? = some (kd kn) := get_app
        have hin := kd_in (0 + (i : Nat) : Int) hk2
        simp_arith [hin]
        rw [Int.zero_add]
        cases hki : kn.lookup (i : Int) with
        | some v =>
          simp_arith [Option.isSome_some]
          refine (hI _ _ _).mpr ⟨kn, _, rfl, rfl, ?_, a4⟩
          rw [List.length_append, List.length_singleton]
          exact (hi ▸ a3 : SgI y (y.ties l) i kn) |>.known (by rw [hki]; rfl) |> fun z => by rw [← hi]; exact z
        | none =>
          simp_arith [Option.isSome_none]
          refine (hP ⟨B ++ [.lst ((y.ties l).map Tie.d), kd kn], B.length :: bs, false⟩ B.length (B.length + 1) y.nodes (y.ties l) kn (i : Int) 0 rfl get_app0 get_app (nodes_nodup y) (by rw [nodes_len]; omega) (by have := fU kn; omega) hTI a3.clo (mem_nodes.mpr ⟨by omega, by omega⟩) hki (.inl rfl) (ties_len h2 l)).mono fun d S1 ⟨b, kn', q1, q2, q3, q4⟩ => ?_
          subst q1 q2
          simp_arith [set_app]
          cases b with
          | false =>
            simp_arith [Nat.reduceAdd]
            refine fin _ _ ?_
            rw [least_none h2]
            · rfl
            · intro s hs h0
              rcases hs.bit (i : Int) with e0 | e0
              · exact q4 rfl s hs e0
              · refine q4 rfl _ (flip_fits hTI a3.clo hs) ?_
                rw [hki]
                simp [e0]
          | true =>
            obtain ⟨c1, c2, c3, c4, c5⟩ := q3 rfl
            simp_arith [Nat.reduceAdd]
            refine (hI _ _ _).mpr ⟨kn', _, rfl, rfl, ?_, ?_⟩
            · rw [List.length_append, List.length_singleton, ← hi]
              exact SgI.new (hi ▸ a3) hki c1 c2 c3 c5
            · omega
      case a5 =>
        intro ρ S1 h
        obtain ⟨kn, z, hρ, hS, a3, a4⟩ := (hI _ _ _).mp h
        subst hρ hS
        rw [List.length_range] at a3
        simp_arith [hR, Int.toNat_natCast]
        have hk2 : ∀ L, (B ++ (.lst ((y.ties l).map Tie.d) :: kd kn :: L))[B.length + 1]? = some (kd kn) := fun L => by rw [get_app]; rfl
        refine comp_pure' (α := Nat) (B := B ++ [.lst ((y.ties l).map Tie.d), kd kn]) (bs := B.length :: bs) (l := List.range y.lens.length) (enc := fun i => D.int (0 + (i : Nat))) (fun _ => true) (fun i => .int ((kn.lookup (i : Int)).getD 0)) of_range (by simp) (by simp) (by simp) (by simp; omega) (by simp) (fun i hi acc => ?_) ?_
        · have hil : i < y.lens.length := by simpa using hi
          obtain ⟨v, hv⟩ := Option.isSome_iff_exists.mp (a3.all i hil)
          simp_arith [hk2, kd_ix, Int.zero_add, hv, Option.map_some, Option.getD_some]
          exact fun _ => trivial
        · rw [filt_true]
          simp_arith []
          refine fin _ _ ?_
          rw [SgI.least h2 a3 (row := (List.range y.lens.length).map fun i : Nat => (kn.lookup (i : Int)).getD 0) (by simp) ?_]
          · simp [optD, enc_list, enc_int, Function.comp_def]
          · intro p hp
            obtain ⟨v, hv⟩ := Option.isSome_iff_exists.mp (a3.all p hp)
            simp [List.getD_eq_getElem?_getD, hp, hv]
  intro S y x l h1 h2 h3
  refine lift_eq (key S y x l h1 h2 h3) (fun hb => key emp y x l rfl h2 ?_) (optD_flat _ _)
  rcases seq_cases h3 with rfl | ⟨n, o, rfl, q1, q2⟩
  · rfl
  · simp only [D.blws, Lay.flat, Bool.true_and] at hb
    cases hb
/-! ### signs, is_short, is_sound -/
def SpIsLink (f : Fn) : Prop := ∀ (S : Sto) (y : Lay) (r : Rw), S.dirty = false → y.Ok → r ∈ y.rows → f [y.d, enc r.1] S = .ok (.bl true) S
theorem spIsLink (F : Nat → Fn) (i : Nat) (hI : SpInt (F i)) : SpIsLink (liftF (fnSem 2 2 (svs F (b_is_link i)))) := fun S y r h0 hy h => by
  obtain ⟨n, k, j, b, h1, h2, rfl⟩ := mem_rows.mp h
  refine lift_flat rfl (by simp [bws_cons, Lay.flat, Enc.flat, bws_nil]) rfl ?_
  have e1 : (atI y.joints (n : Int)) = some j := by rw [atI_nat, h1]
  have hn : n < y.joints.length := (List.getElem?_eq_some_iff.mp h1).1
  have hk : k < j.2.length := (List.getElem?_eq_some_iff.mp h2).1
  have i1 := hI ⟨[], [0], false⟩ (.int (n : Nat)) 0 (y.joints.length - 1) rfl rfl
  have i2 := hI ⟨[], [0], false⟩ (.int (k : Nat)) 0 (j.2.length - 1) rfl rfl
  have b1 : isIB 0 ((y.joints.length : Int) - 1) (.int (n : Nat)) = true := by simp [isIB]; omega
  have b2 : isIB 0 ((j.2.length : Int) - 1) (.int (k : Nat)) = true := by simp [isIB]; omega
  rw [b1] at i1
  rw [b2] at i2
  simp only [b_is_link, List.map, List.cons_append, List.nil_append, List.replicate, Lay.d, enc_list, enc_prod, enc_int]
  simp_arith [e1, i1, Int.cast_ofNat_Int]
  simp_arith [enc_prod, enc_list]
  simp_arith [i2]
def SpNeedSpan (f : Fn) : Prop := ∀ (S : Sto) (y : Lay) (x : D) (l : List Link), S.dirty = false → y.Ok → seqOf S x = some (l.map enc) → (∀ k ∈ l, k ∈ y.links) → l.length ≤ 1000 → f [y.d, x] S = .ok .non S
theorem link_row {y : Lay} {k : Link} (h : k ∈ y.links) : ∃ r ∈ y.rows, r.1 = k := by
  obtain ⟨r, hr, e⟩ := List.mem_map.mp h
  exact ⟨r, hr, e⟩
theorem isT_seq {S : Sto} {x : D} {xs : List D} (h : seqOf S x = some xs) : ∃ t, tyOf S x = some t ∧ ([Tn.list, Tn.tuple].any fun T => isSub t T) = true := by
  rcases seq_cases h with rfl | ⟨n, o, rfl, h1, h2⟩
  · exact ⟨_, rfl, rfl⟩
  · cases o with
    | lst ys => exact ⟨.list, by simp only [tyOf, h1], rfl⟩
    | frz ys => exact ⟨.list, by simp only [tyOf, h1], rfl⟩
    | _ => cases h2
theorem src_seq {S : Sto} {x : D} {xs : List D} (h : seqOf S x = some xs) : ∃ s, srcOf S x = some s ∧ s.Of S.objs xs ∧ s.turns S = xs.length := by
  rcases seq_cases h with rfl | ⟨n, o, rfl, h1, h2⟩
  · exact ⟨_, rfl, of_items, rfl⟩
  · have hl : S.list? n = some xs := by rw [list_at h1, h2]
    exact ⟨.live n, src_ref hl, of_live h1 h2, by simp only [Src.turns, hl]⟩
theorem spNeedSpan (F : Nat → Fn) (iN iL : Nat) (hN : SpNeed (F iN)) (hL : SpIsLink (F iL)) : SpNeedSpan (liftF (fnSem 3 2 (svs F (b_need_span iN iL)))) := by
  have key : ∀ (S : Sto) (y : Lay) (x : D) (l : List Link), S.dirty = false → y.Ok → seqOf S x = some (l.map enc) → (∀ k ∈ l, k ∈ y.links) → l.length ≤ 1000 → fnSem 3 2 (svs F (b_need_span iN iL)) [y.d, x] S = .ok .non S := fun S y x l h1 h2 h3 h4 h5 => by
    obtain ⟨B, bs, t⟩ := S
    obtain rfl : t = false := h1
    refine Res.To.eq (fn_to rfl ?_)
    generalize hQ : (fun (b : D) (S_1 : Sto) => b = .non ∧ S_1 = (⟨B, bs, false⟩ : Sto)) = Q
    simp only [b_need_span, List.map, List.cons_append, List.nil_append, List.replicate]
    have h3' : seqOf ⟨B, B.length :: bs, false⟩ x = some (l.map enc) := by rw [← h3]; rfl
    obtain ⟨t, t1, t2⟩ := isT_seq h3'
    obtain ⟨s, s1, s2, s3⟩ := src_seq h3'
    have e1 := fun S => hN S y h2
    simp only [List.any_cons, List.any_nil, Bool.or_false] at t2
    simp_arith [e1, t1, t2, s1, s3]
    refine comp_pure' (α := Link) (enc := enc) (B := B) (bs := B.length :: bs) (l := l) (fun _ => true) (fun _ => .bl true) s2 rfl rfl (by simp) (by omega) (by simp) (fun k hk acc => ?_) ?_
    · obtain ⟨r, hr, rfl⟩ := link_row (h4 k hk)
      have := hL ⟨B ++ [.lst acc], B.length :: bs, false⟩ y r rfl h2 hr
      simp_arith [this]
      exact fun _ => trivial
    · rw [filt_true]
      have hb : blsOf (l.map fun _ => D.bl true) = some (l.map fun _ => true) := bls_map (fun _ => true) l
      have ha : (l.map fun _ => true).all id = true := by simp
      simp_arith [hb, ha]
      rw [ret_flat rfl rfl, ← hQ]
      exact ⟨rfl, by simp [Sto.len]⟩
  intro S y x l h1 h2 h3 h4 h5
  refine lift_eq (key S y x l h1 h2 h3 h4 h5) (fun hb => key emp y x l rfl h2 ?_ h4 h5) rfl
  rcases seq_cases h3 with rfl | ⟨n, o, rfl, q1, q2⟩
  · rfl
  · simp only [D.blws, Lay.flat, Bool.true_and] at hb
    cases hb
end Sw

/-! P7: signs, is_short, is_sound. -/
namespace Sw
open PySem L2 Enc
local macro_rules | `(tactic| simp_arith [$xs,*]) => `(tactic| simp only [↓e_lit, ↓e_var, ↓e_bin, ↓e_cmp, ↓e_chain, ↓e_neg, ↓e_not, ↓e_and, ↓e_or, ↓e_ite, ↓e_tup, ↓e_lst, ↓e_dnewT, ↓e_dnewF, ↓e_ix, ↓e_sl, ↓p_none, ↓p_some, ↓e_call, ↓e_bi, ↓e_isi, ↓e_app, ↓e_pop, ↓e_get, ↓e_rev, ↓e_lenum, ↓e_dispk, ↓op_srcR, ↓op_enumR, ↓op_zipR, turns_live, turns_enumL, turns_zipL, turns_items, turns_enumI, turns_zipI, turns_range, Option.bind_some, Option.elim_some, ↓e_comp, ↓s_wh, ↓a_nil, ↓a_cons, ↓a_star, ↓g_name, ↓g_tup, ↓gs_nil, ↓gs_cons, ↓s_nil, ↓s_cons, ↓s_expr, ↓s_ret, ↓s_asg, ↓s_aug, ↓s_put, ↓s_ite, ↓s_pass, ↓s_brk, ↓s_cont, ↓i_e, ↓i_r1, ↓i_r2, ↓i_enum, ↓i_zip, ↓s_fo, ↓look_z, ↓look_s, ↓tb_bl, ↓ti_int, ↓tr_ref, ↓tt_tup, ↓op_some, ↓to_ok, ↓st_nx, ↓st_rt, ↓st_bk, ↓st_ct, List.set_cons_zero, List.set_cons_succ, boD, coD, biN, aoD, ↓p_addI, ↓p_addT, ↓p_addL, ↓p_sub, ↓p_mul, ↓p_fdiv, ↓p_mod, ↓p_pow, ↓p_iaddI, ↓p_iaddL, ↓p_isub, ↓p_lt, ↓p_gt, ↓p_le, ↓p_ge, ↓p_eq, ↓p_ne, ↓p_in, ↓p_notIn, ↓q_int, ↓p_isNN, ↓p_isTN, ↓p_isIN, ↓p_isRN, ↓p_isntNN, ↓p_isntTN, ↓p_isntIN, ↓p_isntRN, ↓p_isBB, ↓p_isntBB, ↓p_ixT, ↓p_ixR, ↓p_slT, ↓p_slR, ↓p_lenT, ↓p_lenR, ↓p_intI, ↓p_intB, ↓p_min, ↓p_max, ↓p_bl, ↓p_sum, ↓p_tupleT, ↓p_tupleR, ↓p_listT, ↓p_listR, ↓p_app, ↓p_pop0, ↓p_popI, ↓p_get1, ↓p_revT, ↓p_revR, ↓p_isi, ↓op_dput, ↓op_list, src_tup, enum_tup, zip_tup, seqO_lst, seqO_frz, lstO_lst, lenO_lst, lenO_frz, ixO_lst, isLst_lst, seqOf_tup, decide_eq_true_eq, List.length_cons, List.length_nil, Nat.beq, true_and, Nat.reduceAdd, List.getElem?_cons_zero, List.getElem?_cons_succ, get_app0, get_app, set_app0, set_app, List.append_assoc, List.cons_append, List.nil_append, List.length_append, wipeE, ↓op_map, ↓atI_map, atI_0, atI_1, atI_2, atI_3, List.length_map, st_enter, st_add, st_putT, st_len, bw_int, bw_bl, bw_non, bw_str, bw_tup, bws_nil, bws_cons, Enc.flat, flats, Bool.and_true, Bool.and_self, isT_tup, sub_TT, List.any_cons, List.any_nil, Bool.or_false, Bool.not_true, Bool.not_false, if_true, if_false, Bool.false_eq_true, decide_true, decide_false, $xs,*])
theorem lift_eq2 {f : Fn} {y : Lay} {x r : D} {S : Sto} {l : List Link} (h3 : seqOf S x = some (l.map enc)) (h1 : S.dirty = false) (key : ∀ S : Sto, S.dirty = false → seqOf S x = some (l.map enc) → f [y.d, x] S = .ok r S) (hr : r.blw 0 = true) : liftF f [y.d, x] S = .ok r S := by
  refine lift_eq (key S h1 h3) (fun hb => key emp rfl ?_) hr
  rcases seq_cases h3 with rfl | ⟨n, o, rfl, q1, q2⟩
  · rfl
  · simp only [D.blws, Lay.flat, Bool.true_and] at hb
    cases hb
theorem seq_enter {S : Sto} {x : D} {xs : List D} (h : seqOf S x = some xs) : seqOf S.enter x = some xs := h
def SpSigns (f : Fn) : Prop := ∀ (S : Sto) (y : Lay) (x : D) (l : List Link), S.dirty = false → y.Ok → seqOf S x = some (l.map enc) → (∀ k ∈ l, k ∈ y.links) → l.length ≤ 1000 → f [y.d, x] S = .ok (optD (leastSigns y l)) S
theorem spSigns (F : Nat → Fn) (iN iS : Nat) (hN : SpNeedSpan (F iN)) (hS : SpSignsIn (F iS)) : SpSigns (liftF (fnSem 2 2 (svs F (b_signs iN iS)))) := fun S y x l h1 h2 h3 h4 h5 => by
  refine lift_eq2 h3 h1 (fun S h1 h3 => ?_) (optD_flat _ _)
  refine Res.To.eq (fn_to rfl ?_)
  simp only [b_signs, List.map, List.cons_append, List.nil_append, List.replicate]
  have e1 := hN S.enter y x l h1 h2 (seq_enter h3) h4 h5
  have e2 := hS S.enter y x l h1 h2 (seq_enter h3)
  simp_arith [e1, e2]
  rw [ret_same h1 (optD_flat _ _)]
  exact ⟨rfl, rfl⟩
theorem optD_is {S : Sto} {o : Option (List Int)} {Q : D → Sto → Prop} : (isD (optD o) .non S).To Q = Q (.bl o.isNone) S := by
  cases o with
  | none => rfl
  | some r => simp only [optD, enc_list, p_isTN, Option.isNone_some]
theorem optD_isNot {S : Sto} {o : Option (List Int)} {Q : D → Sto → Prop} : (isNotD (optD o) .non S).To Q = Q (.bl o.isSome) S := by
  cases o with
  | none => rfl
  | some r => simp only [optD, enc_list, p_isntTN, Option.isSome_some]
def SpShort (f : Fn) : Prop := ∀ (S : Sto) (y : Lay) (x : D) (l : List Link), S.dirty = false → y.Ok → seqOf S x = some (l.map enc) → (∀ k ∈ l, k ∈ y.links) → l.length ≤ 1000 → f [y.d, x] S = .ok (.bl (leastSigns y l).isNone) S
theorem spShort (F : Nat → Fn) (iS : Nat) (hS : SpSigns (F iS)) : SpShort (liftF (fnSem 2 2 (svs F (b_is_short iS)))) := fun S y x l h1 h2 h3 h4 h5 => by
  refine lift_eq2 h3 h1 (fun S h1 h3 => ?_) rfl
  refine Res.To.eq (fn_to rfl ?_)
  simp only [b_is_short, List.map, List.cons_append, List.nil_append, List.replicate]
  have e2 := hS S.enter y x l h1 h2 (seq_enter h3) h4 h5
  simp_arith [e2, ↓optD_is]
  rw [ret_same h1 rfl]
  exact ⟨rfl, rfl⟩
def SpSound (f : Fn) : Prop := ∀ (S : Sto) (y : Lay), y.Ok → f [y.d] S = .ok (.bl (leastSigns y []).isSome) S
theorem spSound (F : Nat → Fn) (iS iN : Nat) (hS : SpSignsIn (F iS)) (hN : SpNeed (F iN)) : SpSound (liftF (fnSem 1 1 (svs F (b_is_sound iS iN)))) := fun S y h => by
  refine lift_flat rfl (by simp [bws_cons, Lay.flat, bws_nil]) rfl ?_
  simp only [b_is_sound, List.map, List.cons_append, List.nil_append, List.replicate]
  have e1 := fun S => hN S y h
  have e2 := hS ⟨[], [0], false⟩ y (.tup []) [] rfl h rfl
  simp_arith [e1, e2, ↓optD_isNot]
  exact ⟨rfl, trivial⟩
end Sw

/-! P8: the law's own links, signs. -/
namespace Sw
open PySem L2 Enc
local macro_rules | `(tactic| simp_arith [$xs,*]) => `(tactic| simp only [↓e_lit, ↓e_var, ↓e_bin, ↓e_cmp, ↓e_chain, ↓e_neg, ↓e_not, ↓e_and, ↓e_or, ↓e_ite, ↓e_tup, ↓e_lst, ↓e_dnewT, ↓e_dnewF, ↓e_ix, ↓e_sl, ↓p_none, ↓p_some, ↓e_call, ↓e_bi, ↓e_isi, ↓e_app, ↓e_pop, ↓e_get, ↓e_rev, ↓e_lenum, ↓e_dispk, ↓op_srcR, ↓op_enumR, ↓op_zipR, turns_live, turns_enumL, turns_zipL, turns_items, turns_enumI, turns_zipI, turns_range, Option.bind_some, Option.elim_some, ↓e_comp, ↓s_wh, ↓a_nil, ↓a_cons, ↓a_star, ↓g_name, ↓g_tup, ↓gs_nil, ↓gs_cons, ↓s_nil, ↓s_cons, ↓s_expr, ↓s_ret, ↓s_asg, ↓s_aug, ↓s_put, ↓s_ite, ↓s_pass, ↓s_brk, ↓s_cont, ↓i_e, ↓i_r1, ↓i_r2, ↓i_enum, ↓i_zip, ↓s_fo, ↓look_z, ↓look_s, ↓tb_bl, ↓ti_int, ↓tr_ref, ↓tt_tup, ↓op_some, ↓to_ok, ↓st_nx, ↓st_rt, ↓st_bk, ↓st_ct, List.set_cons_zero, List.set_cons_succ, boD, coD, biN, aoD, ↓p_addI, ↓p_addT, ↓p_addL, ↓p_sub, ↓p_mul, ↓p_fdiv, ↓p_mod, ↓p_pow, ↓p_iaddI, ↓p_iaddL, ↓p_isub, ↓p_lt, ↓p_gt, ↓p_le, ↓p_ge, ↓p_eq, ↓p_ne, ↓p_in, ↓p_notIn, ↓q_int, ↓p_isNN, ↓p_isTN, ↓p_isIN, ↓p_isRN, ↓p_isntNN, ↓p_isntTN, ↓p_isntIN, ↓p_isntRN, ↓p_isBB, ↓p_isntBB, ↓p_ixT, ↓p_ixR, ↓p_slT, ↓p_slR, ↓p_lenT, ↓p_lenR, ↓p_intI, ↓p_intB, ↓p_min, ↓p_max, ↓p_bl, ↓p_sum, ↓p_tupleT, ↓p_tupleR, ↓p_listT, ↓p_listR, ↓p_app, ↓p_pop0, ↓p_popI, ↓p_get1, ↓p_revT, ↓p_revR, ↓p_isi, ↓op_dput, ↓op_list, src_tup, enum_tup, zip_tup, seqO_lst, seqO_frz, lstO_lst, lenO_lst, lenO_frz, ixO_lst, isLst_lst, seqOf_tup, decide_eq_true_eq, List.length_cons, List.length_nil, Nat.beq, true_and, Nat.reduceAdd, List.getElem?_cons_zero, List.getElem?_cons_succ, get_app0, get_app, set_app0, set_app, List.append_assoc, List.cons_append, List.nil_append, List.length_append, wipeE, ↓op_map, ↓atI_map, atI_0, atI_1, atI_2, atI_3, List.length_map, st_enter, st_add, st_putT, st_len, bw_int, bw_bl, bw_non, bw_str, bw_tup, bws_nil, bws_cons, Enc.flat, flats, Bool.and_true, Bool.and_self, isT_tup, sub_TT, List.any_cons, List.any_nil, Bool.or_false, Bool.not_true, Bool.not_false, if_true, if_false, Bool.false_eq_true, decide_true, decide_false, $xs,*])
def b_Llinks : Ts := (.cons (.asg (.lst .nil) (.name 1)) (.cons (.fo (.enum (.cons (.ix (.var 0) (.lit (.int 1))) .nil)) (.tup 2 (.cons (.name 2) (.cons (.tup 2 (.cons (.name 3) (.cons (.name 4) .nil))) .nil))) (.cons (.fo (.enum (.cons (.var 4) .nil)) (.tup 2 (.cons (.name 5) (.cons (.tup 2 (.cons (.name 6) (.cons (.name 7) .nil))) .nil))) (.cons (.expr (.meth .append (.var 1) (.cons (.tup (.cons (.tup (.cons (.var 2) (.cons (.var 5) .nil))) (.cons (.var 3) (.cons (.var 6) (.cons (.var 7) .nil))))) .nil))) .nil)) .nil)) (.cons (.ret (.var 1)) .nil)))
def b_Lall_signs : Ts := (.cons (.asg (.lst (.cons (.tup .nil) .nil)) (.name 1)) (.cons (.fo (.range1 (.cons (.var 0) .nil)) (.name 2) (.cons (.asg (.lst .nil) (.name 3)) (.cons (.fo (.e (.var 1)) (.name 4) (.cons (.asg (.bin .add (.var 3) (.lst (.cons (.bin .add (.var 4) (.tup (.cons (.lit (.int 0)) .nil))) (.cons (.bin .add (.var 4) (.tup (.cons (.lit (.int 1)) .nil))) .nil)))) (.name 3)) .nil)) (.cons (.asg (.var 3) (.name 1)) .nil)))) (.cons (.ret (.var 1)) .nil)))
def b_Ldo_fit (i_Llinks : Nat) : Ts := (.cons (.fo (.e (.call i_Llinks (.cons (.var 0) .nil))) (.tup 4 (.cons (.name 3) (.cons (.name 4) (.cons (.name 5) (.cons (.name 6) .nil))))) (.cons (.ite (.or (.cmp .eq (.var 6) (.lit (.int 0))) (.cmp .is_in (.var 3) (.var 1))) (.cons (.ite (.cmp .eq (.bin .mod (.bin .add (.bin .add (.ix (.var 2) (.ix (.var 4) (.lit (.int 0)))) (.ix (.var 2) (.ix (.var 5) (.lit (.int 0))))) (.bi .int (.cons (.cmp .eq (.ix (.var 4) (.lit (.int 1))) (.ix (.var 5) (.lit (.int 1)))) .nil))) (.lit (.int 2))) (.lit (.int 1))) (.cons (.ret (.lit (.bl false))) .nil) .nil) .nil) .nil) .nil)) (.cons (.ret (.cmp .eq (.comp (.e (.ix (.var 0) (.lit (.int 2)))) [7, 8] (.tup 2 (.cons (.name 7) (.cons (.name 8) .nil))) (.cmp .ne (.ix (.var 2) (.var 7)) (.var 8)) (.lit (.int 1))) (.lst .nil))) .nil))
def b_Lleast (i_Lall_signs i_Ldo_fit : Nat) : Ts := (.cons (.fo (.e (.call i_Lall_signs (.cons (.bi .len (.cons (.ix (.var 0) (.lit (.int 0))) .nil)) .nil))) (.name 2) (.cons (.ite (.call i_Ldo_fit (.cons (.var 0) (.cons (.var 1) (.cons (.var 2) .nil)))) (.cons (.ret (.var 2)) .nil) .nil) .nil)) (.cons (.ret (.lit .non)) .nil))
def rowD (r : Rw) : D := .tup [enc r.1, enc r.2.1, enc r.2.2.1, .int r.2.2.2]
theorem rowD_flat (r : Rw) (k : Nat) : D.blw k (rowD r) = true := by simp [rowD, bw_tup, bws_cons, bws_nil, bw_int, Enc.flat]
def SpLlinks (f : Fn) : Prop := ∀ (S : Sto) (y : Lay), y.Ok → f [y.d] S = .ok (.ref S.len) (S.add (.lst (y.rows.map rowD)))
theorem rowsOf_append (j : End × List (End × Int)) (n : Nat) (done : List ((End × Int) × Nat)) : (done.map fun b => (((n : Int), (b.2 : Int)), j.1, b.1.1, b.1.2) : List Rw) = done.map fun b => ((((n : Int), (b.2 : Int)), j.1, b.1.1, b.1.2) : Rw) := rfl
theorem spLlinks (F : Nat → Fn) : SpLlinks (liftF (fnSem 8 1 (svs F b_Llinks))) := fun S y h => by
  refine lift_lst rfl (by simp [bws_cons, Lay.flat, bws_nil]) (bws_map (fun r => rowD_flat r 0) _) ?_
  simp only [b_Llinks, List.map, List.cons_append, List.nil_append, List.replicate, Lay.d, enc_list]
  simp_arith []
  refine ⟨rfl, ?_⟩
  have hrl := rows_len h
  obtain ⟨I, hI⟩ : ∃ I : List ((End × List (End × Int)) × Nat) → En → Sto → Prop, ∀ done ρ S, I done ρ S ↔ ∃ z2 z3 z4 z5 z6 z7 : Option D, ρ = [some (.tup [.tup (y.lens.map enc), .tup (y.joints.map enc), .tup (y.feeds.map enc)]), some (.ref 0), z2, z3, z4, z5, z6, z7] ∧ S = ⟨[.lst ((done.flatMap fun p => rowsOf p.1 p.2).map rowD)], [0], false⟩ := ⟨_, fun _ _ _ => Iff.rfl⟩
  refine for_fix (l := y.joints.zipIdx) (enc := fun p => D.tup [.int (p.2 : Nat), enc p.1]) ?a1 ?a2 I ?a3 ?a4 ?a5
  case a1 => exact enumI_enc
  case a2 => simp
  case a3 => exact (hI _ _ _).mpr ⟨_, _, _, _, _, _, rfl, by simp⟩
  case a4 =>
    intro done d rest ρ S e h'
    obtain ⟨z2, z3, z4, z5, z6, z7, hρ, hS⟩ := (hI _ _ _).mp h'
    subst hρ hS
    obtain ⟨j, n⟩ := d
    have e1 : y.rows = (done.flatMap fun p => rowsOf p.1 p.2) ++ (rowsOf j n ++ rest.flatMap fun p => rowsOf p.1 p.2) := by
      rw [Lay.rows, e, List.flatMap_append, List.flatMap_cons]
    have e2 := congrArg List.length e1
    simp only [List.length_append] at e2
    have ej : enc j = .tup [enc j.1, .tup (j.2.map enc)] := rfl
    rw [ej]
    simp_arith []
    obtain ⟨J, hJ⟩ : ∃ J : List ((End × Int) × Nat) → En → Sto → Prop, ∀ dn ρ S, J dn ρ S ↔ ∃ z5 z6 z7 : Option D, ρ = [some (.tup [.tup (y.lens.map enc), .tup (y.joints.map enc), .tup (y.feeds.map enc)]), some (.ref 0), some (.int (n : Nat)), some (enc j.1), some (.tup (j.2.map enc)), z5, z6, z7] ∧ S = ⟨[.lst (((done.flatMap fun p => rowsOf p.1 p.2) ++ dn.map fun b => ((((n : Int), (b.2 : Int)), j.1, b.1.1, b.1.2) : Rw)).map rowD)], [0], false⟩ := ⟨_, fun _ _ _ => Iff.rfl⟩
    refine for_fix (l := j.2.zipIdx) (enc := fun p => D.tup [.int (p.2 : Nat), enc p.1]) ?b1 ?b2 J ?b3 ?b4 ?b5
    case b1 => exact enumI_enc
    case b2 => simp
    case b3 => exact (hJ _ _ _).mpr ⟨_, _, _, rfl, by simp⟩
    case b4 =>
      intro dn b rs ρ S e' h2
      obtain ⟨z5, z6, z7, hρ, hS⟩ := (hJ _ _ _).mp h2
      subst hρ hS
      obtain ⟨b, k⟩ := b
      have eb : enc b = .tup [enc b.1, .int b.2] := rfl
      rw [eb]
      have e3 : (rowsOf j n).length = dn.length + (1 + rs.length) := by
        have := congrArg List.length e'
        simp only [rowsOf, List.length_map]
        rw [this]
        simp; omega
      simp_arith [↓isLst_lst]
      refine ⟨rfl, rfl, Nat.ble_eq_true_of_le (by omega), (hJ _ _ _).mpr ⟨_, _, _, rfl, ?_⟩⟩
      simp [rowD, enc_prod, enc_int]
    case b5 =>
      intro ρ S h2
      obtain ⟨z5, z6, z7, hρ, hS⟩ := (hJ _ _ _).mp h2
      subst hρ hS
      refine (hI _ _ _).mpr ⟨_, _, _, _, _, _, rfl, ?_⟩
      simp [rowsOf]
  case a5 =>
    intro ρ S h'
    obtain ⟨z2, z3, z4, z5, z6, z7, hρ, hS⟩ := (hI _ _ _).mp h'
    subst hρ hS
    simp_arith [Lay.rows]
    exact ⟨0, rfl, rfl⟩
/-! ### all signs -/
def SpAllSigns (f : Fn) : Prop := ∀ (S : Sto) (n : Nat), n ≤ 10 → f [.int (n : Nat)] S = .ok (.ref S.len) (S.add (.lst ((allSigns n).map enc)))
theorem allSigns_count : ∀ n : Nat, (allSigns n).length = 2 ^ n
  | 0 => rfl
  | n + 1 => by
    simp only [allSigns]
    have : ∀ l : List (List Int), (l.flatMap fun r => [r ++ [0], r ++ [1]]).length = 2 * l.length := fun l => by
      induction l with
      | nil => rfl
      | cons a l ih => simp only [List.flatMap_cons, List.length_append, List.length_cons, List.length_nil, ih]; omega
    rw [this, allSigns_count n, Nat.pow_succ]
    omega
theorem spAllSigns (F : Nat → Fn) : SpAllSigns (liftF (fnSem 5 1 (svs F b_Lall_signs))) := fun S n hn => by
  refine lift_lst rfl (by simp [bws_cons, bw_int, bws_nil]) (flats _ _) ?_
  simp only [b_Lall_signs, List.map, List.cons_append, List.nil_append, List.replicate]
  have hR : okR (n : Int) = true := by simp only [okR, Bool.and_eq_true, decide_eq_true_eq]; omega
  simp_arith [hR, Int.toNat_natCast]
  refine ⟨rfl, rfl, ?_⟩
  obtain ⟨I, hI⟩ : ∃ I : List Nat → En → Sto → Prop, ∀ done ρ S, I done ρ S ↔ ∃ (nf : Nat) (z2 z3 z4 : Option D), ρ = [some (.int (n : Nat)), some (.ref nf), z2, z3, z4] ∧ S.objs[nf]? = some (.lst ((allSigns done.length).map enc)) ∧ S.dirty = false := ⟨_, fun _ _ _ => Iff.rfl⟩
  refine for_fix (l := List.range n) (enc := fun i => D.int (0 + (i : Nat))) ?a1 ?a2 I ?a3 ?a4 ?a5
  case a1 => simpa using fix_range (lo := 0) (n := n)
  case a2 => simp
  case a3 => exact (hI _ _ _).mpr ⟨0, _, _, _, rfl, rfl, rfl⟩
  case a4 =>
    intro done i rest ρ S e h
    obtain ⟨nf, z2, z3, z4, hρ, a2, a3⟩ := (hI _ _ _).mp h
    subst hρ
    obtain ⟨hi, hin⟩ := range_split e
    have a4 := add_at (o' := .lst []) a2
    have hcount := allSigns_count done.length
    have hpow : 2 ^ done.length ≤ 1024 := Nat.le_trans (Nat.pow_le_pow_right (by omega) (show done.length ≤ 10 by omega)) (by decide)
    simp_arith [a4]
    refine ⟨rfl, ?_⟩
    obtain ⟨J, hJ⟩ : ∃ J : List (List Int) → En → Sto → Prop, ∀ dn ρ S', J dn ρ S' ↔ ∃ (nl : Nat) (z4 : Option D), ρ = [some (.int (n : Nat)), some (.ref nf), some (.int (0 + (i : Nat))), some (.ref nl), z4] ∧ S'.objs[nf]? = some (.lst ((allSigns done.length).map enc)) ∧ S'.objs[nl]? = some (.lst ((dn.flatMap fun r => [r ++ [0], r ++ [1]]).map enc)) ∧ S'.dirty = false := ⟨_, fun _ _ _ => Iff.rfl⟩
    refine for_enc (l := allSigns done.length) (enc := enc) ?b1 J ?b2 ?b3 ?b4 ?b5
    case b1 => simp
    case b2 => exact (hJ _ _ _).mpr ⟨_, _, rfl, a4, add_new, a3⟩
    case b3 =>
      intro dn rs ρ S' e' h'
      obtain ⟨_, _, _, b2, _⟩ := (hJ _ _ _).mp h'
      exact live_next b2 rfl e'
    case b4 =>
      intro dn r rs ρ S' e' h'
      obtain ⟨nl, z4, hρ, b2, b3, b4⟩ := (hJ _ _ _).mp h'
      subst hρ
      have hr : r ∈ allSigns done.length := by rw [e']; simp
      have hrl := allSigns_len hr
      have b5 : ∀ o, (S'.add o).objs[nl]? = some (.lst ((dn.flatMap fun r => [r ++ [0], r ++ [1]]).map enc)) := fun o => add_at b3
      have hdl : (dn.flatMap fun r => [r ++ [(0 : Int)], r ++ [1]]).length ≤ 2048 := by
        have h1 : ∀ l : List (List Int), (l.flatMap fun r => [r ++ [(0 : Int)], r ++ [1]]).length = 2 * l.length := fun l => by
          induction l with
          | nil => rfl
          | cons a l ih => simp only [List.flatMap_cons, List.length_append, List.length_cons, List.length_nil, ih]; omega
        rw [h1]
        have := congrArg List.length e'
        simp at this
        omega
      rw [enc_list]
      simp_arith [b5, add_new]
      refine ⟨rfl, Nat.ble_eq_true_of_le (by omega), rfl, Nat.ble_eq_true_of_le (by omega), rfl, Nat.ble_eq_true_of_le (by omega), (hJ _ _ _).mpr ⟨_, _, rfl, add_at (add_at b2), ?_, b4⟩⟩
      rw [add_new]
      simp [enc_list, enc_int]
    case b5 =>
      intro ρ S' h'
      obtain ⟨nl, z4, hρ, b2, b3, b4⟩ := (hJ _ _ _).mp h'
      subst hρ
      simp_arith [Nat.reduceAdd]
      refine (hI _ _ _).mpr ⟨nl, _, _, _, rfl, ?_, b4⟩
      rw [b3, List.length_append, List.length_singleton]
      rfl
  case a5 =>
    intro ρ S h
    obtain ⟨nf, z2, z3, z4, hρ, a2, a3⟩ := (hI _ _ _).mp h
    subst hρ
    rw [List.length_range] at a2
    simp_arith [Nat.reduceAdd]
    exact ⟨a3, nf, rfl, a2⟩
end Sw

/-! P9: the law's own least signs. -/
namespace Sw
open PySem L2 Enc
local macro_rules | `(tactic| simp_arith [$xs,*]) => `(tactic| simp only [↓e_lit, ↓e_var, ↓e_bin, ↓e_cmp, ↓e_chain, ↓e_neg, ↓e_not, ↓e_and, ↓e_or, ↓e_ite, ↓e_tup, ↓e_lst, ↓e_dnewT, ↓e_dnewF, ↓e_ix, ↓e_sl, ↓p_none, ↓p_some, ↓e_call, ↓e_bi, ↓e_isi, ↓e_app, ↓e_pop, ↓e_get, ↓e_rev, ↓e_lenum, ↓e_dispk, ↓op_srcR, ↓op_enumR, ↓op_zipR, turns_live, turns_enumL, turns_zipL, turns_items, turns_enumI, turns_zipI, turns_range, Option.bind_some, Option.elim_some, ↓e_comp, ↓s_wh, ↓a_nil, ↓a_cons, ↓a_star, ↓g_name, ↓g_tup, ↓gs_nil, ↓gs_cons, ↓s_nil, ↓s_cons, ↓s_expr, ↓s_ret, ↓s_asg, ↓s_aug, ↓s_put, ↓s_ite, ↓s_pass, ↓s_brk, ↓s_cont, ↓i_e, ↓i_r1, ↓i_r2, ↓i_enum, ↓i_zip, ↓s_fo, ↓look_z, ↓look_s, ↓tb_bl, ↓ti_int, ↓tr_ref, ↓tt_tup, ↓op_some, ↓to_ok, ↓st_nx, ↓st_rt, ↓st_bk, ↓st_ct, List.set_cons_zero, List.set_cons_succ, boD, coD, biN, aoD, ↓p_addI, ↓p_addT, ↓p_addL, ↓p_sub, ↓p_mul, ↓p_fdiv, ↓p_mod, ↓p_pow, ↓p_iaddI, ↓p_iaddL, ↓p_isub, ↓p_lt, ↓p_gt, ↓p_le, ↓p_ge, ↓p_eq, ↓p_ne, ↓p_in, ↓p_notIn, ↓q_int, ↓p_isNN, ↓p_isTN, ↓p_isIN, ↓p_isRN, ↓p_isntNN, ↓p_isntTN, ↓p_isntIN, ↓p_isntRN, ↓p_isBB, ↓p_isntBB, ↓p_ixT, ↓p_ixR, ↓p_slT, ↓p_slR, ↓p_lenT, ↓p_lenR, ↓p_intI, ↓p_intB, ↓p_min, ↓p_max, ↓p_bl, ↓p_sum, ↓p_tupleT, ↓p_tupleR, ↓p_listT, ↓p_listR, ↓p_app, ↓p_pop0, ↓p_popI, ↓p_get1, ↓p_revT, ↓p_revR, ↓p_isi, ↓op_dput, ↓op_list, src_tup, enum_tup, zip_tup, seqO_lst, seqO_frz, lstO_lst, lenO_lst, lenO_frz, ixO_lst, isLst_lst, seqOf_tup, decide_eq_true_eq, List.length_cons, List.length_nil, Nat.beq, true_and, Nat.reduceAdd, List.getElem?_cons_zero, List.getElem?_cons_succ, get_app0, get_app, set_app0, set_app, List.append_assoc, List.cons_append, List.nil_append, List.length_append, wipeE, ↓op_map, ↓atI_map, atI_0, atI_1, atI_2, atI_3, List.length_map, st_enter, st_add, st_putT, st_len, bw_int, bw_bl, bw_non, bw_str, bw_tup, bws_nil, bws_cons, Enc.flat, flats, Bool.and_true, Bool.and_self, isT_tup, sub_TT, List.any_cons, List.any_nil, Bool.or_false, Bool.not_true, Bool.not_false, if_true, if_false, Bool.false_eq_true, decide_true, decide_false, $xs,*])
theorem rget_at {n : Nat} {row : List Int} (hl : row.length = n) {x : Int} (h0 : 0 ≤ x) (h1 : x < n) : atI row x = some (rget row x) := by
  have e : x = (x.toNat : Int) := by omega
  have hx : x.toNat < row.length := by omega
  rw [e, atI_nat, rget_nat, List.getElem?_eq_getElem hx]
  simp [List.getD_eq_getElem?_getD, List.getElem?_eq_getElem hx]
theorem cut0 {c : Int} (h : isBit c) : decide (c = 0) = !decide (c = 1) := by rcases h with rfl | rfl <;> decide
theorem row_bits {y : Lay} (h : y.Ok) {r : Rw} (hr : r ∈ y.rows) : isBit r.2.2.2 := by
  obtain ⟨i, k, j, b, h1, h2, rfl⟩ := mem_rows.mp hr
  exact h.bc j (List.mem_of_getElem? h1) b (List.mem_of_getElem? h2)
theorem row_nodes {y : Lay} (h : y.Ok) {r : Rw} (hr : r ∈ y.rows) : (0 ≤ r.2.1.1 ∧ r.2.1.1 < y.lens.length) ∧ 0 ≤ r.2.2.1.1 ∧ r.2.2.1.1 < y.lens.length := by
  obtain ⟨e1, e2⟩ := row_ends hr
  have q1 := h.en _ e1
  have q2 := h.en _ e2
  exact ⟨⟨q1.1, q1.2.1⟩, q2.1, q2.2.1⟩
def oneFits (row : List Int) (r : Rw) : Bool := !decide ((rget row r.2.1.1 + rget row r.2.2.1.1 + crossI r) % 2 = 1)
theorem fitRow_eq (y : Lay) (l : List Link) (row : List Int) : fitRow y l row = ((y.rows.all fun r => !(!decide (r.2.2.2 = 1) || decide (r.1 ∈ l)) || oneFits row r) && y.feeds.all fun f => decide (rget row f.1 = f.2)) := by
  unfold fitRow Lay.live
  congr 1
  rw [List.all_filter]
  rfl
def SpDoFit (f : Fn) : Prop := ∀ (S : Sto) (y : Lay) (x : D) (l : List Link) (row : List Int), S.dirty = false → y.Ok → seqOf S x = some (l.map enc) → row ∈ allSigns y.lens.length → f [y.d, x, enc row] S = .ok (.bl (fitRow y l row)) S
theorem spDoFit (F : Nat → Fn) (iL : Nat) (hL : SpLlinks (F iL)) : SpDoFit (liftF (fnSem 9 3 (svs F (b_Ldo_fit iL)))) := by
  have key : ∀ (S : Sto) (y : Lay) (x : D) (l : List Link) (row : List Int), S.dirty = false → y.Ok → seqOf S x = some (l.map enc) → row ∈ allSigns y.lens.length → fnSem 9 3 (svs F (b_Ldo_fit iL)) [y.d, x, enc row] S = .ok (.bl (fitRow y l row)) S := fun S y x l row h1 h2 h3 h4 => by
    obtain ⟨B, bs, t⟩ := S
    obtain rfl : t = false := h1
    refine Res.To.eq (fn_to rfl ?_)
    generalize hQ : (fun (b : D) (S_1 : Sto) => b = .bl (fitRow y l row) ∧ S_1 = (⟨B, bs, false⟩ : Sto)) = Q
    have fin : ∀ (b : Bool) (L : List O), b = fitRow y l row → (ret ⟨B, bs, false⟩ (.bl b) ⟨B ++ L, B.length :: bs, false⟩).To Q := fun b L hb => by
      rw [ret_flat rfl rfl, ← hQ, hb]
      exact ⟨rfl, by simp [Sto.len]⟩
    simp only [b_Ldo_fit, List.map, List.cons_append, List.nil_append, List.replicate]
    have e1 := fun S => hL S y h2
    simp_arith [e1]
    have hrl := allSigns_len h4
    obtain ⟨I, hI⟩ : ∃ I : List Rw → En → Sto → Prop, ∀ done ρ S, I done ρ S ↔ ∃ z3 z4 z5 z6 : Option D, ρ = [some y.d, some x, some (enc row), z3, z4, z5, z6, none, none] ∧ S = ⟨B ++ [.lst (y.rows.map rowD)], B.length :: bs, false⟩ ∧ (done.all fun r => !(!decide (r.2.2.2 = 1) || decide (r.1 ∈ l)) || oneFits row r) = true := ⟨_, fun _ _ _ => Iff.rfl⟩
    refine for_enc (l := y.rows) (enc := rowD) ?a1 I ?a2 ?a3 ?a4 ?a5
    case a1 => simp
    case a2 => exact (hI _ _ _).mpr ⟨_, _, _, _, rfl, rfl, rfl⟩
    case a3 =>
      intro done rest ρ S e h
      obtain ⟨_, _, _, _, _, hS, _⟩ := (hI _ _ _).mp h
      subst hS
      exact live_next (o := .lst (y.rows.map rowD)) get_app0 rfl e
    case a4 =>
      intro done r rest ρ S e h
      obtain ⟨z3, z4, z5, z6, hρ, hS, a3⟩ := (hI _ _ _).mp h
      subst hρ hS
      have hr : r ∈ y.rows := by rw [e]; simp
      have c4 : ∀ L t, in? ⟨B ++ L, t, false⟩ (enc r.1) x = some (decide (r.1 ∈ l)) := fun L t => by
        refine in_seq (α := Link) ?_ (by decide)
        rcases seq_cases h3 with rfl | ⟨n, o, rfl, q1, q2⟩
        · rfl
        · rw [seqOf_ref, list_at (o := o)]
          · exact q2
          · exact (List.getElem?_append_left (List.getElem?_eq_some_iff.mp q1).1).trans q1
      obtain ⟨⟨n1, n2⟩, n3, n4⟩ := row_nodes h2 hr
      have g1 := rget_at hrl n1 n2
      have g2 := rget_at hrl n3 n4
      have yes : (!decide (r.2.2.2 = 1) || decide (r.1 ∈ l)) = true → ((decide ((rget row r.2.1.1 + rget row r.2.2.1.1 + crossI r) % 2 = 1)) = false → I (done ++ [r]) [some y.d, some x, some (enc row), some (enc r.1), some (enc r.2.1), some (enc r.2.2.1), some (.int r.2.2.2), none, none] ⟨B ++ [.lst (y.rows.map rowD)], B.length :: bs, false⟩) ∧ (decide ((rget row r.2.1.1 + rget row r.2.2.1.1 + crossI r) % 2 = 1) = true → fitRow y l row = false) := fun hc => by
        refine ⟨fun ho => (hI _ _ _).mpr ⟨_, _, _, _, rfl, rfl, ?_⟩, fun ho => ?_⟩
        · rw [List.all_append, a3]
          simp only [List.all_cons, List.all_nil, oneFits, ho, Bool.not_false, Bool.or_true, Bool.and_self]
        · rw [fitRow_eq, ← Bool.not_eq_true, Bool.and_eq_true, List.all_eq_true]
          rintro ⟨z, _⟩
          have := z r hr
          simp only [hc, oneFits, ho, Bool.not_true, Bool.or_self] at this
          cases this
      have no : (!decide (r.2.2.2 = 1) || decide (r.1 ∈ l)) = false → I (done ++ [r]) [some y.d, some x, some (enc row), some (enc r.1), some (enc r.2.1), some (enc r.2.2.1), some (.int r.2.2.2), none, none] ⟨B ++ [.lst (y.rows.map rowD)], B.length :: bs, false⟩ := fun hc => by
        refine (hI _ _ _).mpr ⟨_, _, _, _, rfl, rfl, ?_⟩
        rw [List.all_append, a3]
        simp only [List.all_cons, List.all_nil, hc, Bool.not_false, Bool.true_or, Bool.and_self]
      have hcb := row_bits h2 hr
      simp only [rowD]
      simp_arith [c4]
      by_cases hcut : r.2.2.2 = 0
      · have hy := yes (by simp [hcut])
        rw [if_pos hcut]
        rw [enc_list row]
        simp_arith [enc_prod, enc_int, g1, g2]
        refine ⟨by decide, ?_⟩
        by_cases ho : (rget row r.2.1.1 + rget row r.2.2.1.1 + if r.2.1.2 = r.2.2.1.2 then 1 else 0) % 2 = 1
        · rw [if_pos ho]
          exact fin false _ (hy.2 (decide_eq_true ho)).symm
        · rw [if_neg ho]
          exact hy.1 (decide_eq_false ho)
      · rw [if_neg hcut]
        have hcut1 : r.2.2.2 = 1 := hcb.resolve_left hcut
        by_cases hin : r.1 ∈ l
        · have hy := yes (by simp [hin])
          rw [if_pos hin]
          rw [enc_list row]
          simp_arith [enc_prod, enc_int, g1, g2]
          refine ⟨by decide, ?_⟩
          by_cases ho : (rget row r.2.1.1 + rget row r.2.2.1.1 + if r.2.1.2 = r.2.2.1.2 then 1 else 0) % 2 = 1
          · rw [if_pos ho]
            exact fin false _ (hy.2 (decide_eq_true ho)).symm
          · rw [if_neg ho]
            exact hy.1 (decide_eq_false ho)
        · rw [if_neg hin]
          exact no (by simp [hcut1, hin])
    case a5 =>
      intro ρ S h
      obtain ⟨z3, z4, z5, z6, hρ, hS, a3⟩ := (hI _ _ _).mp h
      subst hρ hS
      simp_arith [Lay.d]
      rw [enc_list y.feeds, enc_list row]
      simp_arith []
      have hfl := h2.fl
      refine comp_pure' (α := Int × Int) (enc := enc) (B := B ++ [O.lst (y.rows.map rowD)]) (bs := B.length :: bs) (l := y.feeds) (fun f => !decide (rget row f.1 = f.2)) (fun f => .int 1) of_items (by simp) (by simp) (by simp) (by omega) (by simp) (fun f hf acc => ?_) ?_
      · have q := h2.fi f hf
        have g1 := rget_at hrl q.1 q.2.1
        simp_arith [enc_prod, enc_int, g1]
        exact fun _ => trivial
      · simp_arith []
        refine ⟨rfl, ?_⟩
        have q := q_list (α := Int) (S := ⟨B ++ [O.lst (y.rows.map rowD), O.lst ((y.feeds.filter fun f => !decide (rget row f.1 = f.2)).map fun _ => .int 1), .lst []], B.length :: bs, false⟩) (n := B.length + 1) (m := B.length + 2) (o := O.lst ((y.feeds.filter fun f => !decide (rget row f.1 = f.2)).map fun _ => .int 1)) (o' := .lst []) (l := (y.feeds.filter fun f => !decide (rget row f.1 = f.2)).map fun _ => 1) (l' := []) get_app (by simp [seqO_lst, enc_int]) get_app rfl (by decide)
        simp_arith [q]
        refine fin _ _ ?_
        rw [fitRow_eq, a3, Bool.true_and]
        simp [List.all_eq, List.filter_eq_nil_iff]
  intro S y x l row h1 h2 h3 h4
  refine lift_eq (key S y x l row h1 h2 h3 h4) (fun hb => key emp y x l row rfl h2 ?_ h4) rfl
  rcases seq_cases h3 with rfl | ⟨n, o, rfl, q1, q2⟩
  · rfl
  · simp only [D.blws, Lay.flat, Bool.true_and, Bool.and_eq_true] at hb
    cases hb.1
/-! ### the least ones -/
def SpLeast (f : Fn) : Prop := ∀ (S : Sto) (y : Lay) (x : D) (l : List Link), S.dirty = false → y.Ok → seqOf S x = some (l.map enc) → f [y.d, x] S = .ok (optD (leastSigns y l)) S
theorem spLeast (F : Nat → Fn) (iA iD : Nat) (hA : SpAllSigns (F iA)) (hD : SpDoFit (F iD)) : SpLeast (liftF (fnSem 3 2 (svs F (b_Lleast iA iD)))) := fun S y x l h1 h2 h3 => by
  refine lift_eq2 h3 h1 (fun S h1 h3 => ?_) (optD_flat _ _)
  obtain ⟨B, bs, t⟩ := S
  obtain rfl : t = false := h1
  refine Res.To.eq (fn_to rfl ?_)
  generalize hQ : (fun (b : D) (S_1 : Sto) => b = optD (leastSigns y l) ∧ S_1 = (⟨B, bs, false⟩ : Sto)) = Q
  have fin : ∀ (d : D) (L : List O), d = optD (leastSigns y l) → (ret ⟨B, bs, false⟩ d ⟨B ++ L, B.length :: bs, false⟩).To Q := fun d L hd => by
    rw [ret_flat rfl (hd ▸ optD_flat _ _), ← hQ]
    exact ⟨hd, by simp [Sto.len]⟩
  simp only [b_Lleast, List.map, List.cons_append, List.nil_append, List.replicate]
  have e1 := fun S => hA S y.lens.length h2.n10
  simp_arith [Lay.d]
  rw [enc_list y.lens]
  simp_arith [e1]
  rw [← enc_list y.lens]
  obtain ⟨I, hI⟩ : ∃ I : List (List Int) → En → Sto → Prop, ∀ done ρ S, I done ρ S ↔ ∃ z2 : Option D, ρ = [some (D.tup [enc y.lens, enc y.joints, enc y.feeds]), some x, z2] ∧ S = ⟨B ++ [.lst ((allSigns y.lens.length).map enc)], B.length :: bs, false⟩ ∧ ∀ r ∈ done, fitRow y l r = false := ⟨_, fun _ _ _ => Iff.rfl⟩
  refine for_enc (l := allSigns y.lens.length) (enc := enc) ?a1 I ?a2 ?a3 ?a4 ?a5
  case a1 => simp
  case a2 => exact (hI _ _ _).mpr ⟨_, rfl, rfl, by simp⟩
  case a3 =>
    intro done rest ρ S e h
    obtain ⟨_, _, hS, _⟩ := (hI _ _ _).mp h
    subst hS
    exact live_next (o := .lst ((allSigns y.lens.length).map enc)) get_app0 rfl e
  case a4 =>
    intro done r rest ρ S e h
    obtain ⟨z2, hρ, hS, a3⟩ := (hI _ _ _).mp h
    subst hρ hS
    have hr : r ∈ allSigns y.lens.length := by rw [e]; simp
    have e2 : F iD [D.tup [enc y.lens, enc y.joints, enc y.feeds], x, enc r] ⟨B ++ [.lst ((allSigns y.lens.length).map enc)], B.length :: bs, false⟩ = .ok (.bl (fitRow y l r)) ⟨B ++ [.lst ((allSigns y.lens.length).map enc)], B.length :: bs, false⟩ := hD _ y x l r rfl h2 (by
      rcases seq_cases h3 with rfl | ⟨n, o, rfl, q1, q2⟩
      · rfl
      · rw [seqOf_ref, list_at (o := o)]
        · exact q2
        · exact (List.getElem?_append_left (List.getElem?_eq_some_iff.mp q1).1).trans q1) hr
    simp_arith [e2]
    cases hf : fitRow y l r with
    | true =>
      simp_arith [Nat.reduceAdd]
      refine fin _ _ ?_
      have : leastSigns y l = some r := by
        unfold leastSigns
        rw [List.find?_eq_some_iff_append]
        exact ⟨hf, done, rest, e, fun a ha => by simp [a3 a ha]⟩
      rw [this]
      rfl
    | false =>
      simp_arith [Nat.reduceAdd]
      refine (hI _ _ _).mpr ⟨_, rfl, rfl, fun q hq => ?_⟩
      rcases List.mem_append.mp hq with hq | hq
      · exact a3 q hq
      · simp only [List.mem_singleton] at hq
        rw [hq, hf]
  case a5 =>
    intro ρ S h
    obtain ⟨z2, hρ, hS, a3⟩ := (hI _ _ _).mp h
    subst hρ hS
    simp_arith [Nat.reduceAdd]
    refine fin _ _ ?_
    have : leastSigns y l = none := by
      unfold leastSigns
      rw [List.find?_eq_none]
      intro r hr
      simp [a3 r hr]
    rw [this]
    rfl
end Sw

/-! Q1: the law's own table of parents. -/
namespace Sw
open PySem L2 Enc
local macro_rules | `(tactic| simp_arith [$xs,*]) => `(tactic| simp only [↓e_lit, ↓e_var, ↓e_bin, ↓e_cmp, ↓e_chain, ↓e_neg, ↓e_not, ↓e_and, ↓e_or, ↓e_ite, ↓e_tup, ↓e_lst, ↓e_dnewT, ↓e_dnewF, ↓e_ix, ↓e_sl, ↓p_none, ↓p_some, ↓e_call, ↓e_bi, ↓e_isi, ↓e_app, ↓e_pop, ↓e_get, ↓e_rev, ↓e_lenum, ↓e_dispk, ↓op_srcR, ↓op_enumR, ↓op_zipR, turns_live, turns_enumL, turns_zipL, turns_items, turns_enumI, turns_zipI, turns_range, Option.bind_some, Option.elim_some, ↓e_comp, ↓s_wh, ↓a_nil, ↓a_cons, ↓a_star, ↓g_name, ↓g_tup, ↓gs_nil, ↓gs_cons, ↓s_nil, ↓s_cons, ↓s_expr, ↓s_ret, ↓s_asg, ↓s_aug, ↓s_put, ↓s_ite, ↓s_pass, ↓s_brk, ↓s_cont, ↓i_e, ↓i_r1, ↓i_r2, ↓i_enum, ↓i_zip, ↓s_fo, ↓look_z, ↓look_s, ↓tb_bl, ↓ti_int, ↓tr_ref, ↓tt_tup, ↓op_some, ↓to_ok, ↓st_nx, ↓st_rt, ↓st_bk, ↓st_ct, List.set_cons_zero, List.set_cons_succ, boD, coD, biN, aoD, ↓p_addI, ↓p_addT, ↓p_addL, ↓p_sub, ↓p_mul, ↓p_fdiv, ↓p_mod, ↓p_pow, ↓p_iaddI, ↓p_iaddL, ↓p_isub, ↓p_lt, ↓p_gt, ↓p_le, ↓p_ge, ↓p_eq, ↓p_ne, ↓p_in, ↓p_notIn, ↓q_int, ↓p_isNN, ↓p_isTN, ↓p_isIN, ↓p_isRN, ↓p_isntNN, ↓p_isntTN, ↓p_isntIN, ↓p_isntRN, ↓p_isBB, ↓p_isntBB, ↓p_ixT, ↓p_ixR, ↓p_slT, ↓p_slR, ↓p_lenT, ↓p_lenR, ↓p_intI, ↓p_intB, ↓p_min, ↓p_max, ↓p_bl, ↓p_sum, ↓p_tupleT, ↓p_tupleR, ↓p_listT, ↓p_listR, ↓p_app, ↓p_pop0, ↓p_popI, ↓p_get1, ↓p_revT, ↓p_revR, ↓p_isi, ↓op_dput, ↓op_list, src_tup, enum_tup, zip_tup, seqO_lst, seqO_frz, lstO_lst, lenO_lst, lenO_frz, ixO_lst, isLst_lst, seqOf_tup, decide_eq_true_eq, List.length_cons, List.length_nil, Nat.beq, true_and, Nat.reduceAdd, List.getElem?_cons_zero, List.getElem?_cons_succ, get_app0, get_app, set_app0, set_app, List.append_assoc, List.cons_append, List.nil_append, List.length_append, wipeE, ↓op_map, ↓atI_map, atI_0, atI_1, atI_2, atI_3, List.length_map, st_enter, st_add, st_putT, st_len, bw_int, bw_bl, bw_non, bw_str, bw_tup, bws_nil, bws_cons, Enc.flat, flats, Bool.and_true, Bool.and_self, isT_tup, sub_TT, List.any_cons, List.any_nil, Bool.or_false, Bool.not_true, Bool.not_false, if_true, if_false, Bool.false_eq_true, decide_true, decide_false, $xs,*])
def b_Lroot : Ts := (.cons (.asg (.lit (.int 0)) (.name 2)) (.cons (.wh 200 (.cmp .ne (.ix (.ix (.var 0) (.var 1)) (.lit (.int 0))) (.var 1)) (.cons (.asg (.bin .mod (.bin .add (.var 2) (.ix (.ix (.var 0) (.var 1)) (.lit (.int 1)))) (.lit (.int 2))) (.name 2)) (.cons (.asg (.ix (.ix (.var 0) (.var 1)) (.lit (.int 0))) (.name 1)) .nil))) (.cons (.ret (.tup (.cons (.var 1) (.cons (.var 2) .nil)))) .nil)))
def b_Ltied (i_Lroot : Nat) : Ts := (.cons (.asg (.tup (.cons (.call i_Lroot (.cons (.var 0) (.cons (.var 1) .nil))) (.cons (.call i_Lroot (.cons (.var 0) (.cons (.var 2) .nil))) .nil))) (.tup 2 (.cons (.tup 2 (.cons (.name 4) (.cons (.name 5) .nil))) (.cons (.tup 2 (.cons (.name 6) (.cons (.name 7) .nil))) .nil)))) (.cons (.ite (.cmp .eq (.var 4) (.var 6)) (.cons (.ret (.cmp .eq (.bin .mod (.bin .add (.var 5) (.var 7)) (.lit (.int 2))) (.var 3))) .nil) .nil) (.cons (.put (.var 0) (.var 4) (.tup (.cons (.var 6) (.cons (.bin .mod (.bin .add (.bin .add (.var 5) (.var 7)) (.var 3)) (.lit (.int 2))) .nil)))) (.cons (.ret (.lit (.bl true))) .nil))))
def b_Lfits (i_Llinks i_Ltied : Nat) : Ts := (.cons (.asg (.bi .dict (.cons (.comp (.range2 (.cons (.neg (.lit (.int 1))) (.cons (.bi .len (.cons (.ix (.var 0) (.lit (.int 0))) .nil)) .nil))) [9] (.name 9) (.lit (.bl true)) (.tup (.cons (.var 9) (.cons (.tup (.cons (.var 9) (.cons (.lit (.int 0)) .nil))) .nil)))) .nil)) (.name 2)) (.cons (.fo (.e (.call i_Llinks (.cons (.var 0) .nil))) (.tup 4 (.cons (.name 3) (.cons (.name 4) (.cons (.name 5) (.cons (.name 6) .nil))))) (.cons (.ite (.or (.cmp .eq (.var 6) (.lit (.int 0))) (.cmp .is_in (.var 3) (.var 1))) (.cons (.ite (.not (.call i_Ltied (.cons (.var 2) (.cons (.ix (.var 4) (.lit (.int 0))) (.cons (.ix (.var 5) (.lit (.int 0))) (.cons (.bi .int (.cons (.cmp .eq (.ix (.var 4) (.lit (.int 1))) (.ix (.var 5) (.lit (.int 1)))) .nil)) .nil)))))) (.cons (.ret (.lit (.bl false))) .nil) .nil) .nil) .nil) .nil)) (.cons (.fo (.e (.ix (.var 0) (.lit (.int 2)))) (.tup 2 (.cons (.name 7) (.cons (.name 8) .nil))) (.cons (.ite (.not (.call i_Ltied (.cons (.var 2) (.cons (.var 7) (.cons (.neg (.lit (.int 1))) (.cons (.var 8) .nil)))))) (.cons (.ret (.lit (.bl false))) .nil) .nil) .nil)) (.cons (.ret (.lit (.bl true))) .nil))))
abbrev Tr := List (Int × (Int × Int))
def tkd (tr : Tr) : O := .dct (tr.map fun p => (.int p.1, enc p.2))
theorem tkd_look : ∀ (tr : Tr) (x : Int), dLook keyOf (tr.map fun p => ((.int p.1 : D), enc p.2)) (.inl x) = (tr.lookup x).map enc
  | [], x => rfl
  | (a, v) :: tr, x => by
    simp only [List.map_cons, dLook, keyOf, List.lookup_cons]
    by_cases h : a = x
    · subst h; simp
    · have h1 : decide ((Sum.inl a : Key) = Sum.inl x) = false := decide_eq_false (fun z => h (Sum.inl.inj z))
      have h2 : (x == a) = false := beq_eq_false_iff_ne.mpr (Ne.symm h)
      simp only [h1, h2, tkd_look tr x]
theorem tkd_ix (tr : Tr) (x : Int) : ixO (tkd tr) (.int x) = (tr.lookup x).map enc := by
  have h : seqO (tkd tr) = none := rfl
  simp only [ixO, h, getO, tkd, keyOf, tkd_look]
  cases tr.lookup x <;> rfl
def tset (tr : Tr) (x : Int) (v : Int × Int) : Tr := tr.map fun p => if p.1 = x then (p.1, v) else p
theorem tset_len (tr : Tr) (x : Int) (v : Int × Int) : (tset tr x v).length = tr.length := by simp [tset]
theorem tset_look : ∀ (tr : Tr) (x y : Int) (v : Int × Int), (tset tr x v).lookup y = if y = x then (tr.lookup y).map fun _ => v else tr.lookup y
  | [], x, y, v => by simp [tset]
  | (a, w) :: tr, x, y, v => by
    have ih := tset_look tr x y v
    simp only [tset, List.map_cons] at ih ⊢
    by_cases hax : a = x
    · subst hax
      simp only [if_true, List.lookup_cons]
      by_cases hy : y = a
      · subst hy; simp
      · have h2 : (y == a) = false := beq_eq_false_iff_ne.mpr hy
        simp only [h2]
        rw [ih, if_neg hy]
    · rw [if_neg hax]
      simp only [List.lookup_cons]
      by_cases hy : y = a
      · subst hy; simp [hax]
      · have h2 : (y == a) = false := beq_eq_false_iff_ne.mpr hy
        simp only [h2]
        exact ih
theorem dRep_tkd : ∀ (tr : Tr) (x : Int) (v : Int × Int), dRep keyOf (.inl x) (enc v) (tr.map fun p => ((.int p.1 : D), enc p.2)) = (tset tr x v).map fun p => ((.int p.1 : D), enc p.2)
  | [], x, v => rfl
  | (a, w) :: tr, x, v => by
    have ih := dRep_tkd tr x v
    simp only [tset] at ih ⊢
    simp only [List.map_cons, dRep, keyOf, ih]
    by_cases h : a = x
    · subst h; simp
    · have h1 : decide ((Sum.inl a : Key) = Sum.inl x) = false := decide_eq_false (fun z => h (Sum.inl.inj z))
      simp only [h1, h, if_false]
theorem tkd_put {tr : Tr} {x : Int} {v : Int × Int} (h : (tr.lookup x).isSome = true) (hl : tr.length ≤ 1000) : dputO (tkd tr) (.int x) (enc v) = some (tkd (tset tr x v)) := by
  have hf : fits (tr.length + 1) = true := Nat.ble_eq_true_of_le (by omega)
  obtain ⟨w, hw⟩ := Option.isSome_iff_exists.mp h
  simp only [dputO, tkd, keyOf, List.length_map, hf, dPut, tkd_look, hw, Option.map_some, dRep_tkd]
/-- the way to the root: its parity, its length -/
inductive Rt (tr : Tr) : Int → Int → Int → Nat → Prop where
  | root {x o : Int} (h : tr.lookup x = some (x, o)) : Rt tr x x 0 0
  | step {x q o r p : Int} {k : Nat} (h : tr.lookup x = some (q, o)) (hq : q ≠ x) (ho : isBit o) (t : Rt tr q r p k) : Rt tr x r ((o + p) % 2) (k + 1)
theorem Rt.bit {tr : Tr} {x r p : Int} {k : Nat} (h : Rt tr x r p k) : isBit p := by
  cases h with
  | root h => exact .inl rfl
  | step h hq ho t => simp only [isBit]; omega
theorem Rt.top {tr : Tr} {x r p : Int} {k : Nat} (h : Rt tr x r p k) : ∃ o, tr.lookup r = some (r, o) := by
  induction h with
  | root h => exact ⟨_, h⟩
  | step h hq ho t ih => exact ih
theorem Rt.fn {tr : Tr} {x r p : Int} {k : Nat} (h : Rt tr x r p k) : ∀ {r' p' : Int} {k' : Nat}, Rt tr x r' p' k' → r' = r ∧ p' = p ∧ k' = k := by
  induction h with
  | root h =>
    intro r' p' k' h'
    cases h' with
    | root h2 => exact ⟨rfl, rfl, rfl⟩
    | step h2 hq _ _ => rw [h] at h2; cases h2; exact absurd rfl hq
  | step h hq ho t ih =>
    intro r' p' k' h'
    cases h' with
    | root h2 => rw [h] at h2; cases h2; exact absurd rfl hq
    | step h2 hq2 ho2 t2 =>
      rw [h] at h2
      cases h2
      obtain ⟨rfl, rfl, rfl⟩ := ih t2
      exact ⟨rfl, rfl, rfl⟩
theorem Rt.link {tr : Tr} {near far c : Int} (hn : near ≠ far) (hf : ∃ o, tr.lookup far = some (far, o)) (hc : isBit c) {x r p : Int} {k : Nat} (h : Rt tr x r p k) (hnr : ∃ o, tr.lookup near = some (near, o)) :
    (r ≠ near → Rt (tset tr near (far, c)) x r p k) ∧ (r = near → Rt (tset tr near (far, c)) x far ((p + c) % 2) (k + 1)) := by
  obtain ⟨on, hn1⟩ := hnr
  obtain ⟨of, hf1⟩ := hf
  induction h with
  | @root x o h =>
    refine ⟨fun hne => .root (o := o) (by rw [tset_look, if_neg hne]; exact h), fun e => ?_⟩
    subst e
    have h1 : (tset tr x (far, c)).lookup x = some (far, c) := by rw [tset_look, if_pos rfl, hn1]; rfl
    have h2 : (tset tr x (far, c)).lookup far = some (far, of) := by rw [tset_look, if_neg (Ne.symm hn)]; exact hf1
    have := Rt.step h1 (Ne.symm hn) hc (.root h2)
    have e : (0 + c) % 2 = (c + 0) % 2 := by omega
    rw [e]
    exact this
  | @step x q o r p k h hq ho t ih =>
    have hx : x ≠ near := fun z => by subst z; rw [hn1] at h; cases h; exact hq rfl
    have h1 : (tset tr near (far, c)).lookup x = some (q, o) := by rw [tset_look, if_neg hx]; exact h
    refine ⟨fun hne => .step h1 hq ho (ih.1 hne), fun e => ?_⟩
    have := Rt.step h1 hq ho (ih.2 e)
    have e2 : ((o + p) % 2 + c) % 2 = (o + (p + c) % 2) % 2 := by omega
    rw [e2]
    exact this
def SpRoot (f : Fn) : Prop := ∀ (S : Sto) (n : Nat) (tr : Tr) (x r p : Int) (k : Nat), S.dirty = false → S.objs[n]? = some (tkd tr) → Rt tr x r p k → k < 150 → f [.ref n, .int x] S = .ok (.tup [.int r, .int p]) S
theorem spRoot (F : Nat → Fn) : SpRoot (liftF (fnSem 3 2 (svs F b_Lroot))) := fun S n tr x r p k h1 h2 h3 h4 => by
  rw [lift_ref rfl]
  refine Res.To.eq (fn_to rfl ?_)
  generalize hQ : (fun (b : D) (S_1 : Sto) => b = .tup [.int r, .int p] ∧ S_1 = S) = Q
  simp only [b_Lroot, List.map, List.cons_append, List.nil_append, List.replicate]
  simp_arith []
  have h2' : S.enter.objs[n]? = some (tkd tr) := h2
  obtain ⟨I, hI⟩ : ∃ I : Nat → En → Sto → Prop, ∀ m ρ S', I m ρ S' ↔ ∃ (q o p' : Int), ρ = [some (.ref n), some (.int q), some (.int o)] ∧ S' = S.enter ∧ Rt tr q r p' m ∧ isBit o ∧ (o + p') % 2 = p := ⟨_, fun _ _ _ => Iff.rfl⟩
  have hpb := h3.bit
  refine while_go I ?step 200 k _ _ (by omega) ((hI _ _ _).mpr ⟨x, 0, p, rfl, rfl, h3, .inl rfl, by rcases hpb with rfl | rfl <;> decide⟩)
  case step =>
    intro m ρ S1 h
    obtain ⟨q, o, p', hρ, hS, a1, a2, a3⟩ := (hI _ _ _).mp h
    subst hρ hS
    cases a1 with
    | @root _ oo hl =>
      have e1 := tkd_ix tr r
      rw [hl] at e1
      simp_arith [h2', e1, Option.map_some, enc_prod, enc_int]
      refine ⟨rfl, ?_⟩
      have e2 : o = p := by rcases a2 with rfl | rfl <;> simp at a3 <;> omega
      rw [ret_same h1 rfl, ← hQ, e2]
      exact ⟨rfl, rfl⟩
    | @step _ q2 oo _ p2 k2 hl hq ho t =>
      have e1 := tkd_ix tr q
      rw [hl] at e1
      simp_arith [h2', e1, Option.map_some, enc_prod, enc_int, hq]
      refine ⟨k2, rfl, by decide, (hI _ _ _).mpr ⟨q2, (o + oo) % 2, p2, rfl, rfl, t, ?_, ?_⟩⟩
      · simp only [isBit]; omega
      · omega
structure TrI (U : List Int) (ts : List Tie) (tr : Tr) (K : Nat) : Prop where
  rt : ∀ x ∈ U, ∃ r p k, Rt tr x r p k ∧ k ≤ K
  snd : ∀ s, FitsT s ts → ∀ x ∈ U, ∀ r p k, Rt tr x r p k → s x = xr (s r) p
  cmp : ∀ t ∈ ts, ∃ r p p' k k', Rt tr t.a r p k ∧ Rt tr t.b r p' k' ∧ (p + p') % 2 = t.u
theorem xr_xr {a p c : Int} (ha : isBit a) (hp : isBit p) (hc : isBit c) : xr (xr a c) p = xr a ((p + c) % 2) := by
  rcases ha with rfl | rfl <;> rcases hp with rfl | rfl <;> rcases hc with rfl | rfl <;> decide
theorem xr_two {a b p q u : Int} (ha : isBit a) (hb : isBit b) (hp : isBit p) (hq : isBit q) (hu : isBit u) (h : xr b q = xr (xr a p) u) : a = xr b ((p + q + u) % 2) := by
  rcases ha with rfl | rfl <;> rcases hb with rfl | rfl <;> rcases hp with rfl | rfl <;> rcases hq with rfl | rfl <;> rcases hu with rfl | rfl <;> revert h <;> decide
theorem xr_one {a p q u : Int} (ha : isBit a) (hp : isBit p) (hq : isBit q) (hu : isBit u) (h : xr a q = xr (xr a p) u) : (p + q) % 2 = u := by
  rcases ha with rfl | rfl <;> rcases hp with rfl | rfl <;> rcases hq with rfl | rfl <;> rcases hu with rfl | rfl <;> revert h <;> decide
theorem FitsT.front {s : Int → Int} {ts : List Tie} {t : Tie} (h : FitsT s (ts ++ [t])) : FitsT s ts := ⟨h.bit, fun t' ht' => h.fit t' (List.mem_append_left _ ht')⟩
theorem TrI.same {U : List Int} {ts : List Tie} {tr : Tr} {K : Nat} (h : TrI U ts tr K) {t : Tie} {r p p' : Int} {k k' : Nat} (h1 : Rt tr t.a r p k) (h2 : Rt tr t.b r p' k') (hu : (p + p') % 2 = t.u) : TrI U (ts ++ [t]) tr (K + 1) := by
  refine ⟨fun x hx => ?_, fun s hs => h.snd s hs.front, fun t' ht' => ?_⟩
  · obtain ⟨r, p, k, q1, q2⟩ := h.rt x hx
    exact ⟨r, p, k, q1, by omega⟩
  · rcases List.mem_append.mp ht' with z | z
    · exact h.cmp t' z
    · simp only [List.mem_singleton] at z
      subst z
      exact ⟨r, p, p', k, k', h1, h2, hu⟩
theorem TrI.link {U : List Int} {ts : List Tie} {tr : Tr} {K : Nat} (h : TrI U ts tr K) {t : Tie} {near far p p' : Int} {k k' : Nat} (h1 : Rt tr t.a near p k) (h2 : Rt tr t.b far p' k') (hne : near ≠ far) (hu : isBit t.u) (ha : t.a ∈ U) (hb : t.b ∈ U) : TrI U (ts ++ [t]) (tset tr near (far, (p + p' + t.u) % 2)) (K + 1) := by
  have hc : isBit ((p + p' + t.u) % 2) := by simp only [isBit]; omega
  have lk : ∀ {x r q : Int} {k : Nat}, Rt tr x r q k → (r ≠ near → Rt (tset tr near (far, (p + p' + t.u) % 2)) x r q k) ∧ (r = near → Rt (tset tr near (far, (p + p' + t.u) % 2)) x far ((q + (p + p' + t.u) % 2) % 2) (k + 1)) := fun hr => Rt.link hne h2.top hc hr h1.top
  have hn := lk h1
  have hf := lk h2
  refine ⟨fun x hx => ?_, fun s hs x hx r q m hr => ?_, fun t' ht' => ?_⟩
  · obtain ⟨r, q, m, q1, q2⟩ := h.rt x hx
    by_cases e : r = near
    · exact ⟨_, _, _, (lk q1).2 e, by omega⟩
    · exact ⟨_, _, _, (lk q1).1 e, by omega⟩
  · have hs0 := hs.front
    have ft := hs.fit t (by simp)
    have sn : s near = xr (s far) ((p + p' + t.u) % 2) := by
      have e1 := h.snd s hs0 _ ha _ _ _ h1
      have e2 := h.snd s hs0 _ hb _ _ _ h2
      rw [e1, e2] at ft
      exact xr_two (hs.bit _) (hs.bit _) h1.bit h2.bit hu ft
    obtain ⟨r0, p0, k0, g1, _⟩ := h.rt x hx
    have e0 := h.snd s hs0 x hx _ _ _ g1
    by_cases e : r0 = near
    · obtain ⟨rfl, rfl, _⟩ := ((lk g1).2 e).fn hr
      rw [e0, e, sn, xr_xr (hs.bit _) g1.bit hc]
    · obtain ⟨rfl, rfl, _⟩ := ((lk g1).1 e).fn hr
      exact e0
  · rcases List.mem_append.mp ht' with z | z
    · obtain ⟨r, q, q', m, m', g1, g2, g3⟩ := h.cmp t' z
      by_cases e : r = near
      · refine ⟨_, _, _, _, _, (lk g1).2 e, (lk g2).2 e, ?_⟩
        omega
      · exact ⟨_, _, _, _, _, (lk g1).1 e, (lk g2).1 e, g3⟩
    · simp only [List.mem_singleton] at z
      subst z
      refine ⟨_, _, _, _, _, hn.2 rfl, hf.1 (Ne.symm hne), ?_⟩
      have := h1.bit
      have := h2.bit
      rcases hu with e | e <;> rw [e] <;> omega
def SpTied (f : Fn) : Prop := ∀ (S : Sto) (n : Nat) (U : List Int) (ts : List Tie) (tr : Tr) (K : Nat) (a b u : Int) (st : Stp), S.dirty = false → S.objs[n]? = some (tkd tr) → TrI U ts tr K → K < 100 → tr.length ≤ 1000 → a ∈ U → b ∈ U → isBit u →
  (f [.ref n, .int a, .int b, .int u] S).To fun d S' => ∃ c tr', d = .bl c ∧ S' = ⟨S.objs.set n (tkd tr'), S.bs, false⟩ ∧ tr'.length = tr.length ∧ (c = true → TrI U (ts ++ [⟨a, b, u, st⟩]) tr' (K + 1)) ∧ (c = false → ∀ s, ¬ FitsT s (ts ++ [⟨a, b, u, st⟩]))
theorem set_same {α : Type} {l : List α} {n : Nat} {x : α} (h : l[n]? = some x) : l.set n x = l := by
  apply List.ext_getElem?
  intro i
  by_cases e : n = i
  · subst e; rw [List.getElem?_set_self (List.getElem?_eq_some_iff.mp h).1, h]
  · rw [List.getElem?_set_ne e]
theorem spTied (F : Nat → Fn) (iR : Nat) (hR : SpRoot (F iR)) : SpTied (liftF (fnSem 8 4 (svs F (b_Ltied iR)))) := fun S n U ts tr K a b u st h1 h2 h3 h4 h5 h6 h7 h8 => by
  rw [lift_ref rfl]
  refine fn_to rfl ?_
  generalize hQ : (fun (d : D) (S' : Sto) => ∃ c tr', d = .bl c ∧ S' = (⟨S.objs.set n (tkd tr'), S.bs, false⟩ : Sto) ∧ tr'.length = tr.length ∧ (c = true → TrI U (ts ++ [⟨a, b, u, st⟩]) tr' (K + 1)) ∧ (c = false → ∀ s, ¬ FitsT s (ts ++ [⟨a, b, u, st⟩]))) = Q
  simp only [b_Ltied, List.map, List.cons_append, List.nil_append, List.replicate]
  have h2' : S.enter.objs[n]? = some (tkd tr) := h2
  obtain ⟨r1, p1, k1, g1, q1⟩ := h3.rt a h6
  obtain ⟨r2, p2, k2, g2, q2⟩ := h3.rt b h7
  have e1 := hR S.enter n tr a r1 p1 k1 h1 h2' g1 (by omega)
  have e2 := hR S.enter n tr b r2 p2 k2 h1 h2' g2 (by omega)
  simp_arith [e1, e2]
  refine ⟨rfl, ?_⟩
  by_cases hr : r1 = r2
  · subst hr
    simp_arith [Nat.reduceAdd]
    refine ⟨by decide, ?_⟩
    rw [ret_same h1 rfl, ← hQ]
    refine ⟨_, tr, rfl, ?_, rfl, fun hc => ?_, fun hc s hs => ?_⟩
    · rw [set_same h2]
      obtain ⟨B, bs, t⟩ := S
      obtain rfl : t = false := h1
      rfl
    · exact h3.same (t := ⟨a, b, u, st⟩) g1 g2 (of_decide_eq_true hc)
    · have z1 := h3.snd s hs.front a h6 _ _ _ g1
      have z2 := h3.snd s hs.front b h7 _ _ _ g2
      have z3 := hs.fit ⟨a, b, u, st⟩ (by simp)
      rw [show s a = _ from z1, show s b = _ from z2] at z3
      exact of_decide_eq_false hc (xr_one (hs.bit _) g1.bit g2.bit h8 z3)
  · obtain ⟨o1, ho1⟩ := g1.top
    have hp := tkd_put (v := (r2, (p1 + p2 + u) % 2)) (x := r1) (tr := tr) (by rw [ho1]; rfl) h5
    have hp' : dputO (tkd tr) (.int r1) (.tup [.int r2, .int ((p1 + p2 + u) % 2)]) = some (tkd (tset tr r1 (r2, (p1 + p2 + u) % 2))) := hp
    simp_arith [hr, h2', hp']
    refine ⟨by decide, rfl, ?_⟩
    have kp : Kp [n] S.enter (S.enter.put n (tkd (tset tr r1 (r2, (p1 + p2 + u) % 2))) true) := (Kp.refl (W := [n]) (S := S.enter) h1).putN (.inl (by simp)) h1
    refine ret_put kp (put_at h2') (lt_of_at h2) rfl ?_
    rw [← hQ]
    refine ⟨true, _, rfl, rfl, tset_len _ _ _, fun _ => h3.link (t := ⟨a, b, u, st⟩) g1 g2 hr h8 h6 h7, fun z => by cases z⟩
end Sw

/-! Q2: the law's own look whether signs fit. -/
namespace Sw
open PySem L2 Enc
local macro_rules | `(tactic| simp_arith [$xs,*]) => `(tactic| simp only [↓e_lit, ↓e_var, ↓e_bin, ↓e_cmp, ↓e_chain, ↓e_neg, ↓e_not, ↓e_and, ↓e_or, ↓e_ite, ↓e_tup, ↓e_lst, ↓e_dnewT, ↓e_dnewF, ↓e_ix, ↓e_sl, ↓p_none, ↓p_some, ↓e_call, ↓e_bi, ↓e_isi, ↓e_app, ↓e_pop, ↓e_get, ↓e_rev, ↓e_lenum, ↓e_dispk, ↓op_srcR, ↓op_enumR, ↓op_zipR, turns_live, turns_enumL, turns_zipL, turns_items, turns_enumI, turns_zipI, turns_range, Option.bind_some, Option.elim_some, ↓e_comp, ↓s_wh, ↓a_nil, ↓a_cons, ↓a_star, ↓g_name, ↓g_tup, ↓gs_nil, ↓gs_cons, ↓s_nil, ↓s_cons, ↓s_expr, ↓s_ret, ↓s_asg, ↓s_aug, ↓s_put, ↓s_ite, ↓s_pass, ↓s_brk, ↓s_cont, ↓i_e, ↓i_r1, ↓i_r2, ↓i_enum, ↓i_zip, ↓s_fo, ↓look_z, ↓look_s, ↓tb_bl, ↓ti_int, ↓tr_ref, ↓tt_tup, ↓op_some, ↓to_ok, ↓st_nx, ↓st_rt, ↓st_bk, ↓st_ct, List.set_cons_zero, List.set_cons_succ, boD, coD, biN, aoD, ↓p_addI, ↓p_addT, ↓p_addL, ↓p_sub, ↓p_mul, ↓p_fdiv, ↓p_mod, ↓p_pow, ↓p_iaddI, ↓p_iaddL, ↓p_isub, ↓p_lt, ↓p_gt, ↓p_le, ↓p_ge, ↓p_eq, ↓p_ne, ↓p_in, ↓p_notIn, ↓q_int, ↓p_isNN, ↓p_isTN, ↓p_isIN, ↓p_isRN, ↓p_isntNN, ↓p_isntTN, ↓p_isntIN, ↓p_isntRN, ↓p_isBB, ↓p_isntBB, ↓p_ixT, ↓p_ixR, ↓p_slT, ↓p_slR, ↓p_lenT, ↓p_lenR, ↓p_intI, ↓p_intB, ↓p_min, ↓p_max, ↓p_bl, ↓p_sum, ↓p_tupleT, ↓p_tupleR, ↓p_listT, ↓p_listR, ↓p_app, ↓p_pop0, ↓p_popI, ↓p_get1, ↓p_revT, ↓p_revR, ↓p_isi, ↓op_dput, ↓op_list, src_tup, enum_tup, zip_tup, seqO_lst, seqO_frz, lstO_lst, lenO_lst, lenO_frz, ixO_lst, isLst_lst, seqOf_tup, decide_eq_true_eq, List.length_cons, List.length_nil, Nat.beq, true_and, Nat.reduceAdd, List.getElem?_cons_zero, List.getElem?_cons_succ, get_app0, get_app, set_app0, set_app, List.append_assoc, List.cons_append, List.nil_append, List.length_append, wipeE, ↓op_map, ↓atI_map, atI_0, atI_1, atI_2, atI_3, List.length_map, st_enter, st_add, st_putT, st_len, bw_int, bw_bl, bw_non, bw_str, bw_tup, bws_nil, bws_cons, Enc.flat, flats, Bool.and_true, Bool.and_self, isT_tup, sub_TT, List.any_cons, List.any_nil, Bool.or_false, Bool.not_true, Bool.not_false, if_true, if_false, Bool.false_eq_true, decide_true, decide_false, $xs,*])
theorem pairsOf_map (f : Int → D) : ∀ l : List Int, pairsOf (l.map fun x => .tup [.int x, f x]) = some (l.map fun x => ((Sum.inl x : Key), f x))
  | [] => rfl
  | x :: l => by simp only [List.map_cons, pairsOf, keyOf, pairsOf_map f l]
theorem putPairs_new (f : Int → Int × Int) : ∀ (l : List Int) (tr : Tr), l.Nodup → (∀ x ∈ l, tr.lookup x = none) → putPairs (tr.map fun p => ((.int p.1 : D), enc p.2)) (l.map fun x => ((Sum.inl x : Key), enc (f x))) = (tr ++ l.map fun x => (x, f x)).map fun p => ((.int p.1 : D), enc p.2)
  | [], tr, _, _ => by simp [putPairs]
  | x :: l, tr, h1, h2 => by
    obtain ⟨h3, h4⟩ := List.nodup_cons.mp h1
    have e : dPut keyOf (tr.map fun p => ((.int p.1 : D), enc p.2)) (.inl x) (kD (.inl x)) (enc (f x)) = (tr ++ [(x, f x)]).map fun p => ((.int p.1 : D), enc p.2) := by
      simp only [dPut, tkd_look, h2 x (by simp), Option.map_none, List.map_append, List.map_cons, List.map_nil, kD]
    simp only [List.map_cons, putPairs, e]
    rw [putPairs_new f l (tr ++ [(x, f x)]) h4 fun y hy => ?_]
    · simp
    · rw [List.lookup_append, h2 y (by simp [hy])]
      have : (y == x) = false := beq_eq_false_iff_ne.mpr fun z => h3 (z ▸ hy)
      simp [List.lookup_cons, this]
theorem p_dict {S : Sto} {n : Nat} {o : O} {l : List Int} {f : Int → Int × Int} {Q : D → Sto → Prop} (h : S.objs[n]? = some o) (ho : seqO o = some (l.map fun x => .tup [.int x, enc (f x)])) (hl : l.Nodup) : (dictN [.ref n] S).To Q = Q (.ref S.len) (S.add (tkd (l.map fun x => (x, f x)))) := by
  have e : S.list? n = some (l.map fun x => .tup [.int x, enc (f x)]) := by rw [list_at h, ho]
  have e2 := putPairs_new f l [] hl (by simp)
  simp only [List.map_nil, List.nil_append] at e2
  simp only [dictN, e, pairsOf_map, to_ok, tkd, e2]
theorem look_self (g : Int → Int × Int) : ∀ {l : List Int} {x : Int}, x ∈ l → (l.map fun x => (x, g x)).lookup x = some (g x)
  | a :: l, x, h => by
    simp only [List.map_cons, List.lookup_cons]
    by_cases e : x = a
    · subst e; simp
    · have : (x == a) = false := beq_eq_false_iff_ne.mpr e
      simp only [this]
      exact look_self g ((List.mem_cons.mp h).resolve_left e)
/-- signs that fit, from any way of signs that fits -/
theorem least_some {y : Lay} (hy : y.Ok) {l : List Link} {s : Int → Int} (hs : FitsT s (y.ties l)) : (leastSigns y l).isSome = true := by
  have hT := ties_in hy l
  -- with 0 at the root
  have : ∃ s, FitsT s (y.ties l) ∧ s (-1) = 0 := by
    rcases hs.bit (-1) with e | e
    · exact ⟨s, hs, e⟩
    · refine ⟨fun x => 1 - s x, ⟨fun x => flip_bit (hs.bit x), fun t ht => ?_⟩, by simp [e]⟩
      show 1 - s t.b = xr (1 - s t.a) t.u
      rw [hs.fit t ht]
      exact xr_flip (hs.bit _) (hT.u t ht)
  obtain ⟨s, hs, h0⟩ := this
  have hm : (List.range y.lens.length).map (fun i : Nat => s i) ∈ allSigns y.lens.length := mem_allSigns (by simp) fun x hx => by
    obtain ⟨i, _, rfl⟩ := List.mem_map.mp hx
    exact hs.bit _
  have hg : ∀ x ∈ y.nodes, rget ((List.range y.lens.length).map fun i : Nat => s i) x = s x := fun x hx => by
    have hU := mem_nodes.mp hx
    by_cases hx1 : x = -1
    · subst hx1; rw [h0]; rfl
    · have e : x = (x.toNat : Int) := by omega
      rw [e, rget_nat]
      have : x.toNat < y.lens.length := by omega
      simp [List.getD_eq_getElem?_getD, this]
  unfold leastSigns
  rw [List.find?_isSome]
  refine ⟨_, hm, (fits_iff hy hm).mpr ⟨rget_bit hm, fun t ht => ?_⟩⟩
  rw [hg _ (hT.a t ht), hg _ (hT.b t ht)]
  exact hs.fit t ht
theorem least_no {y : Lay} (hy : y.Ok) {l : List Link} (h : ∀ s, ¬ FitsT s (y.ties l)) : (leastSigns y l).isSome = false := by
  rw [least_none hy fun s hs => (h s hs).elim]
  rfl
theorem TrI.some {U : List Int} {ts : List Tie} {tr : Tr} {K : Nat} (h : TrI U ts tr K) (hT : TiesIn U ts) : ∃ s, FitsT s ts := by
  have hc : ∀ x, ∃ p, isBit p ∧ ∀ r q k, Rt tr x r q k → q = p := fun x => by
    by_cases e : ∃ r q k, Rt tr x r q k
    · obtain ⟨r, q, k, hr⟩ := e
      exact ⟨q, hr.bit, fun r' q' k' h' => (hr.fn h').2.1⟩
    · exact ⟨0, .inl rfl, fun r q k hr => absurd ⟨r, q, k, hr⟩ e⟩
  refine ⟨fun x => Classical.choose (hc x), fun x => (Classical.choose_spec (hc x)).1, fun t ht => ?_⟩
  obtain ⟨r, p, p', k, k', h1, h2, h3⟩ := h.cmp t ht
  rw [← (Classical.choose_spec (hc t.a)).2 _ _ _ h1, ← (Classical.choose_spec (hc t.b)).2 _ _ _ h2]
  have q1 := h1.bit
  have q2 := h2.bit
  have q3 := hT.u t ht
  rcases q1 with rfl | rfl <;> rcases q2 with rfl | rfl <;> rcases q3 with e | e <;> rw [e] at h3 ⊢ <;> revert h3 <;> decide
def SpFits (f : Fn) : Prop := ∀ (S : Sto) (y : Lay) (x : D) (l : List Link), S.dirty = false → y.Ok → seqOf S x = some (l.map enc) → f [y.d, x] S = .ok (.bl (leastSigns y l).isSome) S
theorem spFits (F : Nat → Fn) (iL iT : Nat) (hL : SpLlinks (F iL)) (hT : SpTied (F iT)) : SpFits (liftF (fnSem 10 2 (svs F (b_Lfits iL iT)))) := fun S y x l h1 h2 h3 => by
  refine lift_eq2 h3 h1 (fun S h1 h3 => ?_) rfl
  obtain ⟨B, bs, t⟩ := S
  obtain rfl : t = false := h1
  generalize hbody : svs F (b_Lfits iL iT) = body
  refine Res.To.eq (fn_to rfl ?_)
  generalize hQ : (fun (b : D) (S_1 : Sto) => b = .bl (leastSigns y l).isSome ∧ S_1 = (⟨B, bs, false⟩ : Sto)) = Q
  have fin : ∀ (b : Bool) (L : List O), b = (leastSigns y l).isSome → (ret ⟨B, bs, false⟩ (.bl b) ⟨B ++ L, B.length :: bs, false⟩).To Q := fun b L hb => by
    rw [ret_flat rfl rfl, ← hQ, hb]
    exact ⟨rfl, by simp [Sto.len]⟩
  rw [← hbody]
  simp only [b_Lfits, List.map, List.cons_append, List.nil_append, List.replicate]
  have hn10 := h2.n10
  have hR : (okR (-1) && okR (y.lens.length : Int)) = true := by simp only [okR, Bool.and_eq_true, decide_eq_true_eq]; omega
  simp_arith [Lay.d]
  rw [enc_list y.lens]
  simp_arith [hR]
  rw [show ((y.lens.length : Int) - -1).toNat = y.lens.length + 1 by omega]
  refine comp_pure' (α := Nat) (B := B) (bs := B.length :: bs) (l := List.range (y.lens.length + 1)) (enc := fun i => D.int (-1 + (i : Nat))) (fun _ => true) (fun i => .tup [.int (-1 + (i : Nat)), .tup [.int (-1 + (i : Nat)), .int 0]]) of_range rfl rfl (by simp) (by simp; omega) (by simp) (fun i hi acc => ?_) ?_
  · simp_arith []
    exact fun _ => ⟨rfl, rfl, trivial⟩
  · rw [filt_true]
    have en : (List.range (y.lens.length + 1)).map (fun i : Nat => D.tup [.int (-1 + (i : Nat)), .tup [.int (-1 + (i : Nat)), .int 0]]) = y.nodes.map fun x => .tup [.int x, enc ((x, 0) : Int × Int)] := by
      simp only [Lay.nodes, List.map_map, Function.comp_def, enc_prod, enc_int, Int.add_comm, Int.sub_eq_add_neg]
    rw [en, p_dict (l := y.nodes) (f := fun x => (x, 0)) get_app0 rfl (nodes_nodup y)]
    have e1 : ∀ S, F iL [.tup [.tup (y.lens.map enc), enc y.joints, enc y.feeds]] S = .ok (.ref S.len) (S.add (.lst (y.rows.map rowD))) := fun S => hL S y h2
    simp_arith [e1]
    have hTI := ties_in h2 l
    have tr0 : TrI y.nodes [] (y.nodes.map fun x => (x, ((x, 0) : Int × Int))) 0 := ⟨fun x hx => ⟨x, 0, 0, .root (look_self _ hx), Nat.le_refl _⟩, fun s hs x hx r p k hr => by
      obtain ⟨e1, e2, _⟩ := (Rt.root (o := 0) (look_self (fun x => (x, 0)) hx)).fn hr
      rw [e1, e2]
      have := hs.bit x
      rcases this with e | e <;> rw [e] <;> rfl, fun t ht => by cases ht⟩
    have hrl := rows_len h2
    have hfl := h2.fl
    have hnl := nodes_len y
    obtain ⟨I, hI⟩ : ∃ I : List Rw → En → Sto → Prop, ∀ done ρ S, I done ρ S ↔ ∃ (tr : Tr) (z3 z4 z5 z6 : Option D), ρ = [some (.tup [.tup (y.lens.map enc), enc y.joints, enc y.feeds]), some x, some (.ref (B.length + 1)), z3, z4, z5, z6, none, none, none] ∧ S = ⟨B ++ [.lst (y.nodes.map fun x => .tup [.int x, enc ((x, 0) : Int × Int)]), tkd tr, .lst (y.rows.map rowD)], B.length :: bs, false⟩ ∧ TrI y.nodes ((done.filter fun (r : Rw) => !decide (r.2.2.2 = 1) || decide (r.1 ∈ l)).map tieOf) tr (done.filter fun (r : Rw) => !decide (r.2.2.2 = 1) || decide (r.1 ∈ l)).length ∧ tr.length ≤ 100 := ⟨_, fun _ _ _ => Iff.rfl⟩
    refine for_enc (l := y.rows) (enc := rowD) ?a1 I ?a2 ?a3 ?a4 ?a5
    case a1 => simp
    case a2 => exact (hI _ _ _).mpr ⟨_, _, _, _, _, rfl, rfl, tr0, by simp; omega⟩
    case a3 =>
      intro done rest ρ S e h
      obtain ⟨_, _, _, _, _, _, hS, _⟩ := (hI _ _ _).mp h
      subst hS
      refine live_next (o := .lst (y.rows.map rowD)) ?_ rfl e
      rw [get_app]; rfl
    case a4 =>
      intro done r rest ρ S e h
      obtain ⟨tr, z3, z4, z5, z6, hρ, hS, a3, a4⟩ := (hI _ _ _).mp h
      subst hρ hS
      have hr : r ∈ y.rows := by rw [e]; simp
      have c4 : ∀ L t, in? ⟨B ++ L, t, false⟩ (enc r.1) x = some (decide (r.1 ∈ l)) := fun L t => by
        refine in_seq (α := Link) ?_ (by decide)
        rcases seq_cases h3 with rfl | ⟨n, o, rfl, q1, q2⟩
        · rfl
        · rw [seqOf_ref, list_at (o := o)]
          · exact q2
          · exact (List.getElem?_append_left (List.getElem?_eq_some_iff.mp q1).1).trans q1
      have hcb := row_bits h2 hr
      obtain ⟨⟨n1, n2⟩, n3, n4⟩ := row_nodes h2 hr
      have hdl : (done.filter fun (r : Rw) => !decide (r.2.2.2 = 1) || decide (r.1 ∈ l)).length ≤ 30 := by
        have h5 := List.length_filter_le (fun r : Rw => !decide (r.2.2.2 = 1) || decide (r.1 ∈ l)) done
        have h6 := congrArg List.length e
        simp at h6
        omega
      -- the call, and what is behind it
      have call : (!decide (r.2.2.2 = 1) || decide (r.1 ∈ l)) = true → (F iT [.ref (B.length + 1), .int r.2.1.1, .int r.2.2.1.1, .int (if r.2.1.2 = r.2.2.1.2 then 1 else 0)] ⟨B ++ [.lst (y.nodes.map fun x => .tup [.int x, enc ((x, 0) : Int × Int)]), tkd tr, .lst (y.rows.map rowD)], B.length :: bs, false⟩).To fun d S1 => tb d fun c => if (!c) = true then (ret ⟨B, bs, false⟩ (.bl false) S1).To Q else I (done ++ [r]) [some (.tup [.tup (y.lens.map enc), enc y.joints, enc y.feeds]), some x, some (.ref (B.length + 1)), some (enc r.1), some (enc r.2.1), some (enc r.2.2.1), some (.int r.2.2.2), none, none, none] S1 := fun hc => by
        refine (hT _ (B.length + 1) y.nodes _ tr _ r.2.1.1 r.2.2.1.1 (crossI r) (.link r.1.1 r.1.2) rfl (by rw [get_app]; rfl) a3 (by omega) (by omega) (mem_nodes.mpr ⟨by omega, n2⟩) (mem_nodes.mpr ⟨by omega, n4⟩) (cross_bit r)).mono fun d S1 ⟨c, tr', q1, q2, q3, q4, q5⟩ => ?_
        subst q1 q2
        rw [tb_bl]
        have hfa : (done ++ [r]).filter (fun (r : Rw) => !decide (r.2.2.2 = 1) || decide (r.1 ∈ l)) = (done.filter fun (r : Rw) => !decide (r.2.2.2 = 1) || decide (r.1 ∈ l)) ++ [r] := by
          rw [List.filter_append]; simp [hc]
        cases c with
        | true =>
          rw [if_neg (by simp)]
          refine (hI _ _ _).mpr ⟨tr', _, _, _, _, rfl, by simp [set_app], ?_, by omega⟩
          rw [hfa, List.map_append, List.length_append]
          exact q4 rfl
        | false =>
          rw [if_pos (by simp)]
          simp only [set_app]
          refine fin _ _ ?_
          rw [least_no h2]
          intro s hs
          refine q5 rfl s ⟨hs.bit, fun t ht => hs.fit t ?_⟩
          rcases List.mem_append.mp ht with ht | ht
          · obtain ⟨r', hr', rfl⟩ := List.mem_map.mp ht
            refine List.mem_append_left _ (List.mem_map_of_mem ?_)
            obtain ⟨m1, m2⟩ := List.mem_filter.mp hr'
            exact List.mem_filter.mpr ⟨by rw [e]; exact List.mem_append_left _ m1, m2⟩
          · simp only [List.mem_singleton] at ht
            subst ht
            exact List.mem_append_left _ (List.mem_map.mpr ⟨r, List.mem_filter.mpr ⟨hr, hc⟩, rfl⟩)
      simp only [rowD]
      simp_arith [c4]
      by_cases hcut : r.2.2.2 = 0
      · rw [if_pos hcut]
        have hy := call (by simp [hcut])
        simp_arith [enc_prod, enc_int]
        exact hy
      · rw [if_neg hcut]
        have hcut1 : r.2.2.2 = 1 := hcb.resolve_left hcut
        by_cases hin : r.1 ∈ l
        · rw [if_pos hin]
          have hy := call (by simp [hin])
          simp_arith [enc_prod, enc_int]
          exact hy
        · rw [if_neg hin]
          refine (hI _ _ _).mpr ⟨tr, _, _, _, _, rfl, rfl, ?_, a4⟩
          rw [List.filter_append]
          simpa [hcut1, hin] using a3
    case a5 =>
      intro ρ S h
      obtain ⟨tr, z3, z4, z5, z6, hρ, hS, a3, a4⟩ := (hI _ _ _).mp h
      subst hρ hS
      simp_arith []
      rw [enc_list y.feeds]
      simp_arith []
      have live_eq : (y.rows.filter fun (r : Rw) => !decide (r.2.2.2 = 1) || decide (r.1 ∈ l)) = y.live l := rfl
      rw [live_eq] at a3
      have hll : (y.live l).length ≤ 30 := Nat.le_trans (List.length_filter_le _ _) hrl
      obtain ⟨J, hJ⟩ : ∃ J : List (Int × Int) → En → Sto → Prop, ∀ done ρ S, J done ρ S ↔ ∃ (tr : Tr) (z7 z8 : Option D), ρ = [some (.tup [.tup (y.lens.map enc), enc y.joints, .tup (y.feeds.map enc)]), some x, some (.ref (B.length + 1)), z3, z4, z5, z6, z7, z8, none] ∧ S = ⟨B ++ [.lst (y.nodes.map fun x => .tup [.int x, enc ((x, 0) : Int × Int)]), tkd tr, .lst (y.rows.map rowD)], B.length :: bs, false⟩ ∧ TrI y.nodes ((y.live l).map tieOf ++ done.map tieF) tr ((y.live l).length + done.length) ∧ tr.length ≤ 100 := ⟨_, fun _ _ _ => Iff.rfl⟩
      refine for_fix (l := y.feeds) (enc := enc) ?b1 ?b2 J ?b3 ?b4 ?b5
      case b1 => exact fix_items
      case b2 => simp
      case b3 => exact (hJ _ _ _).mpr ⟨tr, _, _, rfl, rfl, by simpa using a3, a4⟩
      case b4 =>
        intro done f rest ρ S e h
        obtain ⟨tr, z7, z8, hρ, hS, b3, b4⟩ := (hJ _ _ _).mp h
        subst hρ hS
        have hf : f ∈ y.feeds := by rw [e]; simp
        have q := h2.fi f hf
        have hdl : done.length ≤ 10 := by have := congrArg List.length e; simp at this; omega
        rw [enc_prod f]
        simp_arith [enc_int]
        refine (hT _ (B.length + 1) y.nodes _ tr _ f.1 (-1) f.2 (.feed f.1) rfl (by rw [get_app]; rfl) b3 (by omega) (by omega) (mem_nodes.mpr ⟨by omega, q.2.1⟩) (mem_nodes.mpr ⟨by omega, by omega⟩) q.2.2).mono fun d S1 ⟨c, tr', q1, q2, q3, q4, q5⟩ => ?_
        subst q1 q2
        rw [tb_bl]
        cases c with
        | true =>
          rw [if_neg (by simp)]
          refine (hJ _ _ _).mpr ⟨tr', _, _, rfl, by simp [set_app], ?_, by omega⟩
          rw [List.map_append, List.length_append, ← List.append_assoc]
          exact q4 rfl
        | false =>
          rw [if_pos (by simp)]
          simp only [set_app]
          refine fin _ _ ?_
          rw [least_no h2]
          intro s hs
          refine q5 rfl s ⟨hs.bit, fun t ht => hs.fit t ?_⟩
          rcases List.mem_append.mp ht with ht | ht
          · rcases List.mem_append.mp ht with ht | ht
            · exact List.mem_append_left _ ht
            · obtain ⟨g, hg, rfl⟩ := List.mem_map.mp ht
              exact List.mem_append_right _ (List.mem_map_of_mem (by rw [e]; exact List.mem_append_left _ hg))
          · simp only [List.mem_singleton] at ht
            subst ht
            exact List.mem_append_right _ (List.mem_map.mpr ⟨f, hf, rfl⟩)
      case b5 =>
        intro ρ S h
        obtain ⟨tr, z7, z8, hρ, hS, b3, b4⟩ := (hJ _ _ _).mp h
        subst hρ hS
        refine fin _ _ ?_
        obtain ⟨s, hs⟩ := b3.some hTI
        exact (least_some h2 hs).symm
end Sw

/-! Q3: repr of small data. -/
namespace Sw
open PySem L2 Enc
mutual
def okP : PyData → Bool
  | .none => true
  | .bool _ => true
  | .int i => decide (-10 ≤ i) && decide (i < 1000)
  | .str _ => false
  | .list xs => okPs xs
  | .tuple xs => okPs xs
  | .dict _ => false
def okPs : List PyData → Bool
  | [] => true
  | x :: xs => okP x && okPs xs
end
mutual
def nodes : PyData → Nat
  | .none => 1
  | .bool _ => 1
  | .int _ => 1
  | .str _ => 1
  | .list xs => 1 + nodesL xs
  | .tuple xs => 1 + nodesL xs
  | .dict _ => 1
def nodesL : List PyData → Nat
  | [] => 0
  | x :: xs => nodes x + nodesL xs
end
def lens (ts : List Str) : Nat := (ts.map fun t => t.length + 2).sum
theorem str_app (a b : Str) : (a ++ b).length = a.length + b.length := by
  show (Str.append a b).length = _
  simp [Str.append, Str.length]
theorem textFrom_le : ∀ (ts : List Str) (k : Nat) (acc : Str), (textFrom k acc ts).length ≤ acc.length + lens ts
  | [], k, acc => by simp [textFrom, lens]
  | t :: r, k, acc => by
    have h := textFrom_le r (k + 1) (acc ++ (if k > 0 then ", " else "" : String) ++ t)
    have e : (textFrom k acc (t :: r)) = textFrom (k + 1) (acc ++ (if k > 0 then ", " else "" : String) ++ t) r := rfl
    rw [e]
    have h2 : ((if k > 0 then ", " else "" : String) : Str).length ≤ 2 := by split <;> decide
    rw [str_app, str_app] at h
    simp only [lens, List.map_cons, List.sum_cons] at h ⊢
    omega
theorem int_len (i : Int) (h1 : -10 ≤ i) (h2 : i < 1000) : ((toString i : String) : Str).length ≤ 4 := by
  have key : ∀ n : Fin 1010, ((toString ((n.val : Int) - 10) : String) : Str).length ≤ 4 := by decide +kernel
  have := key ⟨(i + 10).toNat, by omega⟩
  have e : (((i + 10).toNat : Nat) : Int) - 10 = i := by omega
  simp only [e] at this
  exact this
theorem join_le : ∀ ts : List Str, (Str.join ", " ts).length ≤ lens ts
  | [] => by decide
  | [x] => by show x.length ≤ _; simp [lens]
  | x :: y :: r => by
    have ih := join_le (y :: r)
    have e : Str.join ", " (x :: y :: r) = x ++ ", " ++ Str.join ", " (y :: r) := rfl
    rw [e, str_app, str_app]
    have h2 : ((", " : String) : Str).length = 2 := by decide
    simp only [lens, List.map_cons, List.sum_cons] at ih ⊢
    omega
mutual
theorem shown_le : ∀ p : PyData, okP p = true → p.shown.length ≤ 8 * nodes p - 2
  | .none, _ => by decide
  | .bool b, _ => by cases b <;> decide
  | .int i, h => by
    simp only [okP, Bool.and_eq_true, decide_eq_true_eq] at h
    have := int_len i h.1 h.2
    simp only [PyData.shown, nodes]
    omega
  | .str _, h => by simp [okP] at h
  | .dict _, h => by simp [okP] at h
  | .list xs, h => by
    have h1 := shownAll_le xs (by simpa only [okP] using h)
    have h2 := textFrom_le (PyData.shownAll xs) 0 "["
    have e1 : (("[" : String) : Str).length = 1 := by decide
    have e2 : (("]" : String) : Str).length = 1 := by decide
    simp only [PyData.shown, nodes, listText, str_app, e2]
    omega
  | .tuple xs, h => by
    have h1 := shownAll_le xs (by simpa only [okP] using h)
    have h2 := join_le (PyData.shownAll xs)
    have e1 : (("(" : String) : Str).length = 1 := by decide
    have e2 : ((if (PyData.shownAll xs).length == 1 then ",)" else ")" : String) : Str).length ≤ 2 := by split <;> decide
    simp only [PyData.shown, nodes, tupleText, str_app, e1]
    omega
theorem shownAll_le : ∀ xs : List PyData, okPs xs = true → lens (PyData.shownAll xs) ≤ 8 * nodesL xs
  | [], _ => by simp [PyData.shownAll, lens]
  | x :: xs, h => by
    simp only [okPs, Bool.and_eq_true] at h
    have h1 := shown_le x h.1
    have h2 := shownAll_le xs h.2
    have h3 : 1 ≤ nodes x := by cases x <;> simp only [nodes] <;> omega
    simp only [PyData.shownAll, lens, List.map_cons, List.sum_cons, nodesL] at h2 ⊢
    omega
end
mutual
theorem okP_show : ∀ p : PyData, okP p = true → p.showable = true ∧ p.hasDict = false
  | .none, _ => by simp [PyData.showable, PyData.hasDict]
  | .bool b, _ => by simp [PyData.showable, PyData.hasDict]
  | .int i, h => by
    simp only [okP, Bool.and_eq_true, decide_eq_true_eq] at h
    simp only [PyData.showable, PyData.hasDict, and_true, decide_eq_true_eq]
    by_cases hi : i.natAbs = 0
    · simp [hi]
    · exact Nat.lt_of_lt_of_le ((Nat.log2_lt hi).mpr (show i.natAbs < 2 ^ 10 by omega)) (by decide)
  | .str _, h => by simp [okP] at h
  | .dict _, h => by simp [okP] at h
  | .list xs, h => by
    simp only [PyData.showable, PyData.hasDict]
    exact okPs_show xs (by simpa only [okP] using h)
  | .tuple xs, h => by
    simp only [PyData.showable, PyData.hasDict]
    exact okPs_show xs (by simpa only [okP] using h)
theorem okPs_show : ∀ xs : List PyData, okPs xs = true → PyData.showableAll xs = true ∧ PyData.hasDictAll xs = false
  | [], _ => by simp [PyData.showableAll, PyData.hasDictAll]
  | x :: xs, h => by
    simp only [okPs, Bool.and_eq_true] at h
    obtain ⟨h1, h2⟩ := okP_show x h.1
    obtain ⟨h3, h4⟩ := okPs_show xs h.2
    simp [PyData.showableAll, PyData.hasDictAll, h1, h2, h3, h4]
end
theorem p_repr {S : Sto} {n : Nat} {p : PyData} {Q : D → Sto → Prop} (h : res S (.ref n) = some p) (h1 : okP p = true) (h2 : nodes p ≤ 100000) (h3 : p.depth ≤ 60) : (reprN [.ref n] S).To Q = Q (.str p.shown) S := by
  have e1 := okP_show p h1
  have e2 := shown_le p h1
  have e3 : fits p.shown.length = true := Nat.ble_eq_true_of_le (by omega)
  have e4 : Nat.ble p.depth 60 = true := Nat.ble_eq_true_of_le h3
  simp only [reprN, showN, h, e1.1, e1.2, e3, e4, Bool.not_false, Bool.and_self, to_ok]
theorem resR_two {S : Sto} {n k : Nat} {a b : D} {p q : PyData} (h : S.objs[n]? = some (.lst [a, b])) (ha : resW (resR S k) a = some p) (hb : resW (resR S k) b = some q) : resR S (k + 1) n = some (.list [p, q]) := by
  have : S.list? n = some [a, b] := by rw [list_at h, seqO_lst]
  simp only [resR, this, resWs, ha, hb]
theorem res_two {S : Sto} {n : Nat} {a b : D} {p q : PyData} (h : S.objs[n]? = some (.lst [a, b])) (ha : resW (resR S 5) a = some p) (hb : resW (resR S 5) b = some q) : res S (.ref n) = some (.list [p, q]) := by
  show resW (resR S 6) (.ref n) = _
  simp only [resW]
  exact resR_two h ha hb
theorem q_str {S : Sto} {a b : Str} : eqv? S (.str a) (.str b) = some (decide (a = b)) := nr rfl
/-! ### how large -/
theorem okPs_map {α : Type} {f : α → PyData} : ∀ {l : List α}, (∀ a ∈ l, okP (f a) = true) → okPs (l.map f) = true
  | [], _ => by simp only [List.map_nil, okPs]
  | a :: l, h => by simp only [List.map_cons, okPs, h a (by simp), okPs_map (l := l) fun b hb => h b (by simp [hb]), Bool.and_self]
theorem nodesL_map {α : Type} {f : α → PyData} {b : Nat} : ∀ {l : List α}, (∀ a ∈ l, nodes (f a) ≤ b) → nodesL (l.map f) ≤ l.length * b
  | [], _ => by simp only [List.map_nil, nodesL]; omega
  | a :: l, h => by
    have h1 := h a (by simp)
    have h2 := nodesL_map (l := l) fun b hb => h b (by simp [hb])
    simp only [List.map_cons, nodesL, List.length_cons, Nat.succ_mul]
    omega
def okI (i : Int) : Prop := -10 ≤ i ∧ i < 1000
theorem okP_int {i : Int} (h : okI i) : okP (Enc.pd i) = true := by
  show okP (.int i) = true
  simp only [okP, h.1, h.2, decide_true, Bool.and_self]
theorem okP_pair {α β : Type} [Enc α] [Enc β] {p : α × β} (h1 : okP (Enc.pd p.1) = true) (h2 : okP (Enc.pd p.2) = true) : okP (Enc.pd p) = true := by
  show okP (.tuple [Enc.pd p.1, Enc.pd p.2]) = true
  simp only [okP, okPs, h1, h2, Bool.and_self]
theorem okP_list {α : Type} [Enc α] {l : List α} (h : ∀ a ∈ l, okP (Enc.pd a) = true) : okP (Enc.pd l) = true := by
  show okP (.tuple (l.map Enc.pd)) = true
  simp only [okP]
  exact okPs_map h
theorem nodes_int (i : Int) : nodes (Enc.pd i) = 1 := by show nodes (.int i) = 1; simp only [nodes]
theorem nodes_pair {α β : Type} [Enc α] [Enc β] (p : α × β) : nodes (Enc.pd p) = 1 + nodes (Enc.pd p.1) + nodes (Enc.pd p.2) := by
  show nodes (.tuple [Enc.pd p.1, Enc.pd p.2]) = _
  simp only [nodes, nodesL]
  omega
theorem nodes_list {α : Type} [Enc α] {l : List α} {b : Nat} (h : ∀ a ∈ l, nodes (Enc.pd a) ≤ b) : nodes (Enc.pd l) ≤ 1 + l.length * b := by
  show nodes (.tuple (l.map Enc.pd)) ≤ _
  have := nodesL_map h
  simp only [nodes]
  omega
def Lay.pd (y : Lay) : PyData := .tuple [Enc.pd y.lens, Enc.pd y.joints, Enc.pd y.feeds]
theorem Lay.res (y : Lay) (r : Nat → Option PyData) : resW r y.d = some y.pd := by
  simp only [Lay.d, resW, resWs, Enc.res, Lay.pd]
theorem Lay.depth (y : Lay) : y.pd.depth ≤ 20 := by
  have h1 := Enc.depth y.lens
  have h2 := Enc.depth y.joints
  have h3 := Enc.depth y.feeds
  have e1 : Enc.dep (List Int) ≤ 10 := by decide
  have e2 : Enc.dep (List (End × List (End × Int))) ≤ 10 := by decide
  have e3 : Enc.dep (List (Int × Int)) ≤ 10 := by decide
  simp only [Lay.pd, PyData.depth, PyData.depthAll]
  omega
theorem bit_ok {i : Int} (h : isBit i) : okI i := by rcases h with rfl | rfl <;> simp [okI]
theorem lay_okp {y : Lay} (h : y.Ok) : okP y.pd = true := by
  have hn := h.n10
  have end_ok : ∀ e : End, 0 ≤ e.1 → e.1 < y.lens.length → isBit e.2 → okP (Enc.pd e) = true := fun e h1 h2 h3 => okP_pair (okP_int ⟨by omega, by omega⟩) (okP_int (bit_ok h3))
  have he : ∀ j ∈ y.joints, ∀ e ∈ endsOf j, okP (Enc.pd e) = true := fun j hj e he => by
    have := h.en e (List.mem_flatMap.mpr ⟨j, hj, he⟩)
    exact end_ok e this.1 this.2.1 this.2.2
  have a1 : okP (Enc.pd y.lens) = true := okP_list fun i hi => okP_int (by have := h.ln i hi; exact ⟨by omega, by omega⟩)
  have a2 : okP (Enc.pd y.joints) = true := okP_list fun j hj => okP_pair (he j hj _ (by simp [endsOf])) (okP_list fun b hb => okP_pair (he j hj _ (by simp only [endsOf, List.mem_cons, List.mem_map]; exact .inr ⟨b, hb, rfl⟩)) (okP_int (bit_ok (h.bc j hj b hb))))
  have a3 : okP (Enc.pd y.feeds) = true := okP_list fun f hf => okP_pair (okP_int (by have := h.fi f hf; exact ⟨by omega, by omega⟩)) (okP_int (bit_ok (h.fi f hf).2.2))
  simp only [Lay.pd, okP, okPs, a1, a2, a3, Bool.and_self]
theorem lay_nds {y : Lay} (h : y.Ok) : nodes y.pd ≤ 1000 := by
  have hn := h.n10
  have hj := h.jn
  have hf := h.fl
  have e0 : ∀ e : End, nodes (Enc.pd e) = 3 := fun e => by rw [nodes_pair, nodes_int, nodes_int]
  have a1 : nodes (Enc.pd y.lens) ≤ 1 + y.lens.length * 1 := nodes_list fun i _ => by rw [nodes_int]; omega
  have a2 : nodes (Enc.pd y.joints) ≤ 1 + y.joints.length * 20 := nodes_list fun j hj => by
    have := (h.b1 j hj).2
    have a : nodes (Enc.pd j.2) ≤ 1 + j.2.length * 5 := nodes_list fun b _ => by rw [nodes_pair, e0, nodes_int]; omega
    rw [nodes_pair, e0]
    omega
  have a3 : nodes (Enc.pd y.feeds) ≤ 1 + y.feeds.length * 3 := nodes_list fun f _ => by rw [nodes_pair, nodes_int, nodes_int]; omega
  simp only [Lay.pd, nodes, nodesL]
  omega
end Sw

/-! Q4: law k10, walked. -/
namespace Sw
open PySem L2 Enc
local macro_rules | `(tactic| simp_arith [$xs,*]) => `(tactic| simp only [↓e_lit, ↓e_var, ↓e_bin, ↓e_cmp, ↓e_chain, ↓e_neg, ↓e_not, ↓e_and, ↓e_or, ↓e_ite, ↓e_tup, ↓e_lst, ↓e_dnewT, ↓e_dnewF, ↓e_ix, ↓e_sl, ↓p_none, ↓p_some, ↓e_call, ↓e_bi, ↓e_isi, ↓e_app, ↓e_pop, ↓e_get, ↓e_rev, ↓e_lenum, ↓e_dispk, ↓op_srcR, ↓op_enumR, ↓op_zipR, turns_live, turns_enumL, turns_zipL, turns_items, turns_enumI, turns_zipI, turns_range, Option.bind_some, Option.elim_some, ↓e_comp, ↓s_wh, ↓a_nil, ↓a_cons, ↓a_star, ↓g_name, ↓g_tup, ↓gs_nil, ↓gs_cons, ↓s_nil, ↓s_cons, ↓s_expr, ↓s_ret, ↓s_asg, ↓s_aug, ↓s_put, ↓s_ite, ↓s_pass, ↓s_brk, ↓s_cont, ↓i_e, ↓i_r1, ↓i_r2, ↓i_enum, ↓i_zip, ↓s_fo, ↓look_z, ↓look_s, ↓tb_bl, ↓ti_int, ↓tr_ref, ↓tt_tup, ↓op_some, ↓to_ok, ↓st_nx, ↓st_rt, ↓st_bk, ↓st_ct, List.set_cons_zero, List.set_cons_succ, boD, coD, biN, aoD, ↓p_addI, ↓p_addT, ↓p_addL, ↓p_sub, ↓p_mul, ↓p_fdiv, ↓p_mod, ↓p_pow, ↓p_iaddI, ↓p_iaddL, ↓p_isub, ↓p_lt, ↓p_gt, ↓p_le, ↓p_ge, ↓p_eq, ↓p_ne, ↓p_in, ↓p_notIn, ↓q_int, ↓p_isNN, ↓p_isTN, ↓p_isIN, ↓p_isRN, ↓p_isntNN, ↓p_isntTN, ↓p_isntIN, ↓p_isntRN, ↓p_isBB, ↓p_isntBB, ↓p_ixT, ↓p_ixR, ↓p_slT, ↓p_slR, ↓p_lenT, ↓p_lenR, ↓p_intI, ↓p_intB, ↓p_min, ↓p_max, ↓p_bl, ↓p_sum, ↓p_tupleT, ↓p_tupleR, ↓p_listT, ↓p_listR, ↓p_app, ↓p_pop0, ↓p_popI, ↓p_get1, ↓p_revT, ↓p_revR, ↓p_isi, ↓op_dput, ↓op_list, src_tup, enum_tup, zip_tup, seqO_lst, seqO_frz, lstO_lst, lenO_lst, lenO_frz, ixO_lst, isLst_lst, seqOf_tup, decide_eq_true_eq, List.length_cons, List.length_nil, Nat.beq, true_and, Nat.reduceAdd, List.getElem?_cons_zero, List.getElem?_cons_succ, get_app0, get_app, set_app0, set_app, List.append_assoc, List.cons_append, List.nil_append, List.length_append, wipeE, ↓op_map, ↓atI_map, atI_0, atI_1, atI_2, atI_3, List.length_map, st_enter, st_add, st_putT, st_len, bw_int, bw_bl, bw_non, bw_str, bw_tup, bws_nil, bws_cons, Enc.flat, flats, Bool.and_true, Bool.and_self, isT_tup, sub_TT, List.any_cons, List.any_nil, Bool.or_false, Bool.not_true, Bool.not_false, if_true, if_false, Bool.false_eq_true, decide_true, decide_false, $xs,*])
def k10T0 (i_Lbegun i_Llayout i_Lof i_Llinks i_Ldraw i_Lleast i_Lfits i_signs i_is_short i_is_sound : Nat) : T := (.asg (.ite (.cmp .ne (.var 6) (.lst .nil)) (.comp (.range1 (.cons (.call i_Ldraw (.cons (.var 4) (.cons (.lit (.int 5)) .nil))) .nil)) [15] (.name 15) (.lit (.bl true)) (.call i_Lof (.cons (.var 4) (.cons (.var 6) .nil)))) (.lst .nil)) (.name 9))
def k10T1 (i_Lbegun i_Llayout i_Lof i_Llinks i_Ldraw i_Lleast i_Lfits i_signs i_is_short i_is_sound : Nat) : T := (.asg (.call i_Lleast (.cons (.var 5) (.cons (.var 9) .nil))) (.name 8))
def k10T2 (i_Lbegun i_Llayout i_Lof i_Llinks i_Ldraw i_Lleast i_Lfits i_signs i_is_short i_is_sound : Nat) : T := (.ite (.cmp .ne (.cmp .isNot (.var 8) (.lit .non)) (.call i_Lfits (.cons (.var 5) (.cons (.var 9) .nil)))) (.cons (.ret (.lit (.bl false))) .nil) .nil)
def k10T3 (i_Lbegun i_Llayout i_Lof i_Llinks i_Ldraw i_Lleast i_Lfits i_signs i_is_short i_is_sound : Nat) : T := (.asg (.bi .repr (.cons (.lst (.cons (.var 5) (.cons (.var 9) .nil))) .nil)) (.name 10))
def k10T4 (i_Lbegun i_Llayout i_Lof i_Llinks i_Ldraw i_Lleast i_Lfits i_signs i_is_short i_is_sound : Nat) : T := (.ite (.cmp .ne (.bi .repr (.cons (.lst (.cons (.call i_signs (.cons (.var 5) (.cons (.var 9) .nil))) (.cons (.call i_signs (.cons (.var 5) (.cons (.bi .tuple (.cons (.var 9) .nil)) .nil))) .nil))) .nil)) (.bi .repr (.cons (.lst (.cons (.var 8) (.cons (.var 8) .nil))) .nil))) (.cons (.ret (.lit (.bl false))) .nil) .nil)
def k10T5 (i_Lbegun i_Llayout i_Lof i_Llinks i_Ldraw i_Lleast i_Lfits i_signs i_is_short i_is_sound : Nat) : T := (.ite (.cmp .ne (.bi .repr (.cons (.lst (.cons (.call i_is_short (.cons (.var 5) (.cons (.bi .tuple (.cons (.bin .add (.var 9) (.var 9)) .nil)) .nil))) (.cons (.call i_is_short (.cons (.var 5) (.cons (.var 9) .nil))) .nil))) .nil)) (.bi .repr (.cons (.bin .mul (.lst (.cons (.cmp .is (.var 8) (.lit .non)) .nil)) (.lit (.int 2))) .nil))) (.cons (.ret (.lit (.bl false))) .nil) .nil)
def k10T6 (i_Lbegun i_Llayout i_Lof i_Llinks i_Ldraw i_Lleast i_Lfits i_signs i_is_short i_is_sound : Nat) : T := (.ite (.cmp .ne (.bi .repr (.cons (.lst (.cons (.var 5) (.cons (.var 9) .nil))) .nil)) (.var 10)) (.cons (.ret (.lit (.bl false))) .nil) .nil)
def k10Turn (i_Lbegun i_Llayout i_Lof i_Llinks i_Ldraw i_Lleast i_Lfits i_signs i_is_short i_is_sound : Nat) : Ts := (.cons (k10T0 i_Lbegun i_Llayout i_Lof i_Llinks i_Ldraw i_Lleast i_Lfits i_signs i_is_short i_is_sound) (.cons (k10T1 i_Lbegun i_Llayout i_Lof i_Llinks i_Ldraw i_Lleast i_Lfits i_signs i_is_short i_is_sound) (.cons (k10T2 i_Lbegun i_Llayout i_Lof i_Llinks i_Ldraw i_Lleast i_Lfits i_signs i_is_short i_is_sound) (.cons (k10T3 i_Lbegun i_Llayout i_Lof i_Llinks i_Ldraw i_Lleast i_Lfits i_signs i_is_short i_is_sound) (.cons (k10T4 i_Lbegun i_Llayout i_Lof i_Llinks i_Ldraw i_Lleast i_Lfits i_signs i_is_short i_is_sound) (.cons (k10T5 i_Lbegun i_Llayout i_Lof i_Llinks i_Ldraw i_Lleast i_Lfits i_signs i_is_short i_is_sound) (.cons (k10T6 i_Lbegun i_Llayout i_Lof i_Llinks i_Ldraw i_Lleast i_Lfits i_signs i_is_short i_is_sound) .nil)))))))
def k10Main (i_Lbegun i_Llayout i_Lof i_Llinks i_Ldraw i_Lleast i_Lfits i_signs i_is_short i_is_sound : Nat) : Ts := (.cons (.asg (.call i_Lbegun (.cons (.var 0) (.cons (.var 1) .nil))) (.name 4)) (.cons (.asg (.call i_Llayout (.cons (.var 4) (.cons (.lit (.int 6)) (.cons (.call i_Lof (.cons (.var 4) (.cons (.lst (.cons (.lit (.int 0)) (.cons (.lit (.int 2)) (.cons (.lit (.int 3)) .nil)))) .nil))) (.cons (.call i_Lof (.cons (.var 4) (.cons (.lst (.cons (.lit (.int 0)) (.cons (.lit (.int 1)) (.cons (.lit (.int 3)) .nil)))) .nil))) .nil))))) (.name 5)) (.cons (.asg (.comp (.e (.call i_Llinks (.cons (.var 5) .nil))) [11, 12, 13, 14] (.tup 4 (.cons (.name 11) (.cons (.name 12) (.cons (.name 13) (.cons (.name 14) .nil))))) (.lit (.bl true)) (.var 11)) (.name 6)) (.cons (.fo (.range1 (.cons (.lit (.int 4)) .nil)) (.name 7) (k10Turn i_Lbegun i_Llayout i_Lof i_Llinks i_Ldraw i_Lleast i_Lfits i_signs i_is_short i_is_sound)) (.cons (.asg (.call i_Lleast (.cons (.var 5) (.cons (.tup .nil) .nil))) (.name 8)) (.cons (.ite (.cmp .ne (.bi .repr (.cons (.lst (.cons (.call i_is_sound (.cons (.var 5) .nil)) (.cons (.call i_is_sound (.cons (.var 5) .nil)) .nil))) .nil)) (.bi .repr (.cons (.bin .mul (.lst (.cons (.cmp .isNot (.var 8) (.lit .non)) .nil)) (.lit (.int 2))) .nil))) (.cons (.ret (.lit (.bl false))) .nil) .nil) .nil))))))
def k10B (i_Lbegun i_Llayout i_Lof i_Llinks i_Ldraw i_Lleast i_Lfits i_signs i_is_short i_is_sound : Nat) : Ts := (.cons (.fo (.range1 (.cons (.bin .add (.lit (.int 1)) (.bi .min (.cons (.bi .len (.cons (.var 0) .nil)) (.cons (.lit (.int 7)) .nil)))) .nil)) (.name 1) (k10Main i_Lbegun i_Llayout i_Lof i_Llinks i_Ldraw i_Lleast i_Lfits i_signs i_is_short i_is_sound)) (.cons (.asg (.tup (.cons (.tup (.cons (.lit (.int 4)) (.cons (.lit (.int 9)) .nil))) (.cons (.tup (.cons (.tup (.cons (.tup (.cons (.lit (.int 0)) (.cons (.lit (.int 1)) .nil))) (.cons (.tup (.cons (.tup (.cons (.tup (.cons (.lit (.int 1)) (.cons (.lit (.int 0)) .nil))) (.cons (.lit (.int 0)) .nil))) (.cons (.tup (.cons (.tup (.cons (.lit (.int 1)) (.cons (.lit (.int 1)) .nil))) (.cons (.lit (.int 1)) .nil))) .nil))) .nil))) .nil)) (.cons (.tup (.cons (.tup (.cons (.lit (.int 1)) (.cons (.lit (.int 1)) .nil))) .nil)) .nil)))) (.name 2)) (.cons (.asg (.lst (.cons (.call i_signs (.cons (.var 2) (.cons (.lst .nil) .nil))) (.cons (.call i_is_short (.cons (.var 2) (.cons (.lst (.cons (.tup (.cons (.lit (.int 0)) (.cons (.lit (.int 1)) .nil))) .nil)) .nil))) (.cons (.call i_signs (.cons (.tup (.cons (.tup (.cons (.lit (.int 2)) .nil)) (.cons (.tup (.cons (.tup (.cons (.tup (.cons (.lit (.int 0)) (.cons (.lit (.int 0)) .nil))) (.cons (.tup (.cons (.tup (.cons (.tup (.cons (.lit (.int 0)) (.cons (.lit (.int 1)) .nil))) (.cons (.lit (.int 0)) .nil))) .nil)) .nil))) .nil)) (.cons (.tup .nil) .nil)))) (.cons (.tup .nil) .nil))) .nil)))) (.name 3)) (.cons (.ret (.cmp .eq (.var 3) (.lst (.cons (.tup (.cons (.lit (.int 1)) (.cons (.lit (.int 1)) .nil))) (.cons (.lit (.bl true)) (.cons (.tup (.cons (.lit (.int 0)) .nil)) .nil)))))) .nil))))
def SpBegun (f : Fn) : Prop := ∀ (S : Sto) (n : Nat) (ns : List Int) (j : Nat), S.dirty = false → S.objs[n]? = some (.frz (ns.map D.int)) → ns.length ≤ 63 → j ≤ 100 →
  (f [.ref n, .int (j : Nat)] S).To fun d S' => ∃ r c, d = .ref r ∧ Kp [] S S' ∧ DrawS S' r c 0 ∧ S.len ≤ r
theorem spBegun (F : Nat → Fn) : SpBegun (liftF (fnSem 6 2 (svs F begunB))) := fun S n ns j h1 h2 h3 h4 => by
  rw [lift_ref rfl]
  obtain ⟨B, bs, t⟩ := S
  obtain rfl : t = false := h1
  refine (begun_spec (F := F) (bs := bs) h2 h3 h4).mono fun d S' ⟨L, r, c, st, e1, e2, e3, e4, e5, e6⟩ => ⟨r, c, e1, ?_, ⟨st, e3, by omega⟩, e5⟩
  subst e2
  exact ⟨by simp [Sto.len], fun i hi _ => List.getElem?_append_left hi, rfl, rfl⟩
/-! ### small helps -/
theorem p_mulL {S : Sto} {n : Nat} {j : Int} {Q : D → Sto → Prop} : (mulD2 (.ref n) (.int j) S).To Q = op S.objs[n]? fun o => op (lstO o) fun xs => (decide (0 ≤ j) && decide (j ≤ 1000) && fits (xs.length * j.toNat)) = true ∧ Q (.ref S.len) (S.add (.lst (repL xs j.toNat))) := by
  simp only [mulD2]
  cases S.objs[n]? with
  | none => rfl
  | some o =>
    cases o with
    | lst xs => simp only [op, lstO, newL]; cases decide (0 ≤ j) && decide (j ≤ 1000) && fits (xs.length * j.toNat) <;> simp [to_ok, to_bad]
    | _ => rfl

theorem q_bool {S : Sto} {a b : Bool} : eqv? S (.bl a) (.bl b) = some (decide (a = b)) := by cases a <;> cases b <;> rfl
theorem seq_at {S : Sto} {n : Nat} {o : O} {xs : List D} (h : S.objs[n]? = some o) (ho : seqO o = some xs) : seqOf S (.ref n) = some xs := by rw [seqOf_ref, list_at h, ho]
theorem live_congr (y : Lay) {l l' : List Link} (h : ∀ k, k ∈ l ↔ k ∈ l') : y.live l = y.live l' := by
  unfold Lay.live
  congr 1
  funext r
  simp only [h r.1]
theorem least_congr (y : Lay) {l l' : List Link} (h : ∀ k, k ∈ l ↔ k ∈ l') : leastSigns y l = leastSigns y l' := by
  unfold leastSigns
  congr 1
  funext row
  unfold fitRow
  rw [live_congr y h]
def pdO : Option (List Int) → PyData
  | none => .none
  | some r => Enc.pd r
theorem optD_res (o : Option (List Int)) (r : Nat → Option PyData) : resW r (optD o) = some (pdO o) := by
  cases o with
  | none => simp only [optD, resW, pdO]
  | some a => exact Enc.res r a
theorem least_mem {y : Lay} {l : List Link} {r : List Int} (h : leastSigns y l = some r) : r ∈ allSigns y.lens.length := List.mem_of_find?_eq_some h
theorem pdO_ok {y : Lay} (hy : y.Ok) {l : List Link} : okP (pdO (leastSigns y l)) = true ∧ nodes (pdO (leastSigns y l)) ≤ 20 ∧ (pdO (leastSigns y l)).depth ≤ 20 := by
  cases e : leastSigns y l with
  | none => simp [pdO, okP, nodes, PyData.depth]
  | some r =>
    have hm := least_mem e
    have hl := allSigns_len hm
    have := hy.n10
    refine ⟨okP_list fun i hi => okP_int (bit_ok (allSigns_bit hm i hi)), ?_, Nat.le_trans (Enc.depth r) (by decide)⟩
    have : nodes (Enc.pd r) ≤ 1 + r.length * 1 := nodes_list fun i _ => by rw [nodes_int]; omega
    simp only [pdO]
    omega
/-- the defs of the law -/
structure K10F (F : Nat → Fn) (iB iY iO iL iD iE iF iS iH iN : Nat) : Prop where
  begun : SpBegun (F iB)
  layout : SpLayout (F iY)
  one : SpOf (F iO)
  links : SpLlinks (F iL)
  draw : SpDraw (F iD)
  least : SpLeast (F iE)
  fits : SpFits (F iF)
  signs : SpSigns (F iS)
  short : SpShort (F iH)
  sound : SpSound (F iN)
theorem links_le {y : Lay} (hy : y.Ok) : y.links.length ≤ 30 := by rw [Lay.links, List.length_map]; exact rows_len hy
section
variable {F : Nat → Fn} {iB iY iO iL iD iE iF iS iH iN : Nat} (K : K10F F iB iY iO iL iD iE iF iS iH iN) {S : Sto} {y : Lay} {l : List Link} {nm nsp r c : Nat} {sp : Int} {k : Ks} {d0 d1 d2 d3 d4 d5 d6 d7 d8 d9 d10 d11 d12 d13 d14 d15 : Option D}
include K
theorem k10_t0 (hy : y.Ok) (hd : DrawS S r c sp) (hs : sp < 2 ^ 50) (hc : S.dirty = false) (hn : S.objs[nm]? = some (.lst (y.links.map enc)))
    (nx : ∀ (l : List Link) (S' : Sto) (nsp : Nat), (∀ q ∈ l, q ∈ y.links) → l.length ≤ 4 → Kp [r] S S' → DrawS S' r c (sp + 5) → S'.objs[nsp]? = some (.lst (l.map enc)) → k.nx [d0, d1, d2, d3, some (.ref r), d5, some (.ref nm), d7, d8, some (.ref nsp), d10, d11, d12, d13, d14, d15] S') :
    (sv F (k10T0 iB iY iO iL iD iE iF iS iH iN) [d0, d1, d2, d3, some (.ref r), d5, some (.ref nm), d7, d8, d9, d10, d11, d12, d13, d14, d15] S).To k := by
  have hl := links_le hy
  simp only [k10T0]
  try simp_arith [Nat.reduceAdd]
  refine ⟨rfl, ?_⟩
  have q := q_list (α := Link) (S := S.add (.lst [])) (l := y.links) (l' := []) (add_at hn) rfl add_new rfl (by decide)
  simp_arith [q]
  by_cases he : y.links = []
  · have hd0 : decide (y.links = []) = true := decide_eq_true he
    simp_arith [hd0]
    exact ⟨rfl, nx [] _ _ (by simp) (by simp) ((Kp.refl hc).addN.addN) ((hd.addN.addN).mono (by omega)) (by rw [add_new]; rfl)⟩
  · have hd0 : decide (y.links = []) = false := decide_eq_false he
    simp_arith [hd0]
    refine (K.draw (S.add (.lst [])) r c sp 5 hc hd.addN (by omega) (by omega) (by omega)).mono fun d S1 ⟨v, q1, q2, q3, q4, q5, q6⟩ => ?_
    subst q1
    have hR : okR v = true := by simp only [okR, Bool.and_eq_true, decide_eq_true_eq]; omega
    simp_arith [hR]
    have hnr := hd.ne hn
    have n1 := q5.at (add_at (o' := .lst []) hn) (by simpa using hnr)
    have k1 : Kp [r] S S1 := (Kp.refl hc).addN.trans q5
    have hlen1 := k1.len
    have hrl := hd.lr
    have hcl := hd.lc
    have hml := lt_of_at hn
    obtain ⟨I, hI⟩ : ∃ I : List Nat → List D → Sto → Prop, ∀ done acc S', I done acc S' ↔ ∃ l : List Link, acc = l.map enc ∧ l.length = done.length ∧ (∀ q ∈ l, q ∈ y.links) ∧ S'.objs[S1.len]? = some (.lst acc) ∧ S'.objs[nm]? = some (.lst (y.links.map enc)) ∧ Kp [r] S S' ∧ DrawS S' r c (sp + 1 + done.length) := ⟨_, fun _ _ _ => Iff.rfl⟩
    refine comp_to (l := List.range v.toNat) (enc := fun i => D.int (0 + (i : Nat))) I ?a1 ?a2 ?a3 ?a4 ?a5
    case a1 => exact (hI _ _ _).mpr ⟨[], rfl, rfl, by simp, add_new, add_at n1, k1.addN, by simpa using q6.addN⟩
    case a2 => simp
    case a3 => intro done rest acc S' e _; exact fix_next (by simpa using fix_range (lo := 0) (n := v.toNat)) e
    case a4 =>
      intro done i rest acc S' e h
      obtain ⟨l, a1, a2, a3, a4, a5, a6, a7⟩ := (hI _ _ _).mp h
      have hdl : done.length ≤ 4 := by have := congrArg List.length e; simp at this; omega
      try simp_arith [Nat.reduceAdd]
      refine (K.one S' r c nm _ _ a6.cl a7 (by omega) a5 (by simpa using he) (by simp; omega) (fun d hd => by obtain ⟨q, _, rfl⟩ := List.mem_map.mp hd; exact Enc.flat _ _)).mono fun d S2 ⟨w1, w2, w3, w4⟩ => ?_
      obtain ⟨q, hq, rfl⟩ := List.mem_map.mp w1
      have hn1 : S1.len ≠ r := by omega
      have hn2 : S1.len ≠ c := by omega
      have hn3 : S1.len ≠ nm := by omega
      have b4 := w3.at a4 (by simpa using hn1)
      have b5 := w3.at a5 (by simpa using hnr)
      simp_arith [b4]
      refine ⟨by rw [a1, List.length_map]; exact Nat.ble_eq_true_of_le (by omega), (hI _ _ _).mpr ⟨l ++ [q], by simp [a1], by simp [a2], fun z hz => ?_, put_at b4, (put_ne hn3).trans b5, (a6.trans w3).putN (.inr (by omega)) w3.cl, (w4.putN hn1 hn2).mono (by simp; omega)⟩⟩
      rcases List.mem_append.mp hz with hz | hz
      · exact a3 z hz
      · simp only [List.mem_singleton] at hz; rw [hz]; exact hq
    case a5 =>
      intro acc S' h
      obtain ⟨l, a1, a2, a3, a4, a5, a6, a7⟩ := (hI _ _ _).mp h
      rw [List.length_range] at a2 a7
      subst a1
      exact nx l S' _ a3 (by omega) a6 (a7.mono (by omega)) a4
/-- the other statements of a turn leave all that stood -/
theorem k10_rest (hy : y.Ok) (hc : S.dirty = false) (hl : ∀ q ∈ l, q ∈ y.links) (hl4 : l.length ≤ 4) (hn : S.objs[nsp]? = some (.lst (l.map enc)))
    (nx : ∀ S' e8 e10, Kp [] S S' → k.nx [d0, d1, d2, d3, d4, some y.d, d6, d7, e8, some (.ref nsp), e10, d11, d12, d13, d14, d15] S') :
    (svs F (.cons (k10T1 iB iY iO iL iD iE iF iS iH iN) (.cons (k10T2 iB iY iO iL iD iE iF iS iH iN) (.cons (k10T3 iB iY iO iL iD iE iF iS iH iN) (.cons (k10T4 iB iY iO iL iD iE iF iS iH iN) (.cons (k10T5 iB iY iO iL iD iE iF iS iH iN) (.cons (k10T6 iB iY iO iL iD iE iF iS iH iN) .nil)))))) [d0, d1, d2, d3, d4, some y.d, d6, d7, d8, some (.ref nsp), d10, d11, d12, d13, d14, d15] S).To k := by
  have sq : ∀ S', S'.objs[nsp]? = some (.lst (l.map enc)) → seqOf S' (.ref nsp) = some (l.map enc) := fun S' h => seq_at h rfl
  have e1 := K.least S y (.ref nsp) l hc hy (sq S hn)
  have e2 := K.fits S y (.ref nsp) l hc hy (sq S hn)
  have e3 : ∀ S', S'.dirty = false → S'.objs[nsp]? = some (.lst (l.map enc)) → F iS [y.d, .ref nsp] S' = .ok (optD (leastSigns y l)) S' := fun S' h1 h2 => K.signs S' y _ l h1 hy (sq S' h2) hl (by omega)
  have e4 : ∀ S', S'.dirty = false → F iS [y.d, .tup (l.map enc)] S' = .ok (optD (leastSigns y l)) S' := fun S' h1 => K.signs S' y _ l h1 hy rfl hl (by omega)
  have e5 : ∀ S', S'.dirty = false → S'.objs[nsp]? = some (.lst (l.map enc)) → F iH [y.d, .ref nsp] S' = .ok (.bl (leastSigns y l).isNone) S' := fun S' h1 h2 => K.short S' y _ l h1 hy (sq S' h2) hl (by omega)
  have e6 : ∀ S', S'.dirty = false → F iH [y.d, .tup ((l ++ l).map enc)] S' = .ok (.bl (leastSigns y l).isNone) S' := fun S' h1 => by
    rw [K.short S' y _ (l ++ l) h1 hy rfl (by simpa using hl) (by simp; omega), least_congr y (l := l ++ l) (l' := l) (by simp)]
  have po := pdO_ok hy (l := l)
  have lo := lay_okp hy
  have ln := lay_nds hy
  have ld := y.depth
  have slo : okP (.list (l.map Enc.pd)) = true := by
    simp only [okP]
    refine okPs_map fun q hq => ?_
    obtain ⟨rr, hr, rfl⟩ := link_row (hl q hq)
    obtain ⟨i, kk, j, b, h1, h2, rfl⟩ := mem_rows.mp hr
    have hi := (List.getElem?_eq_some_iff.mp h1).1
    have hk := (List.getElem?_eq_some_iff.mp h2).1
    have := hy.jn
    have := (hy.b1 j (List.mem_of_getElem? h1)).2
    exact okP_pair (okP_int (show okI (i : Int) from ⟨by omega, by omega⟩)) (okP_int (show okI (kk : Int) from ⟨by omega, by omega⟩))
  have sln : nodes (.list (l.map Enc.pd)) ≤ 20 := by
    have : nodesL (l.map Enc.pd) ≤ l.length * 3 := nodesL_map fun q _ => by rw [nodes_pair, nodes_int, nodes_int]; omega
    simp only [nodes]
    omega
  have sld : (PyData.list (l.map Enc.pd)).depth ≤ 20 := by
    have := pds_depth l
    have e : Enc.dep Link ≤ 10 := by decide
    simp only [PyData.depth]
    omega
  -- what [track, span] shows
  have shTS : ∀ (S' : Sto) (n : Nat) (Q : D → Sto → Prop), S'.objs[n]? = some (.lst [y.d, .ref nsp]) → S'.objs[nsp]? = some (.lst (l.map enc)) → (reprN [.ref n] S').To Q = Q (.str (PyData.list [y.pd, .list (l.map Enc.pd)]).shown) S' := fun S' n Q g1 g2 => by
    refine p_repr (res_two g1 (y.res _) ?_) ?_ ?_ ?_
    · simp only [resW]; exact resR_list g2 rfl
    · simp only [okP, okPs] at slo ⊢; simp only [lo, slo, Bool.and_self]
    · simp only [nodes, nodesL] at sln ⊢; omega
    · simp only [PyData.depth, PyData.depthAll] at sld ⊢; omega
  have shOO : ∀ (S' : Sto) (n : Nat) (Q : D → Sto → Prop), S'.objs[n]? = some (.lst [optD (leastSigns y l), optD (leastSigns y l)]) → (reprN [.ref n] S').To Q = Q (.str (PyData.list [pdO (leastSigns y l), pdO (leastSigns y l)]).shown) S' := fun S' n Q g1 => by
    refine p_repr (res_two g1 (optD_res _ _) (optD_res _ _)) ?_ ?_ ?_
    · simp only [okP, okPs, po.1, Bool.and_self]
    · simp only [nodes, nodesL]; omega
    · simp only [PyData.depth, PyData.depthAll]; omega
  have shBB : ∀ (S' : Sto) (n : Nat) (b : Bool) (Q : D → Sto → Prop), S'.objs[n]? = some (.lst [.bl b, .bl b]) → (reprN [.ref n] S').To Q = Q (.str (PyData.list [.bool b, .bool b]).shown) S' := fun S' n b Q g1 => by
    refine p_repr (res_two g1 (by simp only [resW]) (by simp only [resW])) ?_ ?_ ?_
    · simp only [okP, okPs, Bool.and_self]
    · simp only [nodes, nodesL]; omega
    · simp only [PyData.depth, PyData.depthAll]; omega
  simp only [k10T1, k10T2, k10T3, k10T4, k10T5, k10T6]
  simp_arith [e1, ↓optD_isNot, e2, q_bool]
  refine ⟨rfl, ?_⟩
  have n1 := add_at (o' := .lst [y.d, .ref nsp]) hn
  rw [shTS _ _ _ add_new n1]
  generalize hS1 : S.add (.lst [y.d, .ref nsp]) = S1 at n1
  have c1 : S1.dirty = false := hS1 ▸ hc
  simp_arith [e3 S1 c1 n1]
  simp_arith [n1, e4 S1 c1]
  refine ⟨rfl, ?_⟩
  rw [shOO _ _ _ add_new]
  have n2 := add_at (o' := .lst [optD (leastSigns y l), optD (leastSigns y l)]) n1
  have k1 : Kp [] S S1 := hS1 ▸ (Kp.refl hc).addN
  have k2 := k1.addN (o := .lst [optD (leastSigns y l), optD (leastSigns y l)])
  generalize S1.add (.lst [optD (leastSigns y l), optD (leastSigns y l)]) = S2 at n2 k2
  refine ⟨rfl, ?_⟩
  rw [shOO _ _ _ add_new]
  have n3 := add_at (o' := .lst [optD (leastSigns y l), optD (leastSigns y l)]) n2
  have k3 := k2.addN (o := .lst [optD (leastSigns y l), optD (leastSigns y l)])
  generalize S2.add (.lst [optD (leastSigns y l), optD (leastSigns y l)]) = S3 at n3 k3
  simp_arith [q_str, n3, add_new]
  refine ⟨Nat.ble_eq_true_of_le (by omega), ?_⟩
  have n4 := add_at (o' := .lst (l.map enc ++ l.map enc)) n3
  have k4 := k3.addN (o := .lst (l.map enc ++ l.map enc))
  generalize S3.add (.lst (l.map enc ++ l.map enc)) = S4 at n4 k4
  have e6' := e6 S4 k4.cl
  rw [List.map_append] at e6'
  simp_arith [e6', e5 S4 k4.cl n4]
  refine ⟨rfl, ?_⟩
  rw [shBB _ _ _ _ add_new]
  have n5 := add_at (o' := .lst [.bl (leastSigns y l).isNone, .bl (leastSigns y l).isNone]) n4
  have k5 := k4.addN (o := .lst [.bl (leastSigns y l).isNone, .bl (leastSigns y l).isNone])
  generalize S4.add (.lst [.bl (leastSigns y l).isNone, .bl (leastSigns y l).isNone]) = S5 at n5 k5
  simp_arith [↓optD_is, ↓p_mulL, add_new]
  refine ⟨rfl, rfl, ?_⟩
  have n6 := add_at (o' := .lst [.bl (leastSigns y l).isNone]) n5
  have k6 := k5.addN (o := .lst [.bl (leastSigns y l).isNone])
  generalize S5.add (.lst [.bl (leastSigns y l).isNone]) = S6 at n6 k6
  rw [show repL [D.bl (leastSigns y l).isNone] (Int.toNat 2) = [.bl (leastSigns y l).isNone, .bl (leastSigns y l).isNone] from rfl, shBB _ _ (leastSigns y l).isNone _ add_new]
  have n7 := add_at (o' := .lst [.bl (leastSigns y l).isNone, .bl (leastSigns y l).isNone]) n6
  have k7 := k6.addN (o := .lst [.bl (leastSigns y l).isNone, .bl (leastSigns y l).isNone])
  generalize S6.add (.lst [.bl (leastSigns y l).isNone, .bl (leastSigns y l).isNone]) = S7 at n7 k7
  simp_arith [q_str]
  refine ⟨rfl, ?_⟩
  rw [shTS _ _ _ add_new (add_at n7)]
  simp_arith [q_str]
  exact nx _ _ _ k7.addN
/-- one turn of the law -/
theorem k10_main {n0 : Nat} {ns : List Int} {j : Nat} (hj : j ≤ 100) (hl63 : ns.length ≤ 63) (hc : S.dirty = false) (hb : S.bs = []) (h0 : S.objs[n0]? = some (.frz (ns.map D.int)))
    (nx : ∀ S' e4 e5 e6 e7 e8 e9 e10 e11 e12 e13 e14 e15, Kp [] S S' → k.nx [some (.ref n0), some (.int (j : Nat)), d2, d3, e4, e5, e6, e7, e8, e9, e10, e11, e12, e13, e14, e15] S') :
    (svs F (k10Main iB iY iO iL iD iE iF iS iH iN) [some (.ref n0), some (.int (j : Nat)), d2, d3, d4, d5, d6, d7, d8, d9, d10, d11, d12, d13, d14, d15] S).To k := by
  simp only [k10Main]
  try simp_arith [Nat.reduceAdd]
  refine (K.begun S n0 ns j hc h0 hl63 hj).mono fun d S1 ⟨r, c, q1, k1, dr1, hrS⟩ => ?_
  subst q1
  try simp_arith [Nat.reduceAdd]
  refine ⟨rfl, ?_⟩
  refine (K.one (S1.add (.lst [.int 0, .int 2, .int 3])) r c S1.len 0 _ k1.cl dr1.addN (by decide) add_new (by simp) (by simp) (by simp [bw_int])).mono fun d S2 ⟨w1, w2, w3, w4⟩ => ?_
  have : ∃ w : Int, d = .int w ∧ 0 ≤ w ∧ w ≤ 3 := by
    simp only [List.mem_cons, List.not_mem_nil, or_false] at w1
    rcases w1 with rfl | rfl | rfl
    · exact ⟨_, rfl, by decide, by decide⟩
    · exact ⟨_, rfl, by decide, by decide⟩
    · exact ⟨_, rfl, by decide, by decide⟩
  obtain ⟨cu, rfl, cu1, cu2⟩ := this
  try simp_arith [Nat.reduceAdd]
  refine ⟨rfl, ?_⟩
  refine (K.one (S2.add (.lst [.int 0, .int 1, .int 3])) r c S2.len _ _ w3.cl w4.addN (by decide) add_new (by simp) (by simp) (by simp [bw_int])).mono fun d S3 ⟨v1, v2, v3, v4⟩ => ?_
  have : ∃ w : Int, d = .int w ∧ 0 ≤ w ∧ w ≤ 3 := by
    simp only [List.mem_cons, List.not_mem_nil, or_false] at v1
    rcases v1 with rfl | rfl | rfl
    · exact ⟨_, rfl, by decide, by decide⟩
    · exact ⟨_, rfl, by decide, by decide⟩
    · exact ⟨_, rfl, by decide, by decide⟩
  obtain ⟨fe, rfl, fe1, fe2⟩ := this
  try simp_arith [Nat.reduceAdd]
  refine (K.layout S3 r c _ 6 cu fe v3.cl v4 (by decide) (by decide) (by decide) cu1 (by omega) fe1 (by omega)).mono fun d S4 ⟨y, y1, hy, y3, y4, y5, dr4⟩ => ?_
  subst y1
  have own : ∀ i ∈ [r], i ∈ ([] : List Nat) ∨ S.len ≤ i := fun i hi => .inr (by simp only [List.mem_singleton] at hi; omega)
  have k4 : Kp [] S S4 := ((k1.addN.own w3 own).addN.own v3 own).own y5 own
  clear y5 v3 w3
  have el := K.links S4 y hy
  simp_arith [el, add_new]
  obtain ⟨B, bs, t⟩ := S4
  obtain rfl : t = false := k4.cl
  obtain rfl : bs = [] := k4.bs.trans hb
  refine comp_pure' (α := Rw) (enc := rowD) (B := B ++ [.lst (y.rows.map rowD)]) (bs := []) (l := y.rows) (fun _ => true) (fun r => enc r.1) (of_live (o := .lst (y.rows.map rowD)) get_app0 rfl) (by simp [Sto.add]) (by simp [Sto.len, Sto.add]) (by simp) (by have := rows_len hy; omega) (by simp) (fun q hq acc => ?_) ?_
  · simp only [rowD]
    try simp_arith [Nat.reduceAdd]
    exact fun _ => trivial
  · rw [filt_true]
    have elk : (y.rows.map fun r => enc r.1) = y.links.map enc := by rw [Lay.links, List.map_map]; rfl
    rw [elk]
    have k5 : Kp [] S ⟨B ++ [.lst (y.rows.map rowD)] ++ [.lst (y.links.map enc)], [], false⟩ := k4.addN.addN
    have dr5 : DrawS ⟨B ++ [.lst (y.rows.map rowD)] ++ [.lst (y.links.map enc)], [], false⟩ r c (0 + 1 + 1 + 1000) := dr4.addN.addN
    have nm5 : (⟨B ++ [.lst (y.rows.map rowD)] ++ [.lst (y.links.map enc)], [], false⟩ : Sto).objs[(B ++ [O.lst (y.rows.map rowD)]).length]? = some (.lst (y.links.map enc)) := by simp
    have hnm : S.len ≤ (B ++ [O.lst (y.rows.map rowD)]).length := k4.addN.len
    generalize (⟨B ++ [.lst (y.rows.map rowD)] ++ [.lst (y.links.map enc)], [], false⟩ : Sto) = S5 at k5 dr5 nm5
    generalize (B ++ [O.lst (y.rows.map rowD)]).length = nm at nm5 hnm
    simp_arith [show okR 4 = true by decide]
    obtain ⟨I, hI⟩ : ∃ I : List Nat → En → Sto → Prop, ∀ done ρ S', I done ρ S' ↔ ∃ e7 e8 e9 e10 e11 e12 e13 e14 e15 : Option D, ρ = [some (.ref n0), some (.int (j : Nat)), d2, d3, some (.ref r), some y.d, some (.ref nm), e7, e8, e9, e10, e11, e12, e13, e14, e15] ∧ Kp [] S S' ∧ DrawS S' r c (1002 + 5 * done.length) ∧ S'.objs[nm]? = some (.lst (y.links.map enc)) := ⟨_, fun _ _ _ => Iff.rfl⟩
    rw [show Int.toNat 4 = 4 from rfl]
    refine for_fix (l := List.range 4) (enc := fun i => D.int (0 + (i : Nat))) ?a1 ?a2 I ?a3 ?a4 ?a5
    case a1 => simpa using fix_range (lo := 0) (n := 4)
    case a2 => simp
    case a3 => exact (hI _ _ _).mpr ⟨_, _, _, _, _, _, _, _, _, rfl, k5, dr5.mono (by simp), nm5⟩
    case a4 =>
      intro done i rest ρ S6 e h
      obtain ⟨e7, e8, e9, e10, e11, e12, e13, e14, e15, hρ, b1, b2, b3⟩ := (hI _ _ _).mp h
      subst hρ
      obtain ⟨hi, hil⟩ := range_split e
      try simp_arith [Nat.reduceAdd]
      simp only [k10Turn]
      rw [s_cons]
      have hnr := b2.ne b3
      refine k10_t0 K hy b2 (by omega) b1.cl b3 fun l S7 nsp g1 g2 g3 g4 g5 => ?_
      refine k10_rest K hy g3.cl g1 g2 g5 fun S8 f8 f10 f1 => ?_
      refine (hI _ _ _).mpr ⟨_, _, _, _, _, _, _, _, _, rfl, ?_, ?_, ?_⟩
      · exact (b1.own g3 own).trans f1
      · exact (g4.keep f1 (by simp) (by simp)).mono (by simp; omega)
      · exact f1.at (g3.at b3 (by simpa using hnr)) (by simp)
    case a5 =>
      intro ρ S6 h
      obtain ⟨e7, e8, e9, e10, e11, e12, e13, e14, e15, hρ, b1, b2, b3⟩ := (hI _ _ _).mp h
      subst hρ
      have e1 := K.least S6 y (.tup []) [] b1.cl hy rfl
      have e2 := fun S => K.sound S y hy
      have shBB : ∀ (S' : Sto) (n : Nat) (b : Bool) (Q : D → Sto → Prop), S'.objs[n]? = some (.lst [.bl b, .bl b]) → (reprN [.ref n] S').To Q = Q (.str (PyData.list [.bool b, .bool b]).shown) S' := fun S' n b Q g1 => by
        refine p_repr (res_two g1 (by simp only [resW]) (by simp only [resW])) ?_ ?_ ?_
        · simp only [okP, okPs, Bool.and_self]
        · simp only [nodes, nodesL]; omega
        · simp only [PyData.depth, PyData.depthAll]; omega
      simp_arith [e1, e2]
      refine ⟨rfl, rfl, ?_⟩
      rw [shBB _ _ _ _ add_new]
      have k7 := b1.addN (o := .lst [.bl (leastSigns y []).isSome, .bl (leastSigns y []).isSome])
      generalize S6.add (.lst [.bl (leastSigns y []).isSome, .bl (leastSigns y []).isSome]) = S7 at k7
      simp_arith [↓optD_isNot, ↓p_mulL, add_new]
      refine ⟨rfl, rfl, ?_⟩
      rw [show repL [D.bl (leastSigns y []).isSome] (Int.toNat 2) = [.bl (leastSigns y []).isSome, .bl (leastSigns y []).isSome] from rfl, shBB _ _ (leastSigns y []).isSome _ add_new]
      simp_arith [q_str]
      exact nx _ _ _ _ _ _ _ _ _ _ _ _ _ k7.addN.addN
end
end Sw

/-! Q5: law k10, whole. -/
namespace Sw
open PySem L2 Enc
local macro_rules | `(tactic| simp_arith [$xs,*]) => `(tactic| simp only [↓e_lit, ↓e_var, ↓e_bin, ↓e_cmp, ↓e_chain, ↓e_neg, ↓e_not, ↓e_and, ↓e_or, ↓e_ite, ↓e_tup, ↓e_lst, ↓e_dnewT, ↓e_dnewF, ↓e_ix, ↓e_sl, ↓p_none, ↓p_some, ↓e_call, ↓e_bi, ↓e_isi, ↓e_app, ↓e_pop, ↓e_get, ↓e_rev, ↓e_lenum, ↓e_dispk, ↓op_srcR, ↓op_enumR, ↓op_zipR, turns_live, turns_enumL, turns_zipL, turns_items, turns_enumI, turns_zipI, turns_range, Option.bind_some, Option.elim_some, ↓e_comp, ↓s_wh, ↓a_nil, ↓a_cons, ↓a_star, ↓g_name, ↓g_tup, ↓gs_nil, ↓gs_cons, ↓s_nil, ↓s_cons, ↓s_expr, ↓s_ret, ↓s_asg, ↓s_aug, ↓s_put, ↓s_ite, ↓s_pass, ↓s_brk, ↓s_cont, ↓i_e, ↓i_r1, ↓i_r2, ↓i_enum, ↓i_zip, ↓s_fo, ↓look_z, ↓look_s, ↓tb_bl, ↓ti_int, ↓tr_ref, ↓tt_tup, ↓op_some, ↓to_ok, ↓st_nx, ↓st_rt, ↓st_bk, ↓st_ct, List.set_cons_zero, List.set_cons_succ, boD, coD, biN, aoD, ↓p_addI, ↓p_addT, ↓p_addL, ↓p_sub, ↓p_mul, ↓p_fdiv, ↓p_mod, ↓p_pow, ↓p_iaddI, ↓p_iaddL, ↓p_isub, ↓p_lt, ↓p_gt, ↓p_le, ↓p_ge, ↓p_eq, ↓p_ne, ↓p_in, ↓p_notIn, ↓q_int, ↓p_isNN, ↓p_isTN, ↓p_isIN, ↓p_isRN, ↓p_isntNN, ↓p_isntTN, ↓p_isntIN, ↓p_isntRN, ↓p_isBB, ↓p_isntBB, ↓p_ixT, ↓p_ixR, ↓p_slT, ↓p_slR, ↓p_lenT, ↓p_lenR, ↓p_intI, ↓p_intB, ↓p_min, ↓p_max, ↓p_bl, ↓p_sum, ↓p_tupleT, ↓p_tupleR, ↓p_listT, ↓p_listR, ↓p_app, ↓p_pop0, ↓p_popI, ↓p_get1, ↓p_revT, ↓p_revR, ↓p_isi, ↓op_dput, ↓op_list, src_tup, enum_tup, zip_tup, seqO_lst, seqO_frz, lstO_lst, lenO_lst, lenO_frz, ixO_lst, isLst_lst, seqOf_tup, decide_eq_true_eq, List.length_cons, List.length_nil, Nat.beq, true_and, Nat.reduceAdd, List.getElem?_cons_zero, List.getElem?_cons_succ, get_app0, get_app, set_app0, set_app, List.append_assoc, List.cons_append, List.nil_append, List.length_append, wipeE, ↓op_map, ↓atI_map, atI_0, atI_1, atI_2, atI_3, List.length_map, st_enter, st_add, st_putT, st_len, bw_int, bw_bl, bw_non, bw_str, bw_tup, bws_nil, bws_cons, Enc.flat, flats, Bool.and_true, Bool.and_self, isT_tup, sub_TT, List.any_cons, List.any_nil, Bool.or_false, Bool.not_true, Bool.not_false, if_true, if_false, Bool.false_eq_true, decide_true, decide_false, $xs,*])
def kA : Lay := ⟨[4, 9], [((0, 1), [((1, 0), 0), ((1, 1), 1)])], [(1, 1)]⟩
def kB : Lay := ⟨[2], [((0, 0), [((0, 1), 0)])], []⟩
theorem kA_ok : kA.Ok := by
  refine ⟨by decide, by decide, ?_, by decide, ?_, ?_, ?_, by decide, ?_, ?_⟩ <;> simp [kA, isBit, allEnds, endsOf] <;> (try (intros; omega))
theorem kB_ok : kB.Ok := by
  refine ⟨by decide, by decide, ?_, by decide, ?_, ?_, ?_, by decide, ?_, ?_⟩ <;> simp [kB, isBit, allEnds, endsOf] <;> (try (intros; omega))
theorem kA_s : leastSigns kA [] = some [1, 1] := by decide +kernel
theorem kA_h : leastSigns kA [(0, 1)] = none := by decide +kernel
theorem kB_s : leastSigns kB [] = some [0] := by decide +kernel
theorem resR_three {S : Sto} {n k : Nat} {a b c : D} {p q r : PyData} (h : S.objs[n]? = some (.lst [a, b, c])) (ha : resW (resR S k) a = some p) (hb : resW (resR S k) b = some q) (hc : resW (resR S k) c = some r) : resR S (k + 1) n = some (.list [p, q, r]) := by
  have : S.list? n = some [a, b, c] := by rw [list_at h, seqO_lst]
  simp only [resR, this, resWs, ha, hb, hc]
theorem res_three {S : Sto} {n : Nat} {a b c : D} {p q r : PyData} (h : S.objs[n]? = some (.lst [a, b, c])) (ha : resW (resR S 5) a = some p) (hb : resW (resR S 5) b = some q) (hc : resW (resR S 5) c = some r) : res S (.ref n) = some (.list [p, q, r]) := by
  show resW (resR S 6) (.ref n) = _
  simp only [resW]
  exact resR_three h ha hb hc
theorem isRT_of {r : SR} (h : r.To ⟨fun _ _ => False, fun d _ => d = .bl true, fun _ _ => False, fun _ _ => False⟩) : isRT r = true := by
  cases r with
  | rt d S => rw [st_rt] at h; have h : d = .bl true := h; subst h; rfl
  | _ => exact h.elim
theorem k10_law {F : Nat → Fn} {iB iY iO iL iD iE iF iS iH iN : Nat} (K : K10F F iB iY iO iL iD iE iF iS iH iN) (ns : List Int) (hl : ns.length ≤ 63) :
    isRT (svs F (k10B iB iY iO iL iD iE iF iS iH iN) (some (.ref 0) :: List.replicate 15 none) ⟨[.frz (ns.map D.int)], [], false⟩) = true := by
  refine isRT_of ?_
  simp only [k10B, List.replicate]
  simp_arith []
  generalize hm : (1 + if (7 : Int) < ns.length then (7 : Int) else ns.length) = m
  have hm1 : 0 ≤ m ∧ m ≤ 8 := by rw [← hm]; split <;> omega
  refine ⟨by simp only [okR, Bool.and_eq_true, decide_eq_true_eq]; omega, ?_⟩
  obtain ⟨I, hI⟩ : ∃ I : List Nat → En → Sto → Prop, ∀ done ρ S', I done ρ S' ↔ ∃ e1 e4 e5 e6 e7 e8 e9 e10 e11 e12 e13 e14 e15 : Option D, ρ = [some (.ref 0), e1, none, none, e4, e5, e6, e7, e8, e9, e10, e11, e12, e13, e14, e15] ∧ S'.objs[0]? = some (.frz (ns.map D.int)) ∧ S'.dirty = false ∧ S'.bs = [] := ⟨_, fun _ _ _ => Iff.rfl⟩
  refine for_fix (l := List.range m.toNat) (enc := fun i => D.int (0 + (i : Nat))) ?a1 ?a2 I ?a3 ?a4 ?a5
  case a1 => simpa using fix_range (lo := 0) (n := m.toNat)
  case a2 => simp
  case a3 => exact (hI _ _ _).mpr ⟨_, _, _, _, _, _, _, _, _, _, _, _, _, rfl, rfl, rfl, rfl⟩
  case a4 =>
    intro done i rest ρ S e h
    obtain ⟨e1, e4, e5, e6, e7, e8, e9, e10, e11, e12, e13, e14, e15, hρ, b1, b2, b3⟩ := (hI _ _ _).mp h
    subst hρ
    obtain ⟨hi, hil⟩ := range_split e
    simp_arith [Int.zero_add]
    refine k10_main K (j := i) (by omega) hl b2 b3 b1 fun S' f4 f5 f6 f7 f8 f9 f10 f11 f12 f13 f14 f15 kp => ?_
    exact (hI _ _ _).mpr ⟨_, _, _, _, _, _, _, _, _, _, _, _, _, rfl, kp.at b1 (by simp), kp.cl, kp.bs.trans b3⟩
  case a5 =>
    intro ρ S h
    obtain ⟨e1, e4, e5, e6, e7, e8, e9, e10, e11, e12, e13, e14, e15, hρ, b1, b2, b3⟩ := (hI _ _ _).mp h
    subst hρ
    simp_arith [Nat.reduceAdd]
    have c2 : (S.add (.lst [])).dirty = false := b2
    have eA := K.signs (S.add (.lst [])) kA (.ref S.len) [] b2 kA_ok (seq_at add_new rfl) (by simp) (by simp)
    have eH := K.short ((S.add (.lst [])).add (.lst [.tup [.int 0, .int 1]])) kA (.ref (S.add (.lst [])).len) [(0, 1)] b2 kA_ok (seq_at add_new rfl) (by decide) (by simp)
    have eB := K.signs ((S.add (.lst [])).add (.lst [.tup [.int 0, .int 1]])) kB (.tup []) [] b2 kB_ok rfl (by simp) (by simp)
    rw [kA_s] at eA
    rw [kA_h] at eH
    rw [kB_s] at eB
    simp only [Lay.d, kA, kB, enc_list, enc_prod, enc_int, List.map_cons, List.map_nil, optD, Option.isNone_none] at eA eH eB
    simp_arith [eA, eH, eB]
    have hq : eqv? ((((S.add (.lst [])).add (.lst [.tup [.int 0, .int 1]])).add (.lst [.tup [.int 1, .int 1], .bl true, .tup [.int 0]])).add (.lst [.tup [.int 1, .int 1], .bl true, .tup [.int 0]])) (.ref ((S.add (.lst [])).add (.lst [.tup [.int 0, .int 1]])).len) (.ref (((S.add (.lst [])).add (.lst [.tup [.int 0, .int 1]])).add (.lst [.tup [.int 1, .int 1], .bl true, .tup [.int 0]])).len) = some true := by
      rw [eqv_res (p := .list [.tuple [.int 1, .int 1], .bool true, .tuple [.int 0]]) (q := .list [.tuple [.int 1, .int 1], .bool true, .tuple [.int 0]]) (res_three (add_at add_new) (by simp only [resW, resWs]) (by simp only [resW]) (by simp only [resW, resWs])) (res_three add_new (by simp only [resW, resWs]) (by simp only [resW]) (by simp only [resW, resWs])) (by decide)]
      rfl
    simp_arith [hq]
    decide
end Sw

/-! R1: rows of links: their order, the rows of one length in their order, the least of them that fits. -/
namespace Sw
open PySem
def lkLt (a b : Link) : Bool := decide (a.1 < b.1 ∨ (a.1 = b.1 ∧ a.2 < b.2))
def rwLt : List Link → List Link → Bool
  | [], [] => false
  | [], _ :: _ => true
  | _ :: _, [] => false
  | a :: r, b :: t => if a = b then rwLt r t else lkLt a b
theorem lkLt_ne {a b : Link} (h : lkLt a b = true) : a ≠ b := by
  intro e; subst e; simp [lkLt] at h
theorem lkLt_asym {a b : Link} (h : lkLt a b = true) : lkLt b a = false := by
  simp only [lkLt, decide_eq_true_eq, decide_eq_false_iff_not] at *; omega
def comb : Nat → List Link → List (List Link)
  | 0, _ => [[]]
  | _ + 1, [] => []
  | k + 1, a :: r => (comb k r).map (a :: ·) ++ comb (k + 1) r
theorem comb_mem : ∀ {k : Nat} {s t : List Link}, t ∈ comb k s ↔ t.Sublist s ∧ t.length = k
  | 0, s, t => by
    simp only [comb, List.mem_singleton]
    exact ⟨fun e => by subst e; exact ⟨List.nil_sublist _, rfl⟩, fun e => List.length_eq_zero_iff.mp e.2⟩
  | k + 1, [], t => by
    simp only [comb, List.not_mem_nil, List.sublist_nil, false_iff]
    rintro ⟨rfl, h⟩; cases h
  | k + 1, a :: r, t => by
    simp only [comb, List.mem_append, List.mem_map, comb_mem (k := k) (s := r), comb_mem (k := k + 1) (s := r)]
    constructor
    · rintro (⟨u, ⟨h1, h2⟩, rfl⟩ | ⟨h1, h2⟩)
      · exact ⟨h1.cons_cons a, by simp [h2]⟩
      · exact ⟨h1.cons a, h2⟩
    · rintro ⟨h1, h2⟩
      cases h1 with
      | cons _ h => exact .inr ⟨h, h2⟩
      | cons_cons _ h => exact .inl ⟨_, ⟨h, by simpa using h2⟩, rfl⟩
def Inc (s : List Link) : Prop := s.Pairwise fun a b => lkLt a b = true
theorem comb_inc : ∀ {k : Nat} {s : List Link}, Inc s → (comb k s).Pairwise fun a b => rwLt a b = true
  | 0, s, h => by simp [comb]
  | k + 1, [], h => by simp [comb]
  | k + 1, a :: r, h => by
    obtain ⟨h1, h2⟩ := List.pairwise_cons.mp h
    rw [comb, List.pairwise_append]
    refine ⟨?_, comb_inc h2, ?_⟩
    · rw [List.pairwise_map]
      exact (comb_inc (k := k) h2).imp fun e => by simpa [rwLt] using e
    · intro x hx z hz
      obtain ⟨u, hu, rfl⟩ := List.mem_map.mp hx
      obtain ⟨z1, z2⟩ := comb_mem.mp hz
      cases z with
      | nil => cases z2
      | cons b z =>
        have hb : lkLt a b = true := h1 b (z1.subset (by simp))
        simp only [rwLt, if_neg (lkLt_ne hb), hb]
def ext (row s : List Link) : List (List Link) := (s.filter fun l => decide (row = []) || (row.getLast?.elim false fun z => lkLt z l)).map fun l => row ++ [l]
def longer (rows : List (List Link)) (s : List Link) : List (List Link) := rows.flatMap fun row => ext row s
theorem ext_cons {a : Link} {t r : List Link} (h : Inc (a :: r)) (ht : t.Sublist r) : ext (a :: t) (a :: r) = (ext t r).map (a :: ·) := by
  obtain ⟨h1, h2⟩ := List.pairwise_cons.mp h
  unfold ext
  rw [List.map_map]
  cases t with
  | nil =>
    have e0 : lkLt a a = false := by simp [lkLt]
    rw [List.filter_cons_of_neg (by simp [e0])]
    rw [List.filter_eq_self.mpr fun l hl => by simp [h1 l hl], List.filter_eq_self.mpr fun l hl => by simp]
    rfl
  | cons b t =>
    have hz : (b :: t).getLast (by simp) ∈ r := ht.subset (List.getLast_mem _)
    have e1 : (a :: b :: t).getLast? = some ((b :: t).getLast (by simp)) := by rw [List.getLast?_cons_cons, List.getLast?_eq_getLast]
    have e2 : (b :: t).getLast? = some ((b :: t).getLast (by simp)) := List.getLast?_eq_getLast (by simp)
    rw [e1, e2]
    have e3 : lkLt ((b :: t).getLast (by simp)) a = false := lkLt_asym (h1 _ hz)
    rw [List.filter_cons_of_neg (by simp [e3])]
    simp
theorem ext_skip {a : Link} {t r : List Link} (h : Inc (a :: r)) (ht : t.Sublist r) (hn : t ≠ []) : ext t (a :: r) = ext t r := by
  obtain ⟨h1, h2⟩ := List.pairwise_cons.mp h
  unfold ext
  have e2 : t.getLast? = some (t.getLast hn) := List.getLast?_eq_getLast hn
  have hz : t.getLast hn ∈ r := ht.subset (List.getLast_mem _)
  rw [e2, List.filter_cons_of_neg (by simp [hn, lkLt_asym (h1 _ hz)])]
theorem flat_congr {α β : Type} {f g : α → List β} : ∀ {l : List α}, (∀ x ∈ l, f x = g x) → l.flatMap f = l.flatMap g
  | [], _ => rfl
  | x :: r, h => by rw [List.flatMap_cons, List.flatMap_cons, h x (by simp), flat_congr fun y hy => h y (by simp [hy])]
theorem longer_comb : ∀ {k : Nat} {s : List Link}, Inc s → longer (comb k s) s = comb (k + 1) s
  | 0, [], h => rfl
  | 0, a :: r, h => by
    have := longer_comb (k := 0) (List.pairwise_cons.mp h).2
    simp only [longer, comb, List.flatMap_cons, List.flatMap_nil, List.append_nil, List.map_cons, List.map_nil, List.singleton_append] at *
    rw [← this]
    simp [ext]
  | k + 1, [], h => rfl
  | k + 1, a :: r, h => by
    have hr := (List.pairwise_cons.mp h).2
    have i1 := longer_comb (k := k) hr
    have i2 := longer_comb (k := k + 1) hr
    rw [comb.eq_3 (k + 1), ← i1, ← i2]
    unfold longer
    rw [comb.eq_3 k, List.flatMap_append]
    congr 1
    · rw [List.flatMap_map, List.map_flatMap]
      exact flat_congr fun t ht => ext_cons h (comb_mem.mp ht).1
    · exact flat_congr fun t ht => ext_skip h (comb_mem.mp ht).1 fun e => by have := (comb_mem.mp ht).2; subst e; cases this
def subs : List Link → List (List Link) → List (List Link)
  | [], rows => rows
  | l :: r, rows => subs r (rows ++ rows.map (· ++ [l]))
theorem subs_mem : ∀ {s : List Link} {rows : List (List Link)} {t : List Link}, t ∈ subs s rows ↔ ∃ u v, t = u ++ v ∧ u ∈ rows ∧ v.Sublist s
  | [], rows, t => by
    simp only [subs, List.sublist_nil]
    exact ⟨fun h => ⟨t, [], by simp, h, rfl⟩, fun ⟨u, v, e, h, hv⟩ => by subst hv; subst e; simpa using h⟩
  | l :: r, rows, t => by
    rw [subs, subs_mem]
    constructor
    · rintro ⟨u, v, rfl, h, hv⟩
      rcases List.mem_append.mp h with h | h
      · exact ⟨u, v, rfl, h, hv.cons l⟩
      · obtain ⟨w, hw, rfl⟩ := List.mem_map.mp h
        exact ⟨w, l :: v, by simp, hw, hv.cons_cons l⟩
    · rintro ⟨u, v, rfl, h, hv⟩
      cases hv with
      | cons _ hv => exact ⟨u, v, rfl, List.mem_append_left _ h, hv⟩
      | cons_cons _ hv => exact ⟨u ++ [l], _, by simp, List.mem_append_right _ (List.mem_map.mpr ⟨u, h, rfl⟩), hv⟩
theorem subs_all {s t : List Link} : t ∈ subs s [[]] ↔ t.Sublist s := by
  rw [subs_mem]
  exact ⟨fun ⟨u, v, e, h, hv⟩ => by simp at h; subst h; subst e; simpa using hv, fun h => ⟨[], t, rfl, by simp, h⟩⟩
/-- the least row of s that fits -/
structure Least (s : List Link) (p : List Link → Bool) (c : List Link) : Prop where
  sub : c.Sublist s
  fit : p c = true
  low : ∀ t : List Link, t.Sublist s → p t = true → t = c ∨ c.length < t.length ∨ (c.length = t.length ∧ rwLt c t = true)
theorem first_of {α : Type} {R : α → α → Prop} {p : α → Bool} {c : α} : ∀ {l : List α}, l.Pairwise R → c ∈ l → p c = true → (∀ t ∈ l, p t = true → t = c ∨ ¬ R t c) → l.find? p = some c
  | [], _, h, _, _ => by cases h
  | x :: r, hp, h, hc, hl => by
    obtain ⟨h1, h2⟩ := List.pairwise_cons.mp hp
    rw [List.find?_cons]
    cases hx : p x with
    | true =>
      rcases hl x (by simp) hx with e | e
      · simp [e]
      · rcases List.mem_cons.mp h with e' | e'
        · simp [e']
        · exact absurd (h1 c e') e
    | false =>
      rcases List.mem_cons.mp h with e' | e'
      · subst e'; rw [hc] at hx; cases hx
      · exact first_of h2 e' hc fun t ht => hl t (by simp [ht])
theorem least_of_layer {s : List Link} {p : List Link → Bool} {c : List Link} {k : Nat} (hs : Inc s) (h : (comb k s).find? p = some c) (hb : ∀ j < k, ∀ t ∈ comb j s, p t = false) : Least s p c := by
  have hc := comb_mem.mp (List.mem_of_find?_eq_some h)
  refine ⟨hc.1, List.find?_some h, fun t ht hp => ?_⟩
  rcases Nat.lt_trichotomy t.length k with h1 | h1 | h1
  · rw [hb t.length h1 t (comb_mem.mpr ⟨ht, rfl⟩)] at hp; cases hp
  · obtain ⟨h2, as, bs, e, h3⟩ := List.find?_eq_some_iff_append.mp h
    have hm : t ∈ comb k s := comb_mem.mpr ⟨ht, h1⟩
    have hpw := comb_inc (k := k) hs
    rw [e] at hm hpw
    rcases List.mem_append.mp hm with h4 | h4
    · have := h3 t h4; rw [hp] at this; cases this
    · rcases List.mem_cons.mp h4 with h4 | h4
      · exact .inl h4
      · refine .inr (.inr ⟨by omega, (List.pairwise_cons.mp (List.pairwise_append.mp hpw).2.1).1 t h4⟩)
  · exact .inr (.inl (by omega))
end Sw

/-! R2: a layout with some more links cut, plainly. -/
namespace Sw
open PySem L2 Enc
def cbit (row : List Link) (i k : Nat) (c : Int) : Int := if c = 1 ∨ ((i : Int), (k : Int)) ∈ row then 1 else 0
def cutJ (row : List Link) (p : (End × List (End × Int)) × Nat) : End × List (End × Int) := (p.1.1, p.1.2.zipIdx.map fun b => (b.1.1, cbit row p.2 b.2 b.1.2))
def Lay.cut (y : Lay) (row : List Link) : Lay := ⟨y.lens, y.joints.zipIdx.map (cutJ row), y.feeds⟩
theorem cbit_bit (row : List Link) (i k : Nat) (c : Int) : isBit (cbit row i k c) := by
  unfold cbit; split
  · exact .inr rfl
  · exact .inl rfl
theorem cutJ_ends (row : List Link) (p : (End × List (End × Int)) × Nat) : endsOf (cutJ row p) = endsOf p.1 := by
  simp only [endsOf, cutJ, List.map_map]
  congr 1
  have e : p.1.2.map (·.1) = (p.1.2.zipIdx.map Prod.fst).map (·.1) := by rw [List.zipIdx_map_fst]
  rw [e, List.map_map]
  rfl
theorem cut_ends (y : Lay) (row : List Link) : allEnds (y.cut row).joints = allEnds y.joints := by
  unfold allEnds Lay.cut
  rw [List.flatMap_map]
  have e : y.joints.flatMap endsOf = (y.joints.zipIdx.map Prod.fst).flatMap endsOf := by rw [List.zipIdx_map_fst]
  rw [e, List.flatMap_map]
  exact flat_congr fun p _ => cutJ_ends row p
theorem cut_joint {y : Lay} {row : List Link} {j : End × List (End × Int)} (h : j ∈ (y.cut row).joints) : ∃ (j' : End × List (End × Int)) (i : Nat), j' ∈ y.joints ∧ j = cutJ row (j', i) := by
  obtain ⟨p, hp, rfl⟩ := List.mem_map.mp h
  exact ⟨p.1, p.2, List.mem_of_getElem? (List.mem_zipIdx_iff_getElem?.mp hp), rfl⟩
theorem Lay.Ok.cut {y : Lay} (h : y.Ok) (row : List Link) : (y.cut row).Ok where
  n1 := h.n1
  n10 := h.n10
  ln := h.ln
  jn := by simpa [Lay.cut] using h.jn
  b1 := fun j hj => by
    obtain ⟨j', i, hj', rfl⟩ := cut_joint hj
    simpa [cutJ] using h.b1 j' hj'
  bc := fun j hj b hb => by
    obtain ⟨j', i, hj', rfl⟩ := cut_joint hj
    obtain ⟨c, _, rfl⟩ := List.mem_map.mp hb
    exact cbit_bit _ _ _ _
  en := by rw [cut_ends]; exact h.en
  nd := by rw [cut_ends]; exact h.nd
  fa := h.fa
  fi := h.fi
def recut (row : List Link) (r : Rw) : Rw := (r.1, r.2.1, r.2.2.1, if r.2.2.2 = 1 ∨ r.1 ∈ row then 1 else 0)
theorem mem_cut_rows {y : Lay} {row : List Link} {r : Rw} : r ∈ (y.cut row).rows ↔ ∃ q ∈ y.rows, r = recut row q := by
  simp only [mem_rows]
  constructor
  · rintro ⟨i, k, j, b, h1, h2, rfl⟩
    simp only [Lay.cut, List.getElem?_map, List.getElem?_zipIdx, Option.map_map, Nat.zero_add, Option.map_eq_some_iff, Function.comp] at h1
    obtain ⟨j', h1, rfl⟩ := h1
    simp only [cutJ, List.getElem?_map, List.getElem?_zipIdx, Option.map_map, Nat.zero_add, Option.map_eq_some_iff, Function.comp] at h2
    obtain ⟨b', h2, rfl⟩ := h2
    exact ⟨_, ⟨i, k, j', b', h1, h2, rfl⟩, rfl⟩
  · rintro ⟨q, ⟨i, k, j, b, h1, h2, rfl⟩, rfl⟩
    refine ⟨i, k, cutJ row (j, i), (b.1, cbit row i k b.2), ?_, ?_, rfl⟩
    · simp [Lay.cut, h1]
    · simp [cutJ, h2]
theorem fitRow_iff {y : Lay} {s : List Int} : fitRow y [] s = true ↔ (∀ r ∈ y.rows, r.2.2.2 ≠ 1 → ¬ (rget s r.2.1.1 + rget s r.2.2.1.1 + crossI r) % 2 = 1) ∧ ∀ f ∈ y.feeds, rget s f.1 = f.2 := by
  simp only [fitRow, Lay.live, Bool.and_eq_true, List.all_eq_true, List.mem_filter, Bool.or_eq_true, Bool.not_eq_true', decide_eq_false_iff_not, decide_eq_true_eq, List.not_mem_nil, or_false, and_imp]
theorem fitRow_cut {y : Lay} {row : List Link} {s : List Int} : fitRow (y.cut row) [] s = true ↔ (∀ r ∈ y.rows, r.2.2.2 ≠ 1 → r.1 ∉ row → ¬ (rget s r.2.1.1 + rget s r.2.2.1.1 + crossI r) % 2 = 1) ∧ ∀ f ∈ y.feeds, rget s f.1 = f.2 := by
  rw [fitRow_iff]
  refine and_congr ⟨fun h r hr h1 h2 => ?_, fun h r hr h1 => ?_⟩ Iff.rfl
  · have := h (recut row r) (mem_cut_rows.mpr ⟨r, hr, rfl⟩) (by simp [recut, h1, h2])
    exact this
  · obtain ⟨q, hq, rfl⟩ := mem_cut_rows.mp hr
    simp only [recut] at h1
    by_cases h2 : q.2.2.2 = 1 ∨ q.1 ∈ row
    · rw [if_pos h2] at h1; exact absurd rfl h1
    · exact h q hq (fun e => h2 (.inl e)) fun e => h2 (.inr e)
theorem least_isS {y : Lay} {l : List Link} : (leastSigns y l).isSome = true ↔ ∃ s ∈ allSigns y.lens.length, fitRow y l s = true := by
  unfold leastSigns
  rw [List.find?_isSome]
def fitB (y : Lay) (row : List Link) : Bool := (leastSigns (y.cut row) []).isSome
theorem fit_more {y : Lay} (row : List Link) (h : (leastSigns y []).isSome = true) : fitB y row = true := by
  obtain ⟨s, h1, h2⟩ := least_isS.mp h
  refine least_isS.mpr ⟨s, h1, fitRow_cut.mpr ?_⟩
  have h3 := fitRow_iff.mp h2
  exact ⟨fun r hr a _ => h3.1 r hr a, h3.2⟩
def Lay.free (y : Lay) : List Link := (y.rows.filter fun (r : Rw) => decide (r.2.2.2 = 0)).map (·.1)
theorem row_bit {y : Lay} (h : y.Ok) {r : Rw} (hr : r ∈ y.rows) : isBit r.2.2.2 := by
  obtain ⟨i, k, j, b, h1, h2, rfl⟩ := mem_rows.mp hr
  exact h.bc j (List.mem_of_getElem? h1) b (List.mem_of_getElem? h2)
theorem look_feed : ∀ {l : List (Int × Int)} {f : Int × Int}, l.Pairwise (fun a b => a.1 < b.1) → f ∈ l → l.lookup f.1 = some f.2
  | [], _, _, h => by cases h
  | x :: r, f, hp, h => by
    obtain ⟨h1, h2⟩ := List.pairwise_cons.mp hp
    rcases List.mem_cons.mp h with rfl | h
    · rw [List.lookup_cons, beq_self_eq_true]
    · have := h1 f h
      rw [List.lookup_cons, look_feed h2 h]
      have e : (f.1 == x.1) = false := by simp; omega
      rw [e]
theorem free_fits {y : Lay} (h : y.Ok) : fitB y y.free = true := by
  refine least_isS.mpr ⟨(List.range y.lens.length).map fun i : Nat => (y.feeds.lookup (i : Int)).getD 0, mem_allSigns (by simp [Lay.cut]) fun x hx => ?_, fitRow_cut.mpr ⟨fun r hr h1 h2 => ?_, fun f hf => ?_⟩⟩
  · obtain ⟨i, _, rfl⟩ := List.mem_map.mp hx
    cases e : y.feeds.lookup (i : Int) with
    | none => exact .inl rfl
    | some v =>
      have : ((i : Int), v) ∈ y.feeds := by
        obtain ⟨l1, l2, e1, _⟩ := List.lookup_eq_some_iff.mp e
        rw [e1]; simp
      exact (h.fi _ this).2.2
  · exfalso
    refine h2 (List.mem_map.mpr ⟨r, List.mem_filter.mpr ⟨hr, ?_⟩, rfl⟩)
    rcases row_bit h hr with e | e
    · simp [e]
    · exact absurd e h1
  · obtain ⟨a, b, c⟩ := h.fi f hf
    obtain ⟨i, e⟩ := Int.eq_ofNat_of_zero_le a
    have e' := look_feed h.fa hf
    rw [e] at e' b ⊢
    rw [rget_nat, List.getD_eq_getElem?_getD, List.getElem?_map, List.getElem?_range (by omega)]
    simp [e']
theorem zip_pw {α : Type} : ∀ (l : List α) (n : Nat), (l.zipIdx n).Pairwise fun a b => a.2 < b.2
  | [], _ => by simp
  | x :: r, n => by
    rw [List.zipIdx_cons, List.pairwise_cons]
    refine ⟨fun p hp => ?_, zip_pw r (n + 1)⟩
    have := List.le_snd_of_mem_zipIdx hp
    show n < p.2
    omega
theorem rows_inc (y : Lay) : y.rows.Pairwise fun a b => lkLt a.1 b.1 = true := by
  unfold Lay.rows
  rw [List.pairwise_flatMap]
  refine ⟨fun p _ => ?_, (zip_pw y.joints 0).imp fun {a b} hab x hx z hz => ?_⟩
  · unfold rowsOf
    rw [List.pairwise_map]
    refine (zip_pw p.1.2 0).imp fun {a b} hab => ?_
    simp only [lkLt, decide_eq_true_eq]
    exact .inr ⟨trivial, Int.ofNat_lt.mpr hab⟩
  · obtain ⟨c, _, rfl⟩ := List.mem_map.mp hx
    obtain ⟨e, _, rfl⟩ := List.mem_map.mp hz
    simp only [lkLt, decide_eq_true_eq]
    omega
theorem free_inc (y : Lay) : Inc y.free := by
  unfold Inc Lay.free
  rw [List.pairwise_map]
  exact (rows_inc y).sublist List.filter_sublist
theorem free_len {y : Lay} (h : y.Ok) : y.free.length ≤ 30 := by
  unfold Lay.free
  rw [List.length_map]
  exact Nat.le_trans (List.length_filter_le _ _) (rows_len h)
theorem mem_free {y : Lay} {l : Link} : l ∈ y.free ↔ ∃ r ∈ y.rows, r.1 = l ∧ r.2.2.2 = 0 := by
  simp only [Lay.free, List.mem_map, List.mem_filter, decide_eq_true_eq]
  exact ⟨fun ⟨r, ⟨a, b⟩, c⟩ => ⟨r, a, c, b⟩, fun ⟨r, a, c, b⟩ => ⟨r, ⟨a, b⟩, c⟩⟩
end Sw

/-! R3: cut_by, the law's own. -/
namespace Sw
open PySem L2 Enc
local macro_rules | `(tactic| simp_arith [$xs,*]) => `(tactic| simp only [↓e_lit, ↓e_var, ↓e_bin, ↓e_cmp, ↓e_chain, ↓e_neg, ↓e_not, ↓e_and, ↓e_or, ↓e_ite, ↓e_tup, ↓e_lst, ↓e_dnewT, ↓e_dnewF, ↓e_ix, ↓e_sl, ↓p_none, ↓p_some, ↓e_call, ↓e_bi, ↓e_isi, ↓e_app, ↓e_pop, ↓e_get, ↓e_rev, ↓e_lenum, ↓e_dispk, ↓op_srcR, ↓op_enumR, ↓op_zipR, turns_live, turns_enumL, turns_zipL, turns_items, turns_enumI, turns_zipI, turns_range, Option.bind_some, Option.elim_some, ↓e_comp, ↓s_wh, ↓a_nil, ↓a_cons, ↓a_star, ↓g_name, ↓g_tup, ↓gs_nil, ↓gs_cons, ↓s_nil, ↓s_cons, ↓s_expr, ↓s_ret, ↓s_asg, ↓s_aug, ↓s_put, ↓s_ite, ↓s_pass, ↓s_brk, ↓s_cont, ↓i_e, ↓i_r1, ↓i_r2, ↓i_enum, ↓i_zip, ↓s_fo, ↓look_z, ↓look_s, ↓tb_bl, ↓ti_int, ↓tr_ref, ↓tt_tup, ↓op_some, ↓to_ok, ↓st_nx, ↓st_rt, ↓st_bk, ↓st_ct, List.set_cons_zero, List.set_cons_succ, boD, coD, biN, aoD, ↓p_addI, ↓p_addT, ↓p_addL, ↓p_sub, ↓p_mul, ↓p_fdiv, ↓p_mod, ↓p_pow, ↓p_iaddI, ↓p_iaddL, ↓p_isub, ↓p_lt, ↓p_gt, ↓p_le, ↓p_ge, ↓p_eq, ↓p_ne, ↓p_in, ↓p_notIn, ↓q_int, ↓p_isNN, ↓p_isTN, ↓p_isIN, ↓p_isRN, ↓p_isntNN, ↓p_isntTN, ↓p_isntIN, ↓p_isntRN, ↓p_isBB, ↓p_isntBB, ↓p_ixT, ↓p_ixR, ↓p_slT, ↓p_slR, ↓p_lenT, ↓p_lenR, ↓p_intI, ↓p_intB, ↓p_min, ↓p_max, ↓p_bl, ↓p_sum, ↓p_tupleT, ↓p_tupleR, ↓p_listT, ↓p_listR, ↓p_app, ↓p_pop0, ↓p_popI, ↓p_get1, ↓p_revT, ↓p_revR, ↓p_isi, ↓op_dput, ↓op_list, src_tup, enum_tup, zip_tup, seqO_lst, seqO_frz, lstO_lst, lenO_lst, lenO_frz, ixO_lst, isLst_lst, seqOf_tup, decide_eq_true_eq, List.length_cons, List.length_nil, Nat.beq, true_and, Nat.reduceAdd, List.getElem?_cons_zero, List.getElem?_cons_succ, get_app0, get_app, set_app0, set_app, List.append_assoc, List.cons_append, List.nil_append, List.length_append, wipeE, ↓op_map, ↓atI_map, atI_0, atI_1, atI_2, atI_3, List.length_map, st_enter, st_add, st_putT, st_len, bw_int, bw_bl, bw_non, bw_str, bw_tup, bws_nil, bws_cons, Enc.flat, flats, Bool.and_true, Bool.and_self, isT_tup, sub_TT, List.any_cons, List.any_nil, Bool.or_false, Bool.not_true, Bool.not_false, if_true, if_false, Bool.false_eq_true, decide_true, decide_false, $xs,*])
def b_cut_by : Ts := (.cons (.asg (.lst .nil) (.name 2)) (.cons (.fo (.enum (.cons (.ix (.var 0) (.lit (.int 1))) .nil)) (.tup 2 (.cons (.name 3) (.cons (.tup 2 (.cons (.name 5) (.cons (.name 6) .nil))) .nil))) (.cons (.asg (.comp (.enum (.cons (.var 6) .nil)) [7, 8, 9] (.tup 2 (.cons (.name 7) (.cons (.tup 2 (.cons (.name 8) (.cons (.name 9) .nil))) .nil))) (.lit (.bl true)) (.tup (.cons (.var 8) (.cons (.bi .int (.cons (.or (.cmp .eq (.var 9) (.lit (.int 1))) (.cmp .is_in (.tup (.cons (.var 3) (.cons (.var 7) .nil))) (.var 1))) .nil)) .nil)))) (.name 4)) (.cons (.expr (.meth .append (.var 2) (.cons (.tup (.cons (.var 5) (.cons (.bi .tuple (.cons (.var 4) .nil)) .nil))) .nil))) .nil))) (.cons (.ret (.tup (.cons (.ix (.var 0) (.lit (.int 0))) (.cons (.bi .tuple (.cons (.var 2) .nil)) (.cons (.ix (.var 0) (.lit (.int 2))) .nil))))) .nil)))
def b_Lwith : Ts := (.cons (.asg (.lst .nil) (.name 2)) (.cons (.fo (.enum (.cons (.ix (.var 0) (.lit (.int 1))) .nil)) (.tup 2 (.cons (.name 3) (.cons (.tup 2 (.cons (.name 5) (.cons (.name 6) .nil))) .nil))) (.cons (.asg (.lst .nil) (.name 4)) (.cons (.fo (.enum (.cons (.var 6) .nil)) (.tup 2 (.cons (.name 7) (.cons (.tup 2 (.cons (.name 8) (.cons (.name 9) .nil))) .nil))) (.cons (.expr (.meth .append (.var 4) (.cons (.tup (.cons (.var 8) (.cons (.ite (.cmp .is_in (.tup (.cons (.var 3) (.cons (.var 7) .nil))) (.var 1)) (.lit (.int 1)) (.var 9)) .nil))) .nil))) .nil)) (.cons (.expr (.meth .append (.var 2) (.cons (.tup (.cons (.var 5) (.cons (.bi .tuple (.cons (.var 4) .nil)) .nil))) .nil))) .nil)))) (.cons (.ret (.tup (.cons (.ix (.var 0) (.lit (.int 0))) (.cons (.bi .tuple (.cons (.var 2) .nil)) (.cons (.ix (.var 0) (.lit (.int 2))) .nil))))) .nil)))
theorem of_enum_enc {α : Type} {B : List O} {f : α → D} {l : List α} : (Src.enumI (l.map f)).Of B (l.zipIdx.map fun p => .tup [.int (p.2 : Nat), f p.1]) := by
  have := of_enumI (B := B) (ds := l.map f)
  rw [List.zipIdx_map, List.map_map] at this
  exact this
def SpCutBy (f : Fn) : Prop := ∀ (S : Sto) (y : Lay) (row : List Link), y.Ok → f [y.d, enc row] S = .ok (y.cut row).d S
theorem spCutBy (F : Nat → Fn) : SpCutBy (liftF (fnSem 10 2 (svs F b_cut_by))) := fun S y row h => by
  refine lift_flat rfl (by simp [bws_cons, Lay.flat, Enc.flat, bws_nil]) (Lay.flat _ 0) ?_
  simp only [b_cut_by, List.map, List.cons_append, List.nil_append, List.replicate, Lay.d, enc_list]
  generalize hrow : D.tup (row.map enc) = dr
  have hin : ∀ (S : Sto) (a : Link), in? S (enc a) dr = some (decide (a ∈ row)) := fun S a => in_seq (by rw [← hrow]; rfl) (by decide)
  simp_arith []
  refine ⟨rfl, ?_⟩
  obtain ⟨I, hI⟩ : ∃ I : List ((End × List (End × Int)) × Nat) → En → Sto → Prop, ∀ done ρ S, I done ρ S ↔ ∃ (z3 z4 z5 z6 z7 z8 z9 : Option D) (L : List O), ρ = [some (.tup [.tup (y.lens.map enc), .tup (y.joints.map enc), .tup (y.feeds.map enc)]), some dr, some (.ref 0), z3, z4, z5, z6, z7, z8, z9] ∧ S = ⟨.lst ((done.map (cutJ row)).map enc) :: L, [0], false⟩ := ⟨_, fun _ _ _ => Iff.rfl⟩
  refine for_fix (l := y.joints.zipIdx) (enc := fun p => D.tup [.int (p.2 : Nat), enc p.1]) ?a1 ?a2 I ?a3 ?a4 ?a5
  case a1 => exact enumI_enc
  case a2 => simp
  case a3 => exact (hI _ _ _).mpr ⟨_, _, _, _, _, _, _, [], rfl, by simp⟩
  case a4 =>
    intro done d rest ρ S e h'
    obtain ⟨z3, z4, z5, z6, z7, z8, z9, L, hρ, hS⟩ := (hI _ _ _).mp h'
    subst hρ hS
    obtain ⟨j, n⟩ := d
    have ej : enc j = .tup [enc j.1, .tup (j.2.map enc)] := rfl
    rw [ej]
    have hd : done.length + (rest.length + 1) ≤ 10 := by
      have := congrArg List.length e
      have h1 := h.jn
      simp only [List.length_zipIdx, List.length_append, List.length_cons] at this
      omega
    have hj : j.2.length ≤ 3 := by
      have : (j, n) ∈ y.joints.zipIdx := by rw [e]; simp
      exact (h.b1 j (List.mem_of_getElem? (List.mem_zipIdx_iff_getElem?.mp this))).2
    simp_arith []
    refine comp_pure' (α := (End × Int) × Nat) (enc := fun p => D.tup [.int (p.2 : Nat), enc p.1]) (B := .lst ((done.map (cutJ row)).map enc) :: L) (bs := [0]) (l := j.2.zipIdx) (fun _ => true) (fun b => enc (b.1.1, cbit row n b.2 b.1.2)) ?b1 ?b2 ?b3 ?b4 ?b5 ?b6 (fun x hx acc => ?b7) ?b8
    case b1 =>
      exact of_enum_enc
    case b2 => rfl
    case b3 => rfl
    case b4 => simp
    case b5 => simp; omega
    case b6 => simp
    case b7 =>
      obtain ⟨b, k⟩ := x
      have eb : enc b = .tup [enc b.1, .int b.2] := rfl
      simp only [eb]
      have ek : D.tup [.int (n : Nat), .int (k : Nat)] = enc (((n : Int), (k : Int)) : Link) := rfl
      simp_arith [ek, hin]
      intro _
      split
      · rename_i hb
        exact ⟨rfl, by simp [cbit, hb, enc_prod, enc_int], trivial⟩
      · rename_i hb
        refine ⟨rfl, rfl, ?_, trivial⟩
        by_cases hk : (((n : Int), (k : Int)) : Link) ∈ row
        · simp [cbit, hb, hk, enc_prod, enc_int]
        · simp [cbit, hb, hk, enc_prod, enc_int]
    case b8 =>
      rw [filt_true]
      simp_arith []
      refine ⟨rfl, Nat.ble_eq_true_of_le (by omega), ?_⟩
      rw [bws_map (fun b => Enc.flat _ _)]
      refine (hI _ _ _).mpr ⟨_, _, _, _, _, _, _, L ++ [O.lst (j.2.zipIdx.map fun b => enc (b.1.1, cbit row n b.2 b.1.2))], rfl, ?_⟩
      simp only [Bool.and_self, st_putT, List.set_cons_zero, List.map_append, List.map_cons, List.map_nil, cutJ, enc_prod, enc_list, List.map_map, Function.comp_def]
  case a5 =>
    intro ρ S h'
    obtain ⟨z3, z4, z5, z6, z7, z8, z9, L, hρ, hS⟩ := (hI _ _ _).mp h'
    subst hρ hS
    simp_arith []
    exact ⟨rfl, rfl⟩
def SpLwith (f : Fn) : Prop := ∀ (S : Sto) (y : Lay) (row : List Link), y.Ok → f [y.d, enc row] S = .ok (y.cut row).d S
theorem cbit_else {row : List Link} {i k : Nat} {c : Int} (h : isBit c) : cbit row i k c = if (((i : Int), (k : Int)) : Link) ∈ row then 1 else c := by
  unfold cbit
  rcases h with rfl | rfl
  · simp
  · simp
theorem spLwith (F : Nat → Fn) : SpLwith (liftF (fnSem 10 2 (svs F b_Lwith))) := fun S y row h => by
  refine lift_flat rfl (by simp [bws_cons, Lay.flat, Enc.flat, bws_nil]) (Lay.flat _ 0) ?_
  simp only [b_Lwith, List.map, List.cons_append, List.nil_append, List.replicate, Lay.d, enc_list]
  generalize hrow : D.tup (row.map enc) = dr
  have hin : ∀ (S : Sto) (a : Link), in? S (enc a) dr = some (decide (a ∈ row)) := fun S a => in_seq (by rw [← hrow]; rfl) (by decide)
  simp_arith []
  refine ⟨rfl, ?_⟩
  obtain ⟨I, hI⟩ : ∃ I : List ((End × List (End × Int)) × Nat) → En → Sto → Prop, ∀ done ρ S, I done ρ S ↔ ∃ (z3 z4 z5 z6 z7 z8 z9 : Option D) (L : List O), ρ = [some (.tup [.tup (y.lens.map enc), .tup (y.joints.map enc), .tup (y.feeds.map enc)]), some dr, some (.ref 0), z3, z4, z5, z6, z7, z8, z9] ∧ S = ⟨.lst ((done.map (cutJ row)).map enc) :: L, [0], false⟩ := ⟨_, fun _ _ _ => Iff.rfl⟩
  refine for_fix (l := y.joints.zipIdx) (enc := fun p => D.tup [.int (p.2 : Nat), enc p.1]) ?a1 ?a2 I ?a3 ?a4 ?a5
  case a1 => exact enumI_enc
  case a2 => simp
  case a3 => exact (hI _ _ _).mpr ⟨_, _, _, _, _, _, _, [], rfl, by simp⟩
  case a4 =>
    intro done d rest ρ S e h'
    obtain ⟨z3, z4, z5, z6, z7, z8, z9, L, hρ, hS⟩ := (hI _ _ _).mp h'
    subst hρ hS
    obtain ⟨j, n⟩ := d
    have ej : enc j = .tup [enc j.1, .tup (j.2.map enc)] := rfl
    rw [ej]
    have hd : done.length + (rest.length + 1) ≤ 10 := by
      have := congrArg List.length e
      have h1 := h.jn
      simp only [List.length_zipIdx, List.length_append, List.length_cons] at this
      omega
    have hm : j ∈ y.joints := by
      have : (j, n) ∈ y.joints.zipIdx := by rw [e]; simp
      exact List.mem_of_getElem? (List.mem_zipIdx_iff_getElem?.mp this)
    have hj : j.2.length ≤ 3 := (h.b1 j hm).2
    simp_arith []
    refine ⟨rfl, ?_⟩
    obtain ⟨J, hJ⟩ : ∃ J : List ((End × Int) × Nat) → En → Sto → Prop, ∀ dn ρ S, J dn ρ S ↔ ∃ z7 z8 z9 : Option D, ρ = [some (.tup [.tup (y.lens.map enc), .tup (y.joints.map enc), .tup (y.feeds.map enc)]), some dr, some (.ref 0), some (.int (n : Nat)), some (.ref (L.length + 1)), some (enc j.1), some (.tup (j.2.map enc)), z7, z8, z9] ∧ S = ⟨.lst ((done.map (cutJ row)).map enc) :: (L ++ [.lst (dn.map fun b => enc (b.1.1, cbit row n b.2 b.1.2))]), [0], false⟩ := ⟨_, fun _ _ _ => Iff.rfl⟩
    refine for_fix (l := j.2.zipIdx) (enc := fun p => D.tup [.int (p.2 : Nat), enc p.1]) ?b1 ?b2 J ?b3 ?b4 ?b5
    case b1 => exact enumI_enc
    case b2 => simp
    case b3 => exact (hJ _ _ _).mpr ⟨_, _, _, rfl, by simp⟩
    case b4 =>
      intro dn b rs ρ S e' h2
      obtain ⟨z7, z8, z9, hρ, hS⟩ := (hJ _ _ _).mp h2
      subst hρ hS
      obtain ⟨b, k⟩ := b
      have eb : enc b = .tup [enc b.1, .int b.2] := rfl
      rw [eb]
      have e3 : dn.length + (1 + rs.length) = j.2.length := by
        have := congrArg List.length e'
        simp only [List.length_zipIdx, List.length_append, List.length_cons] at this
        omega
      have hb : isBit b.2 := by
        have : (b, k) ∈ j.2.zipIdx := by rw [e']; simp
        exact h.bc j hm b (List.mem_of_getElem? (List.mem_zipIdx_iff_getElem?.mp this))
      have ek : D.tup [.int (n : Nat), .int (k : Nat)] = enc (((n : Int), (k : Int)) : Link) := rfl
      simp_arith [↓isLst_lst, ek, hin]
      refine ⟨rfl, ?_⟩
      split
      · rename_i hk
        refine ⟨rfl, Nat.ble_eq_true_of_le (by omega), (hJ _ _ _).mpr ⟨_, _, _, rfl, ?_⟩⟩
        simp [cbit_else hb, hk, enc_prod, enc_int]
      · rename_i hk
        refine ⟨rfl, Nat.ble_eq_true_of_le (by omega), (hJ _ _ _).mpr ⟨_, _, _, rfl, ?_⟩⟩
        simp [cbit_else hb, hk, enc_prod, enc_int]
    case b5 =>
      intro ρ S h2
      obtain ⟨z7, z8, z9, hρ, hS⟩ := (hJ _ _ _).mp h2
      subst hρ hS
      simp_arith []
      refine ⟨rfl, Nat.ble_eq_true_of_le (by omega), ?_⟩
      rw [bws_map (fun b => Enc.flat _ _)]
      refine (hI _ _ _).mpr ⟨_, _, _, _, _, _, _, L ++ [O.lst (j.2.zipIdx.map fun b => enc (b.1.1, cbit row n b.2 b.1.2))], rfl, ?_⟩
      simp only [Bool.and_self, st_putT, List.set_cons_zero, List.map_append, List.map_cons, List.map_nil, cutJ, enc_prod, enc_list, List.map_map, Function.comp_def]
  case a5 =>
    intro ρ S h'
    obtain ⟨z3, z4, z5, z6, z7, z8, z9, L, hρ, hS⟩ := (hI _ _ _).mp h'
    subst hρ hS
    simp_arith []
    exact ⟨rfl, rfl⟩
end Sw

/-! R4: are_cuts, with_cuts. -/
namespace Sw
open PySem L2 Enc
local macro_rules | `(tactic| simp_arith [$xs,*]) => `(tactic| simp only [↓e_lit, ↓e_var, ↓e_bin, ↓e_cmp, ↓e_chain, ↓e_neg, ↓e_not, ↓e_and, ↓e_or, ↓e_ite, ↓e_tup, ↓e_lst, ↓e_dnewT, ↓e_dnewF, ↓e_ix, ↓e_sl, ↓p_none, ↓p_some, ↓e_call, ↓e_bi, ↓e_isi, ↓e_app, ↓e_pop, ↓e_get, ↓e_rev, ↓e_lenum, ↓e_dispk, ↓op_srcR, ↓op_enumR, ↓op_zipR, turns_live, turns_enumL, turns_zipL, turns_items, turns_enumI, turns_zipI, turns_range, Option.bind_some, Option.elim_some, ↓e_comp, ↓s_wh, ↓a_nil, ↓a_cons, ↓a_star, ↓g_name, ↓g_tup, ↓gs_nil, ↓gs_cons, ↓s_nil, ↓s_cons, ↓s_expr, ↓s_ret, ↓s_asg, ↓s_aug, ↓s_put, ↓s_ite, ↓s_pass, ↓s_brk, ↓s_cont, ↓i_e, ↓i_r1, ↓i_r2, ↓i_enum, ↓i_zip, ↓s_fo, ↓look_z, ↓look_s, ↓tb_bl, ↓ti_int, ↓tr_ref, ↓tt_tup, ↓op_some, ↓to_ok, ↓st_nx, ↓st_rt, ↓st_bk, ↓st_ct, List.set_cons_zero, List.set_cons_succ, boD, coD, biN, aoD, ↓p_addI, ↓p_addT, ↓p_addL, ↓p_sub, ↓p_mul, ↓p_fdiv, ↓p_mod, ↓p_pow, ↓p_iaddI, ↓p_iaddL, ↓p_isub, ↓p_lt, ↓p_gt, ↓p_le, ↓p_ge, ↓p_eq, ↓p_ne, ↓p_in, ↓p_notIn, ↓q_int, ↓p_isNN, ↓p_isTN, ↓p_isIN, ↓p_isRN, ↓p_isntNN, ↓p_isntTN, ↓p_isntIN, ↓p_isntRN, ↓p_isBB, ↓p_isntBB, ↓p_ixT, ↓p_ixR, ↓p_slT, ↓p_slR, ↓p_lenT, ↓p_lenR, ↓p_intI, ↓p_intB, ↓p_min, ↓p_max, ↓p_bl, ↓p_sum, ↓p_tupleT, ↓p_tupleR, ↓p_listT, ↓p_listR, ↓p_app, ↓p_pop0, ↓p_popI, ↓p_get1, ↓p_revT, ↓p_revR, ↓p_isi, ↓op_dput, ↓op_list, src_tup, enum_tup, zip_tup, seqO_lst, seqO_frz, lstO_lst, lenO_lst, lenO_frz, ixO_lst, isLst_lst, seqOf_tup, decide_eq_true_eq, List.length_cons, List.length_nil, Nat.beq, true_and, Nat.reduceAdd, List.getElem?_cons_zero, List.getElem?_cons_succ, get_app0, get_app, set_app0, set_app, List.append_assoc, List.cons_append, List.nil_append, List.length_append, wipeE, ↓op_map, ↓atI_map, atI_0, atI_1, atI_2, atI_3, List.length_map, st_enter, st_add, st_putT, st_len, bw_int, bw_bl, bw_non, bw_str, bw_tup, bws_nil, bws_cons, Enc.flat, flats, Bool.and_true, Bool.and_self, isT_tup, sub_TT, List.any_cons, List.any_nil, Bool.or_false, Bool.not_true, Bool.not_false, if_true, if_false, Bool.false_eq_true, decide_true, decide_false, $xs,*])
def b_are_cuts (i_is_link i_is_cut_in : Nat) : Ts := (.cons (.ite (.or (.not (.isi [.tuple] (.var 1))) (.not (.bi .all (.cons (.comp (.e (.var 1)) [2] (.name 2) (.lit (.bl true)) (.call i_is_link (.cons (.var 0) (.cons (.var 2) .nil)))) .nil)))) (.cons (.ret (.lit (.bl false))) .nil) .nil) (.cons (.ite (.not (.bi .all (.cons (.comp (.zip (.cons (.var 1) (.cons (.sl (.var 1) (.some (.lit (.int 1))) .none) .nil))) [3, 4] (.tup 2 (.cons (.name 3) (.cons (.name 4) .nil))) (.lit (.bl true)) (.cmp .lt (.var 3) (.var 4))) .nil))) (.cons (.ret (.lit (.bl false))) .nil) .nil) (.cons (.ret (.not (.bi .any (.cons (.comp (.e (.var 1)) [2] (.name 2) (.lit (.bl true)) (.call i_is_cut_in (.cons (.var 0) (.cons (.var 2) .nil)))) .nil)))) .nil)))
def b_with_cuts (i_need_layout i_are_cuts i_cut_by : Nat) : Ts := (.cons (.expr (.call i_need_layout (.cons (.var 0) .nil))) (.cons (.ite (.not (.call i_are_cuts (.cons (.var 0) (.cons (.var 1) .nil)))) (.cons .bad .nil) .nil) (.cons (.ret (.call i_cut_by (.cons (.var 0) (.cons (.var 1) .nil)))) .nil)))
theorem ord_link {S : Sto} (a b : Link) : ord? S (enc a) (enc b) = some (Enc.pd a, Enc.pd b) := by
  unfold ord?
  rw [res_enc, res_enc]
  rfl
theorem lt_link (a b : Link) : PySem.W.dataLt (Enc.pd a) (Enc.pd b) = lkLt a b := PySem.W.dataLt_ii _ _ _ _
theorem p_ltK {S : Sto} {Q : D → Sto → Prop} {a b : Link} : (ltD (enc a) (enc b) S).To Q = Q (.bl (lkLt a b)) S := by
  have : ltD (enc a) (enc b) S = .ok (.bl (lkLt a b)) S := by
    have h := ord_link (S := S) a b
    unfold ltD
    show cmpD _ _ (.tup [.int a.1, .int a.2]) (.tup [.int b.1, .int b.2]) S = _
    unfold cmpD
    dsimp only
    rw [show ord? S (.tup [.int a.1, .int a.2]) (.tup [.int b.1, .int b.2]) = _ from h]
    dsimp only
    rw [lt_link]
  rw [this, to_ok]
theorem p_gtK {S : Sto} {Q : D → Sto → Prop} {a b : Link} : (gtD (enc a) (enc b) S).To Q = Q (.bl (lkLt b a)) S := by
  have : gtD (enc a) (enc b) S = .ok (.bl (lkLt b a)) S := by
    have h := ord_link (S := S) a b
    unfold gtD
    show cmpD _ _ (.tup [.int a.1, .int a.2]) (.tup [.int b.1, .int b.2]) S = _
    unfold cmpD
    dsimp only
    rw [show ord? S (.tup [.int a.1, .int a.2]) (.tup [.int b.1, .int b.2]) = _ from h]
    dsimp only
    rw [lt_link]
  rw [this, to_ok]
def SpAreCuts (f : Fn) : Prop := ∀ (S : Sto) (y : Lay) (row : List Link), y.Ok → Inc row → (∀ l ∈ row, l ∈ y.free) → row.length ≤ 1000 → f [y.d, enc row] S = .ok (.bl true) S
theorem spAreCuts (F : Nat → Fn) (iL iC : Nat) (hL : SpIsLink (F iL)) (hC : SpCutIn (F iC)) : SpAreCuts (liftF (fnSem 5 2 (svs F (b_are_cuts iL iC)))) := fun S y row h h1 h2 h3 => by
  refine lift_flat rfl (by simp [bws_cons, Lay.flat, Enc.flat, bws_nil]) rfl ?_
  generalize hdy : y.d = dy
  have eL : ∀ (S : Sto) (l : Link), S.dirty = false → l ∈ row → F iL [dy, enc l] S = .ok (.bl true) S := fun S l hS hl => by
    obtain ⟨r, hr, rfl, _⟩ := mem_free.mp (h2 l hl)
    rw [← hdy]; exact hL S y r hS h hr
  have eC : ∀ (S : Sto) (l : Link), l ∈ row → F iC [dy, enc l] S = .ok (.bl false) S := fun S l hl => by
    obtain ⟨r, hr, rfl, h0⟩ := mem_free.mp (h2 l hl)
    rw [← hdy, hC S y r hr, h0]; rfl
  simp only [b_are_cuts, List.map, List.cons_append, List.nil_append, List.replicate, enc_list]
  simp_arith []
  refine comp_pure' (α := Link) (enc := enc) (B := []) (bs := [0]) (l := row) (fun _ => true) (fun x => .bl true) of_items rfl rfl (by simp) (by omega) (by simp) (fun x hx acc => ?_) ?_
  · simp_arith [eL ⟨[.lst acc], [0], false⟩ x rfl hx]
    exact fun _ => trivial
  · rw [filt_true]
    have e : (row.map fun _ => true).all id = true := by simp
    simp_arith [bls_map, e]
    have ez : (row.map enc).zip (cutL (row.map enc) (some 1) none) = (row.zip row.tail).map fun p => (enc p.1, enc p.2) := by
      rw [cutL_tail, List.map_tail.symm, List.zip_map]
      rfl
    refine comp_pure' (α := Link × Link) (enc := fun p => .tup [enc p.1, enc p.2]) (B := [O.lst (row.map fun x => .bl true)]) (bs := [0]) (l := row.zip row.tail) (fun _ => true) (fun p => .bl (lkLt p.1 p.2)) (by have := of_zipI (B := [O.lst (row.map fun x => .bl true)]) (xs := row.map enc) (ys := cutL (row.map enc) (some 1) none); rw [ez, List.map_map] at this; exact this) rfl rfl (by simp; omega) (by simp; omega) (by simp) (fun x hx acc => ?_) ?_
    · simp_arith [↓p_ltK]
      exact fun _ => trivial
    · rw [filt_true]
      have e2 : ((row.zip row.tail).map fun p => lkLt p.1 p.2).all id = true := by
        simp only [List.all_map, List.all_eq_true]
        intro x hx
        simpa using pw_zip h1 x hx
      simp_arith [bls_map, e2]
      refine comp_pure' (α := Link) (enc := enc) (B := [O.lst (row.map fun x => .bl true), O.lst ((row.zip row.tail).map fun p => .bl (lkLt p.1 p.2))]) (bs := [0]) (l := row) (fun _ => true) (fun x => .bl false) of_items rfl rfl (by simp) (by omega) (by simp) (fun x hx acc => ?_) ?_
      · simp_arith [eC _ x hx]
        exact fun _ => trivial
      · rw [filt_true]
        have e3 : (row.map fun _ => false).any id = false := by simp
        simp_arith [bls_map, e3]
def SpWithCuts (f : Fn) : Prop := ∀ (S : Sto) (y : Lay) (row : List Link), y.Ok → Inc row → (∀ l ∈ row, l ∈ y.free) → row.length ≤ 1000 → f [y.d, enc row] S = .ok (y.cut row).d S
theorem spWithCuts (F : Nat → Fn) (iN iA iC : Nat) (hN : SpNeed (F iN)) (hA : SpAreCuts (F iA)) (hC : SpCutBy (F iC)) : SpWithCuts (liftF (fnSem 2 2 (svs F (b_with_cuts iN iA iC)))) := fun S y row h h1 h2 h3 => by
  refine lift_flat rfl (by simp [bws_cons, Lay.flat, Enc.flat, bws_nil]) (Lay.flat _ 0) ?_
  have eN := fun S => hN S y h
  have eA := fun S => hA S y row h h1 h2 h3
  have eC := fun S => hC S y row h
  generalize y.d = dy at *
  generalize (y.cut row).d = dc at *
  generalize enc row = dr at *
  simp only [b_with_cuts, List.map, List.cons_append, List.nil_append, List.replicate]
  simp_arith [eN, eA, eC]
end Sw

/-! R5: comprehensions of two loops; one_longer. -/
namespace Sw
open PySem L2 Enc
local macro_rules | `(tactic| simp_arith [$xs,*]) => `(tactic| simp only [↓e_lit, ↓e_var, ↓e_bin, ↓e_cmp, ↓e_chain, ↓e_neg, ↓e_not, ↓e_and, ↓e_or, ↓e_ite, ↓e_tup, ↓e_lst, ↓e_dnewT, ↓e_dnewF, ↓e_ix, ↓e_sl, ↓p_none, ↓p_some, ↓e_call, ↓e_bi, ↓e_isi, ↓e_app, ↓e_pop, ↓e_get, ↓e_rev, ↓e_lenum, ↓e_dispk, ↓op_srcR, ↓op_enumR, ↓op_zipR, turns_live, turns_enumL, turns_zipL, turns_items, turns_enumI, turns_zipI, turns_range, Option.bind_some, Option.elim_some, ↓e_comp, ↓s_wh, ↓a_nil, ↓a_cons, ↓a_star, ↓g_name, ↓g_tup, ↓gs_nil, ↓gs_cons, ↓s_nil, ↓s_cons, ↓s_expr, ↓s_ret, ↓s_asg, ↓s_aug, ↓s_put, ↓s_ite, ↓s_pass, ↓s_brk, ↓s_cont, ↓i_e, ↓i_r1, ↓i_r2, ↓i_enum, ↓i_zip, ↓s_fo, ↓look_z, ↓look_s, ↓tb_bl, ↓ti_int, ↓tr_ref, ↓tt_tup, ↓op_some, ↓to_ok, ↓st_nx, ↓st_rt, ↓st_bk, ↓st_ct, List.set_cons_zero, List.set_cons_succ, boD, coD, biN, aoD, ↓p_addI, ↓p_addT, ↓p_addL, ↓p_sub, ↓p_mul, ↓p_fdiv, ↓p_mod, ↓p_pow, ↓p_iaddI, ↓p_iaddL, ↓p_isub, ↓p_lt, ↓p_gt, ↓p_le, ↓p_ge, ↓p_eq, ↓p_ne, ↓p_in, ↓p_notIn, ↓q_int, ↓p_isNN, ↓p_isTN, ↓p_isIN, ↓p_isRN, ↓p_isntNN, ↓p_isntTN, ↓p_isntIN, ↓p_isntRN, ↓p_isBB, ↓p_isntBB, ↓p_ixT, ↓p_ixR, ↓p_slT, ↓p_slR, ↓p_lenT, ↓p_lenR, ↓p_intI, ↓p_intB, ↓p_min, ↓p_max, ↓p_bl, ↓p_sum, ↓p_tupleT, ↓p_tupleR, ↓p_listT, ↓p_listR, ↓p_app, ↓p_pop0, ↓p_popI, ↓p_get1, ↓p_revT, ↓p_revR, ↓p_isi, ↓op_dput, ↓op_list, src_tup, enum_tup, zip_tup, seqO_lst, seqO_frz, lstO_lst, lenO_lst, lenO_frz, ixO_lst, isLst_lst, seqOf_tup, decide_eq_true_eq, List.length_cons, List.length_nil, Nat.beq, true_and, Nat.reduceAdd, List.getElem?_cons_zero, List.getElem?_cons_succ, get_app0, get_app, set_app0, set_app, List.append_assoc, List.cons_append, List.nil_append, List.length_append, wipeE, ↓op_map, ↓atI_map, atI_0, atI_1, atI_2, atI_3, List.length_map, st_enter, st_add, st_putT, st_len, bw_int, bw_bl, bw_non, bw_str, bw_tup, bws_nil, bws_cons, Enc.flat, flats, Bool.and_true, Bool.and_self, isT_tup, sub_TT, List.any_cons, List.any_nil, Bool.or_false, Bool.not_true, Bool.not_false, if_true, if_false, Bool.false_eq_true, decide_true, decide_false, $xs,*])
def b_one_longer : Ts := (.cons (.ret (.comp2 (.e (.var 0)) [2, 3] (.name 2) (.lit (.bl true)) (.e (.var 1)) [3] (.name 3) (.or (.cmp .eq (.var 2) (.tup .nil)) (.cmp .gt (.var 3) (.ix (.var 2) (.neg (.lit (.int 1)))))) (.tup (.star (.var 2) (.cons (.var 3) .nil))))) .nil)
theorem put_app {B : List O} {bs : List Nat} {o o' : O} {c : Bool} (hb : bs.headD 0 ≤ B.length) : (⟨B ++ [o], bs, false⟩ : Sto).put B.length o' c = ⟨B ++ [o'], bs, false⟩ := by
  cases c with
  | true => simp only [Sto.put, Sto.esc, set_app0, List.set_cons_zero]
  | false =>
    have : Nat.blt B.length (bs.headD 0) = false := by rw [← Bool.not_eq_true]; intro z; have := Nat.le_of_ble_eq_true z; omega
    simp only [Sto.put, Sto.esc, set_app0, List.set_cons_zero, this, Bool.or_false]
section
variable {F : Nat → Fn} {B : List O} {bs : List Nat} {ρ : En} {s : Src} {α β : Type}
theorem comp1_go {g : Gv} {ft fe : Ev} {l : List α} {enc : α → D} {Q : Unit → Sto → Prop} (p : α → Bool) (f : α → D) (hs : s.Of B (l.map enc)) (hb : bs.headD 0 ≤ B.length)
    (step : ∀ x ∈ l, ∀ acc, (g (enc x) ρ ⟨B ++ [.lst acc], bs, false⟩).To fun ρ1 S1 => (ft ρ1 S1).To fun b S2 => tb b fun c => c = p x ∧ S2 = ⟨B ++ [.lst acc], bs, false⟩ ∧ (p x = true → (fe ρ1 ⟨B ++ [.lst acc], bs, false⟩).To fun y S3 => y = f x ∧ S3 = ⟨B ++ [.lst acc], bs, false⟩)) :
    ∀ (rest done : List α) (m : Nat) (acc : List D), l = done ++ rest → rest.length < m → acc.length + rest.length ≤ 16777216 → Q () ⟨B ++ [.lst (acc ++ (rest.filter p).map f)], bs, false⟩ → (comp1L s B.length g ft fe ρ m done.length ⟨B ++ [.lst acc], bs, false⟩).To Q
  | [], done, 0, acc, e, hm, _, _ => absurd hm (by simp)
  | d :: rest, done, 0, acc, e, hm, _, _ => absurd hm (by simp)
  | [], done, m + 1, acc, e, hm, hc, q => by
    have hn := hs [.lst acc] bs false done.length (by simp [e])
    rw [comp1L, hn, e]
    simpa [to_ok] using q
  | d :: rest, done, m + 1, acc, e, hm, hc, q => by
    have hn := hs [.lst acc] bs false done.length (by simp [e])
    have hd : (l.map enc)[done.length]? = some (enc d) := by rw [e]; simp
    have h1 := step d (by rw [e]; simp) acc
    rw [comp1L, hn, hd]
    dsimp only
    have go : ∀ acc2, acc2.length ≤ acc.length + 1 → Q () ⟨B ++ [.lst (acc2 ++ (rest.filter p).map f)], bs, false⟩ → (comp1L s B.length g ft fe ρ m (done.length + 1) ⟨B ++ [.lst acc2], bs, false⟩).To Q := fun acc2 ha q2 => by
      have := comp1_go p f hs hb step rest (done ++ [d]) m acc2 (by simp [e]) (by simp at hm; omega) (by simp only [List.length_cons] at hc; omega) q2
      simpa using this
    cases h2 : g (enc d) ρ ⟨B ++ [.lst acc], bs, false⟩ with
    | bad => rw [h2] at h1; exact h1.elim
    | ok ρ1 S1 =>
      rw [h2, to_ok] at h1
      dsimp only
      cases h3 : ft ρ1 S1 with
      | bad => rw [h3] at h1; exact h1.elim
      | ok b S2 =>
        rw [h3, to_ok] at h1
        cases b with
        | bl c =>
          rw [tb_bl] at h1
          obtain ⟨rfl, rfl, h5⟩ := h1
          dsimp only
          cases hp : p d with
          | false =>
            dsimp only
            rw [List.filter_cons_of_neg (by simp [hp])] at q
            exact go acc (by omega) q
          | true =>
            dsimp only
            have h6 := h5 hp
            cases h4 : fe ρ1 ⟨B ++ [.lst acc], bs, false⟩ with
            | bad => rw [h4] at h6; exact h6.elim
            | ok y S3 =>
              rw [h4, to_ok] at h6
              obtain ⟨rfl, rfl⟩ := h6
              dsimp only
              rw [get_app0, List.getElem?_cons_zero]
              dsimp only
              have hf : fits (acc.length + 1) = true := Nat.ble_eq_true_of_le (by simp only [List.length_cons] at hc; omega)
              rw [hf, put_app hb]
              rw [List.filter_cons_of_pos (by simp [hp])] at q
              refine go _ (by simp) ?_
              simpa using q
        | _ => exact h1.elim
theorem comp2_go {g : Gv} {ft : Ev} {fi1 : Iv} {vs1 : List Nat} {g1 : Gv} {ft1 fe : Ev} {l : List α} {enc : α → D} {enc1 : β → D} {Q : D → Sto → Prop} (l1 : α → List β) (p : α → β → Bool) (f : α → β → D) (hs : s.Of B (l.map enc)) (hb : bs.headD 0 ≤ B.length)
    (step : ∀ x ∈ l, ∀ acc, (g (enc x) ρ ⟨B ++ [.lst acc], bs, false⟩).To fun ρ1 S1 => (ft ρ1 S1).To fun b S2 => tb b fun c => c = true ∧ (fi1 ρ1 S2).To fun s1 S3 => S3 = ⟨B ++ [.lst acc], bs, false⟩ ∧ s1.Of B ((l1 x).map enc1) ∧ (l1 x).length ≤ s1.turns ⟨B ++ [.lst acc], bs, false⟩ ∧
      ∀ z ∈ l1 x, ∀ acc', (g1 (enc1 z) (wipeE ρ1 vs1) ⟨B ++ [.lst acc'], bs, false⟩).To fun ρ2 S4 => (ft1 ρ2 S4).To fun b S5 => tb b fun c => c = p x z ∧ S5 = ⟨B ++ [.lst acc'], bs, false⟩ ∧ (p x z = true → (fe ρ2 ⟨B ++ [.lst acc'], bs, false⟩).To fun y S6 => y = f x z ∧ S6 = ⟨B ++ [.lst acc'], bs, false⟩)) :
    ∀ (rest done : List α) (m : Nat) (acc : List D), l = done ++ rest → rest.length < m → acc.length + (rest.map fun x => (l1 x).length).sum ≤ 16777216 → Q (.ref B.length) ⟨B ++ [.lst (acc ++ rest.flatMap fun x => ((l1 x).filter (p x)).map (f x))], bs, false⟩ → (comp2L s B.length g ft fi1 vs1 g1 ft1 fe ρ m done.length ⟨B ++ [.lst acc], bs, false⟩).To Q
  | [], done, 0, acc, e, hm, _, _ => absurd hm (by simp)
  | d :: rest, done, 0, acc, e, hm, _, _ => absurd hm (by simp)
  | [], done, m + 1, acc, e, hm, hc, q => by
    have hn := hs [.lst acc] bs false done.length (by simp [e])
    rw [comp2L, hn, e]
    simpa [to_ok] using q
  | d :: rest, done, m + 1, acc, e, hm, hc, q => by
    have hn := hs [.lst acc] bs false done.length (by simp [e])
    have hd : (l.map enc)[done.length]? = some (enc d) := by rw [e]; simp
    have h1 := step d (by rw [e]; simp) acc
    rw [comp2L, hn, hd]
    dsimp only
    simp only [List.map_cons, List.sum_cons] at hc
    cases h2 : g (enc d) ρ ⟨B ++ [.lst acc], bs, false⟩ with
    | bad => rw [h2] at h1; exact h1.elim
    | ok ρ1 S1 =>
      rw [h2, to_ok] at h1
      dsimp only
      cases h3 : ft ρ1 S1 with
      | bad => rw [h3] at h1; exact h1.elim
      | ok b S2 =>
        rw [h3, to_ok] at h1
        cases b with
        | bl c =>
          rw [tb_bl] at h1
          obtain ⟨rfl, h5⟩ := h1
          dsimp only
          cases h4 : fi1 ρ1 S2 with
          | bad => rw [h4] at h5; exact h5.elim
          | ok s1 S3 =>
            rw [h4, to_ok] at h5
            obtain ⟨rfl, h6, h7, h8⟩ := h5
            dsimp only
            have h9 := comp1_go (Q := fun _ S => S = ⟨B ++ [.lst (acc ++ ((l1 d).filter (p d)).map (f d))], bs, false⟩) (p d) (f d) h6 hb h8 (l1 d) [] (s1.turns ⟨B ++ [.lst acc], bs, false⟩ + 1) acc rfl (by omega) (by omega) rfl
            cases h10 : comp1L s1 B.length g1 ft1 fe (wipeE ρ1 vs1) (s1.turns ⟨B ++ [.lst acc], bs, false⟩ + 1) 0 ⟨B ++ [.lst acc], bs, false⟩ with
            | bad => rw [show ([] : List β).length = 0 from rfl, h10] at h9; exact h9.elim
            | ok u S4 =>
              rw [show ([] : List β).length = 0 from rfl, h10, to_ok] at h9
              subst h9
              dsimp only
              have hlen := List.length_filter_le (p d) (l1 d)
              have := comp2_go l1 p f hs hb step rest (done ++ [d]) m (acc ++ ((l1 d).filter (p d)).map (f d)) (by simp [e]) (by simp at hm; omega) (by simp only [List.length_append, List.length_map]; omega) (by simpa using q)
              simpa using this
        | _ => exact h1.elim
theorem e_comp2 {Q : D → Sto → Prop} {S : Sto} {it it1 : I} {vs vs1 : List Nat} {g g1 : G} {t t1 e : E} : (ev F (.comp2 it vs g t it1 vs1 g1 t1 e) ρ S).To Q = (evi F it ρ S).To fun s S1 => (comp2L s S1.len (gv g) (ev F t) (evi F it1) vs1 (gv g1) (ev F t1) (ev F e) (wipeE ρ vs) (s.turns S1 + 1) 0 (S1.add (.lst []))).To Q := by
  show (evComp2 (evi F it) vs (gv g) (ev F t) (evi F it1) vs1 (gv g1) (ev F t1) (ev F e) ρ S).To Q = _
  unfold evComp2; cases evi F it ρ S <;> rfl
end
end Sw

/-! R6: how many links there are; one_longer. -/
namespace Sw
open PySem L2 Enc
local macro_rules | `(tactic| simp_arith [$xs,*]) => `(tactic| simp only [↓e_lit, ↓e_var, ↓e_bin, ↓e_cmp, ↓e_chain, ↓e_neg, ↓e_not, ↓e_and, ↓e_or, ↓e_ite, ↓e_tup, ↓e_lst, ↓e_dnewT, ↓e_dnewF, ↓e_ix, ↓e_sl, ↓p_none, ↓p_some, ↓e_call, ↓e_bi, ↓e_isi, ↓e_app, ↓e_pop, ↓e_get, ↓e_rev, ↓e_lenum, ↓e_dispk, ↓op_srcR, ↓op_enumR, ↓op_zipR, turns_live, turns_enumL, turns_zipL, turns_items, turns_enumI, turns_zipI, turns_range, Option.bind_some, Option.elim_some, ↓e_comp, ↓s_wh, ↓a_nil, ↓a_cons, ↓a_star, ↓g_name, ↓g_tup, ↓gs_nil, ↓gs_cons, ↓s_nil, ↓s_cons, ↓s_expr, ↓s_ret, ↓s_asg, ↓s_aug, ↓s_put, ↓s_ite, ↓s_pass, ↓s_brk, ↓s_cont, ↓i_e, ↓i_r1, ↓i_r2, ↓i_enum, ↓i_zip, ↓s_fo, ↓look_z, ↓look_s, ↓tb_bl, ↓ti_int, ↓tr_ref, ↓tt_tup, ↓op_some, ↓to_ok, ↓st_nx, ↓st_rt, ↓st_bk, ↓st_ct, List.set_cons_zero, List.set_cons_succ, boD, coD, biN, aoD, ↓p_addI, ↓p_addT, ↓p_addL, ↓p_sub, ↓p_mul, ↓p_fdiv, ↓p_mod, ↓p_pow, ↓p_iaddI, ↓p_iaddL, ↓p_isub, ↓p_lt, ↓p_gt, ↓p_le, ↓p_ge, ↓p_eq, ↓p_ne, ↓p_in, ↓p_notIn, ↓q_int, ↓p_isNN, ↓p_isTN, ↓p_isIN, ↓p_isRN, ↓p_isntNN, ↓p_isntTN, ↓p_isntIN, ↓p_isntRN, ↓p_isBB, ↓p_isntBB, ↓p_ixT, ↓p_ixR, ↓p_slT, ↓p_slR, ↓p_lenT, ↓p_lenR, ↓p_intI, ↓p_intB, ↓p_min, ↓p_max, ↓p_bl, ↓p_sum, ↓p_tupleT, ↓p_tupleR, ↓p_listT, ↓p_listR, ↓p_app, ↓p_pop0, ↓p_popI, ↓p_get1, ↓p_revT, ↓p_revR, ↓p_isi, ↓op_dput, ↓op_list, src_tup, enum_tup, zip_tup, seqO_lst, seqO_frz, lstO_lst, lenO_lst, lenO_frz, ixO_lst, isLst_lst, seqOf_tup, decide_eq_true_eq, List.length_cons, List.length_nil, Nat.beq, true_and, Nat.reduceAdd, List.getElem?_cons_zero, List.getElem?_cons_succ, get_app0, get_app, set_app0, set_app, List.append_assoc, List.cons_append, List.nil_append, List.length_append, wipeE, ↓op_map, ↓atI_map, atI_0, atI_1, atI_2, atI_3, List.length_map, st_enter, st_add, st_putT, st_len, bw_int, bw_bl, bw_non, bw_str, bw_tup, bws_nil, bws_cons, Enc.flat, flats, Bool.and_true, Bool.and_self, isT_tup, sub_TT, List.any_cons, List.any_nil, Bool.or_false, Bool.not_true, Bool.not_false, if_true, if_false, Bool.false_eq_true, decide_true, decide_false, $xs,*])
theorem nodup_le {α : Type} [DecidableEq α] : ∀ {l m : List α}, l.Nodup → (∀ x ∈ l, x ∈ m) → l.length ≤ m.length
  | [], _, _, _ => Nat.zero_le _
  | x :: r, m, h1, h2 => by
    obtain ⟨a, b⟩ := List.nodup_cons.mp h1
    have := nodup_le (m := m.erase x) b fun z hz => (List.mem_erase_of_ne (fun (e : z = x) => a (e ▸ hz))).mpr (h2 z (by simp [hz]))
    have hm := h2 x (by simp)
    rw [List.length_erase_of_mem hm] at this
    have := List.length_pos_of_mem hm
    simp only [List.length_cons]
    omega
theorem mem_startEnds {n : Nat} {e : End} (h0 : 0 ≤ e.1) (h1 : e.1 < n) (h2 : isBit e.2) : e ∈ startEnds n := by
  obtain ⟨a, b⟩ := e
  obtain ⟨i, rfl⟩ := Int.eq_ofNat_of_zero_le h0
  have hi : i < n := Int.ofNat_lt.mp h1
  simp only [startEnds, List.mem_flatMap, List.mem_range]
  refine ⟨i, hi, ?_⟩
  rcases h2 with h2 | h2
  · have h2 : b = 0 := h2
    subst h2; simp
  · have h2 : b = 1 := h2
    subst h2; simp
theorem rows_15 {y : Lay} (h : y.Ok) : y.rows.length ≤ 15 := by
  have key : ∀ (js : List (End × List (End × Int))) (n : Nat), (∀ j ∈ js, j.2.length ≤ 3) → ((js.zipIdx n).flatMap fun p => rowsOf p.1 p.2).length + js.length = (allEnds js).length ∧ ((js.zipIdx n).flatMap fun p => rowsOf p.1 p.2).length ≤ 3 * js.length := by
    intro js
    induction js with
    | nil => intro n _; simp [allEnds]
    | cons j js ih =>
      intro n hj
      have h1 := ih (n + 1) fun j h => hj j (List.mem_cons_of_mem _ h)
      have h2 := hj j List.mem_cons_self
      have e : allEnds (j :: js) = endsOf j ++ allEnds js := by simp [allEnds]
      rw [e]
      simp only [List.zipIdx_cons, List.flatMap_cons, List.length_append, rowsOf, List.length_map, List.length_zipIdx, List.length_cons, endsOf] at h1 ⊢
      omega
  have h1 := key y.joints 0 fun j hj => (h.b1 j hj).2
  have h2 := nodup_le h.nd fun e he => mem_startEnds (h.en e he).1 (h.en e he).2.1 (h.en e he).2.2
  rw [startEnds_len] at h2
  have h3 := h.n10
  simp only [Lay.rows]
  omega
theorem free_15 {y : Lay} (h : y.Ok) : y.free.length ≤ 15 := by
  unfold Lay.free
  rw [List.length_map]
  exact Nat.le_trans (List.length_filter_le _ _) (rows_15 h)
theorem comb_len : ∀ (k : Nat) (s : List Link), (comb k s).length ≤ 2 ^ s.length
  | 0, s => by simp only [comb, List.length_singleton]; exact Nat.one_le_two_pow
  | k + 1, [] => by simp [comb]
  | k + 1, a :: r => by
    have h1 := comb_len k r
    have h2 := comb_len (k + 1) r
    simp only [comb, List.length_append, List.length_map, List.length_cons, Nat.pow_succ]
    omega
theorem atI_last {α : Type} {l : List α} (h : l ≠ []) : atI l (-1) = some (l.getLast h) := by
  have hp := List.length_pos_iff.mpr h
  unfold atI ixN
  rw [if_neg (by omega)]
  split
  · simp only [Option.bind_some]
    have e : (-1 + (l.length : Int)).toNat = l.length - 1 := by omega
    rw [e, List.getLast_eq_getElem]
    exact List.getElem?_eq_getElem (by omega)
  · omega
def SpLonger (f : Fn) : Prop := ∀ (S : Sto) (n k : Nat) (rows : List (List Link)) (s : List Link), S.dirty = false → S.objs[n]? = some (.lst (rows.map enc)) → S.objs[k]? = some (.lst (s.map enc)) → rows.length * s.length ≤ 16777216 → (∀ r ∈ rows, r.length ≤ 1000) → f [.ref n, .ref k] S = .ok (.ref S.len) (S.add (.lst ((longer rows s).map enc)))
theorem spLonger (F : Nat → Fn) : SpLonger (liftF (fnSem 4 2 (svs F b_one_longer))) := fun S n k rows s h0 h1 h2 h3 h4 => by
  refine lift_new ?_ (fun hb => by simp [D.blws, D.blw] at hb) (flats _ _)
  obtain ⟨B, bs, t⟩ := S
  obtain rfl : t = false := h0
  refine Res.To.eq (fn_to rfl ?_)
  generalize hQ : (fun (b : D) (S_1 : Sto) => b = .ref (Sto.len ⟨B, bs, false⟩) ∧ S_1 = Sto.add ⟨B, bs, false⟩ (.lst ((longer rows s).map enc))) = Q
  have h1 : B[n]? = some (.lst (rows.map enc)) := h1
  have h2 : B[k]? = some (.lst (s.map enc)) := h2
  simp only [b_one_longer, List.map, List.cons_append, List.nil_append, List.replicate]
  simp_arith [↓e_comp2, h1, h2]
  have hlen : B.length = (⟨B, bs, false⟩ : Sto).len := rfl
  refine comp2_go (B := B) (bs := B.length :: bs) (l := rows) (enc := enc) (enc1 := enc) (fun _ => s) (fun row l => decide (row = []) || (row.getLast?.elim false fun z => lkLt z l)) (fun row l => enc (row ++ [l])) (of_live h1 rfl) (by simp) ?_ rows [] (rows.length + 1) [] rfl (by simp) ?_ ?_
  · intro row hrow acc
    have er : enc row = .tup (row.map enc) := rfl
    simp_arith []
    have h2' : ∀ L : List O, (B ++ L)[k]? = some (.lst (s.map enc)) := fun L => by rw [List.getElem?_append_left (List.getElem?_eq_some_iff.mp h2).1, h2]
    simp_arith [h2', h2]
    refine ⟨of_live h2 rfl, by simp, ?_⟩
    intro l hl acc'
    have e0 : D.tup [] = enc ([] : List Link) := rfl
    simp_arith [e0]
    have hrl := h4 row hrow
    have hseq : ∀ S : Sto, seqOf S (enc row) = some (row.map enc) := fun S => rfl
    have hf : fits (row.length + 1) = true := Nat.ble_eq_true_of_le (by omega)
    have hv : D.tup (row.map enc ++ [enc l]) = enc (row ++ [l]) := by rw [enc_list, List.map_append]; rfl
    refine ⟨rfl, ?_⟩
    rw [q_enc (by decide), op_some]
    by_cases hr : row = []
    · rw [if_pos (by simp [hr])]
      refine ⟨by simp [hr], fun _ => ?_⟩
      rw [hseq, op_some, List.length_map]
      exact ⟨hf, hv, trivial⟩
    · rw [if_neg (by simp [hr]), er, p_ixT]
      have ea : atI (row.map enc) (-1) = some (enc (row.getLast hr)) := by
        rw [atI_map, atI_last hr]; rfl
      rw [ea, op_some, p_gtK, tb_bl]
      have eg : row.getLast? = some (row.getLast hr) := List.getLast?_eq_getLast hr
      refine ⟨by simp [hr, eg], rfl, fun _ => ?_⟩
      rw [← er, hseq, op_some, List.length_map]
      exact ⟨hf, hv, trivial⟩
  · rw [List.map_const', List.sum_replicate_nat]
    simpa using h3
  · have e5 : ([] : List D) ++ (rows.flatMap fun row => (s.filter fun l => decide (row = []) || (row.getLast?.elim false fun z => lkLt z l)).map fun l => (enc (row ++ [l]) : D)) = (longer rows s).map enc := by
      unfold longer ext
      rw [List.nil_append, List.map_flatMap]
      refine flat_congr fun row _ => ?_
      rw [List.map_map]
      rfl
    rw [e5, ret_list (o := .lst ((longer rows s).map enc)) rfl (by simp [Sto.len]) get_app0 (flats _ _), ← hQ]
    exact ⟨rfl, by simp [Sto.len, Sto.add]⟩
end Sw

/-! R7: least_cuts. -/
namespace Sw
open PySem L2 Enc
local macro_rules | `(tactic| simp_arith [$xs,*]) => `(tactic| simp only [↓e_lit, ↓e_var, ↓e_bin, ↓e_cmp, ↓e_chain, ↓e_neg, ↓e_not, ↓e_and, ↓e_or, ↓e_ite, ↓e_tup, ↓e_lst, ↓e_dnewT, ↓e_dnewF, ↓e_ix, ↓e_sl, ↓p_none, ↓p_some, ↓e_call, ↓e_bi, ↓e_isi, ↓e_app, ↓e_pop, ↓e_get, ↓e_rev, ↓e_lenum, ↓e_dispk, ↓op_srcR, ↓op_enumR, ↓op_zipR, turns_live, turns_enumL, turns_zipL, turns_items, turns_enumI, turns_zipI, turns_range, Option.bind_some, Option.elim_some, ↓e_comp, ↓s_wh, ↓a_nil, ↓a_cons, ↓a_star, ↓g_name, ↓g_tup, ↓gs_nil, ↓gs_cons, ↓s_nil, ↓s_cons, ↓s_expr, ↓s_ret, ↓s_asg, ↓s_aug, ↓s_put, ↓s_ite, ↓s_pass, ↓s_brk, ↓s_cont, ↓i_e, ↓i_r1, ↓i_r2, ↓i_enum, ↓i_zip, ↓s_fo, ↓look_z, ↓look_s, ↓tb_bl, ↓ti_int, ↓tr_ref, ↓tt_tup, ↓op_some, ↓to_ok, ↓st_nx, ↓st_rt, ↓st_bk, ↓st_ct, List.set_cons_zero, List.set_cons_succ, boD, coD, biN, aoD, ↓p_addI, ↓p_addT, ↓p_addL, ↓p_sub, ↓p_mul, ↓p_fdiv, ↓p_mod, ↓p_pow, ↓p_iaddI, ↓p_iaddL, ↓p_isub, ↓p_lt, ↓p_gt, ↓p_le, ↓p_ge, ↓p_eq, ↓p_ne, ↓p_in, ↓p_notIn, ↓q_int, ↓p_isNN, ↓p_isTN, ↓p_isIN, ↓p_isRN, ↓p_isntNN, ↓p_isntTN, ↓p_isntIN, ↓p_isntRN, ↓p_isBB, ↓p_isntBB, ↓p_ixT, ↓p_ixR, ↓p_slT, ↓p_slR, ↓p_lenT, ↓p_lenR, ↓p_intI, ↓p_intB, ↓p_min, ↓p_max, ↓p_bl, ↓p_sum, ↓p_tupleT, ↓p_tupleR, ↓p_listT, ↓p_listR, ↓p_app, ↓p_pop0, ↓p_popI, ↓p_get1, ↓p_revT, ↓p_revR, ↓p_isi, ↓op_dput, ↓op_list, src_tup, enum_tup, zip_tup, seqO_lst, seqO_frz, lstO_lst, lenO_lst, lenO_frz, ixO_lst, isLst_lst, seqOf_tup, decide_eq_true_eq, List.length_cons, List.length_nil, Nat.beq, true_and, Nat.reduceAdd, List.getElem?_cons_zero, List.getElem?_cons_succ, get_app0, get_app, set_app0, set_app, List.append_assoc, List.cons_append, List.nil_append, List.length_append, wipeE, ↓op_map, ↓atI_map, atI_0, atI_1, atI_2, atI_3, List.length_map, st_enter, st_add, st_putT, st_len, bw_int, bw_bl, bw_non, bw_str, bw_tup, bws_nil, bws_cons, Enc.flat, flats, Bool.and_true, Bool.and_self, isT_tup, sub_TT, List.any_cons, List.any_nil, Bool.or_false, Bool.not_true, Bool.not_false, if_true, if_false, Bool.false_eq_true, decide_true, decide_false, $xs,*])
def b_least_cuts (i_need_layout i_links_of i_is_cut_in i_signs_in i_cut_by i_one_longer : Nat) : Ts := (.cons (.expr (.call i_need_layout (.cons (.var 0) .nil))) (.cons (.asg (.comp (.e (.call i_links_of (.cons (.var 0) .nil))) [4] (.name 4) (.not (.call i_is_cut_in (.cons (.var 0) (.cons (.var 4) .nil)))) (.var 4)) (.name 1)) (.cons (.asg (.lst (.cons (.tup .nil) .nil)) (.name 2)) (.cons (.wh 200 (.lit (.bl true)) (.cons (.fo (.e (.var 2)) (.name 3) (.cons (.ite (.cmp .isNot (.call i_signs_in (.cons (.call i_cut_by (.cons (.var 0) (.cons (.var 3) .nil))) (.cons (.tup .nil) .nil))) (.lit .non)) (.cons (.ret (.var 3)) .nil) .nil) .nil)) (.cons (.asg (.call i_one_longer (.cons (.var 2) (.cons (.var 1) .nil))) (.name 2)) .nil))) .nil))))
theorem rwLt_asym : ∀ {a b : List Link}, rwLt a b = true → rwLt b a = false
  | [], [], h => by simp [rwLt] at h
  | [], _ :: _, _ => rfl
  | _ :: _, [], h => by simp [rwLt] at h
  | a :: r, b :: t, h => by
    simp only [rwLt] at h ⊢
    by_cases e : a = b
    · subst e
      rw [if_pos rfl] at h ⊢
      exact rwLt_asym h
    · rw [if_neg e] at h
      rw [if_neg (fun e' => e e'.symm)]
      exact lkLt_asym h
theorem least_ex {s : List Link} {p : List Link → Bool} (hs : Inc s) (h : p s = true) : ∃ c, Least s p c := by
  have key : ∀ k : Nat, (∀ j < k, ∀ t ∈ comb j s, p t = false) ∨ ∃ c, Least s p c := by
    intro k
    induction k with
    | zero => exact .inl fun j hj => absurd hj (by omega)
    | succ k ih =>
      rcases ih with ih | ih
      · cases e : (comb k s).find? p with
        | some c => exact .inr ⟨c, least_of_layer hs e ih⟩
        | none =>
          refine .inl fun j hj t ht => ?_
          rcases Nat.lt_succ_iff_lt_or_eq.mp hj with h1 | h1
          · exact ih j h1 t ht
          · subst h1
            have := List.find?_eq_none.mp e t ht
            simpa using this
      · exact .inr ih
  rcases key (s.length + 1) with h1 | h1
  · have := h1 s.length (by omega) s (comb_mem.mpr ⟨List.Sublist.refl s, rfl⟩)
    rw [h] at this; cases this
  · exact h1
/-- one step through a layer: what fits first is the least -/
theorem Least.hit {s : List Link} {p : List Link → Bool} {c d : List Link} {done rest : List (List Link)} {j : Nat} (hs : Inc s) (h : Least s p c) (hj : j ≤ c.length) (e : comb j s = done ++ d :: rest) (hd : ∀ t ∈ done, p t = false) (hp : p d = true) : d = c := by
  have hm : d ∈ comb j s := by rw [e]; simp
  obtain ⟨h1, h2⟩ := comb_mem.mp hm
  rcases h.low d h1 hp with h3 | h3 | ⟨h3, h4⟩
  · exact h3
  · omega
  · have hc : c ∈ comb j s := comb_mem.mpr ⟨h.sub, by omega⟩
    have hpw := comb_inc (k := j) hs
    rw [e] at hc hpw
    rcases List.mem_append.mp hc with h5 | h5
    · have := hd c h5; rw [h.fit] at this; cases this
    · rcases List.mem_cons.mp h5 with h5 | h5
      · exact h5.symm
      · have := (List.pairwise_cons.mp (List.pairwise_append.mp hpw).2.1).1 c h5
        rw [rwLt_asym this] at h4; cases h4
theorem Least.on {s : List Link} {p : List Link → Bool} {c : List Link} {j : Nat} (h : Least s p c) (hj : j ≤ c.length) (hd : ∀ t ∈ comb j s, p t = false) : j < c.length := by
  rcases Nat.lt_or_eq_of_le hj with h1 | h1
  · exact h1
  · have := hd c (comb_mem.mpr ⟨h.sub, h1.symm⟩)
    rw [h.fit] at this; cases this
def SpLeastCuts (f : Fn) : Prop := ∀ (S : Sto) (y : Lay) (c : List Link), y.Ok → Least y.free (fitB y) c → f [y.d] S = .ok (enc c) S
theorem spLeastCuts (F : Nat → Fn) (iN iL iC iS iB iO : Nat) (hN : SpNeed (F iN)) (hL : SpLinks (F iL)) (hC : SpCutIn (F iC)) (hS : SpSignsIn (F iS)) (hB : SpCutBy (F iB)) (hO : SpLonger (F iO)) : SpLeastCuts (liftF (fnSem 5 1 (svs F (b_least_cuts iN iL iC iS iB iO)))) := fun S y c h hc => by
  refine lift_flat rfl (by simp [bws_cons, Lay.flat, bws_nil]) (Enc.flat _ _) ?_
  have eN := fun S => hN S y h
  have eL := fun S => hL S y h
  have eC : ∀ (S : Sto) (r : Rw), r ∈ y.rows → F iC [y.d, enc r.1] S = .ok (.bl (decide (r.2.2.2 = 1))) S := fun S r hr => hC S y r hr
  have eB : ∀ (S : Sto) (t : List Link), F iB [y.d, enc t] S = .ok (y.cut t).d S := fun S t => hB S y t h
  have eS : ∀ (S : Sto) (t : List Link), S.dirty = false → F iS [(y.cut t).d, .tup []] S = .ok (optD (leastSigns (y.cut t) [])) S := fun S t hS' => hS S (y.cut t) (.tup []) [] hS' (h.cut t) rfl
  have h15 := free_15 h
  have r15 := rows_15 h
  have hinc := free_inc y
  have hcl : c.length ≤ 15 := Nat.le_trans hc.sub.length_le h15
  generalize y.d = dy at *
  simp only [b_least_cuts, List.map, List.cons_append, List.nil_append, List.replicate]
  simp_arith [eN, eL]
  have hlinks : y.links.map enc = y.rows.map fun r => enc r.1 := by rw [Lay.links, List.map_map]; rfl
  rw [hlinks]
  refine comp_pure' (α := Rw) (enc := fun r => enc r.1) (B := [.lst (y.rows.map fun r => enc r.1)]) (bs := [0]) (l := y.rows) (fun r => !decide (r.2.2.2 = 1)) (fun r => enc r.1) (of_live (o := .lst (y.rows.map fun r => enc r.1)) rfl rfl) ?a1 rfl ?a2 (by omega) (by simp) (fun r hr acc => ?a3) ?a4
  case a1 => rfl
  case a2 => simp [Lay.links]
  case a3 =>
    simp_arith [eC _ r hr]
    exact fun _ => trivial
  case a4 =>
    have ef : (y.rows.filter fun r => !decide (r.2.2.2 = 1)).map (fun r => enc r.1) = y.free.map enc := by
      unfold Lay.free
      rw [List.map_map]
      congr 1
      refine List.filter_congr fun r hr => ?_
      rcases row_bit h hr with e | e <;> simp [e]
    rw [ef]
    simp_arith []
    refine ⟨rfl, rfl, ?_⟩
    obtain ⟨J, hJ⟩ : ∃ J : Nat → En → Sto → Prop, ∀ m ρ S, J m ρ S ↔ ∃ (j n : Nat) (z3 z4 : Option D) (L : List O), m + j = c.length + 1 ∧ j ≤ c.length ∧ ρ = [some dy, some (.ref 1), some (.ref n), z3, z4] ∧ S = ⟨.lst (y.rows.map fun r => enc r.1) :: .lst (y.free.map enc) :: L, [0], false⟩ ∧ S.objs[n]? = some (.lst ((comb j y.free).map enc)) := ⟨_, fun _ _ _ => Iff.rfl⟩
    refine while_go J ?b1 200 (c.length + 1) _ _ (by omega) ((hJ _ _ _).mpr ⟨0, 2, _, _, [O.lst [.tup []]], by omega, by omega, rfl, rfl, by rw [comb.eq_1]; rfl⟩)
    intro m ρ S hI
    obtain ⟨j, n, z3, z4, L, hm, hjc, hρ, hS', hn⟩ := (hJ _ _ _).mp hI
    obtain ⟨m', rfl⟩ : ∃ m', m = m' + 1 := ⟨m - 1, by omega⟩
    subst hρ hS'
    simp_arith []
    refine ⟨m', rfl, ?_⟩
    have hcl2 := comb_len j y.free
    have hcl3 : 2 ^ y.free.length ≤ 2 ^ 15 := Nat.pow_le_pow_right (by omega) h15
    have hn' : (O.lst (y.rows.map fun r => enc r.1) :: O.lst (y.free.map enc) :: L)[n]? = some (.lst ((comb j y.free).map enc)) := hn
    simp_arith [hn']
    obtain ⟨I, hI⟩ : ∃ I : List (List Link) → En → Sto → Prop, ∀ done ρ S, I done ρ S ↔ ∃ z3 : Option D, ρ = [some dy, some (.ref 1), some (.ref n), z3, z4] ∧ S = ⟨.lst (y.rows.map fun r => enc r.1) :: .lst (y.free.map enc) :: L, [0], false⟩ ∧ ∀ t ∈ done, fitB y t = false := ⟨_, fun _ _ _ => Iff.rfl⟩
    refine for_of (B := .lst (y.rows.map fun r => enc r.1) :: .lst (y.free.map enc) :: L) (l := comb j y.free) (enc := enc) ?c1 ?c2 I ?c3 ?c4 ?c5 ?c6
    case c1 => exact of_live hn' rfl
    case c2 => simp
    case c3 => exact (hI _ _ _).mpr ⟨_, rfl, rfl, by simp⟩
    case c4 =>
      intro done ρ S h1
      obtain ⟨_, _, hS1, _⟩ := (hI _ _ _).mp h1
      exact ⟨[], by rw [hS1]; simp⟩
    case c5 =>
      intro done t rest ρ S e h1
      obtain ⟨z3, hρ, hS1, hd⟩ := (hI _ _ _).mp h1
      subst hρ hS1
      cases hfs : leastSigns (y.cut t) [] with
      | none =>
        have hfit : fitB y t = false := by unfold fitB; rw [hfs]; rfl
        have e1 : ∀ S : Sto, S.dirty = false → F iS [(y.cut t).d, .tup []] S = .ok .non S := fun S hS => by rw [eS S t hS, hfs]; rfl
        simp_arith [eB, e1]
        refine ⟨rfl, (hI _ _ _).mpr ⟨_, rfl, rfl, fun u hu => ?_⟩⟩
        rcases List.mem_append.mp hu with hu | hu
        · exact hd u hu
        · rw [List.mem_singleton.mp hu]; exact hfit
      | some sg =>
        have hfit : fitB y t = true := by unfold fitB; rw [hfs]; rfl
        have ht : t = c := hc.hit hinc hjc e hd hfit
        have e1 : ∀ S : Sto, S.dirty = false → F iS [(y.cut t).d, .tup []] S = .ok (.tup (sg.map enc)) S := fun S hS => by rw [eS S t hS, hfs]; rfl
        simp_arith [eB, e1]
        exact ⟨rfl, by rw [ht]⟩
    case c6 =>
      intro ρ S h1
      obtain ⟨z3, hρ, hS1, hd⟩ := (hI _ _ _).mp h1
      subst hρ hS1
      have hlt := hc.on hjc hd
      have eO := hO ⟨.lst (y.rows.map fun r => enc r.1) :: .lst (y.free.map enc) :: L, [0], false⟩ n 1 (comb j y.free) y.free rfl hn' rfl (by have := Nat.mul_le_mul (Nat.le_trans hcl2 hcl3) h15; omega) (fun r hr => by have := (comb_mem.mp hr).2; omega)
      rw [longer_comb hinc] at eO
      simp_arith [eO]
      exact (hJ _ _ _).mpr ⟨j + 1, _, _, _, _, by omega, by omega, rfl, rfl, by simp⟩
end Sw

/-! R8: sorted of typed data; the order of rows with their lengths. -/
namespace Sw
open PySem L2 Enc
local macro_rules | `(tactic| simp_arith [$xs,*]) => `(tactic| simp only [↓e_lit, ↓e_var, ↓e_bin, ↓e_cmp, ↓e_chain, ↓e_neg, ↓e_not, ↓e_and, ↓e_or, ↓e_ite, ↓e_tup, ↓e_lst, ↓e_dnewT, ↓e_dnewF, ↓e_ix, ↓e_sl, ↓p_none, ↓p_some, ↓e_call, ↓e_bi, ↓e_isi, ↓e_app, ↓e_pop, ↓e_get, ↓e_rev, ↓e_lenum, ↓e_dispk, ↓op_srcR, ↓op_enumR, ↓op_zipR, turns_live, turns_enumL, turns_zipL, turns_items, turns_enumI, turns_zipI, turns_range, Option.bind_some, Option.elim_some, ↓e_comp, ↓s_wh, ↓a_nil, ↓a_cons, ↓a_star, ↓g_name, ↓g_tup, ↓gs_nil, ↓gs_cons, ↓s_nil, ↓s_cons, ↓s_expr, ↓s_ret, ↓s_asg, ↓s_aug, ↓s_put, ↓s_ite, ↓s_pass, ↓s_brk, ↓s_cont, ↓i_e, ↓i_r1, ↓i_r2, ↓i_enum, ↓i_zip, ↓s_fo, ↓look_z, ↓look_s, ↓tb_bl, ↓ti_int, ↓tr_ref, ↓tt_tup, ↓op_some, ↓to_ok, ↓st_nx, ↓st_rt, ↓st_bk, ↓st_ct, List.set_cons_zero, List.set_cons_succ, boD, coD, biN, aoD, ↓p_addI, ↓p_addT, ↓p_addL, ↓p_sub, ↓p_mul, ↓p_fdiv, ↓p_mod, ↓p_pow, ↓p_iaddI, ↓p_iaddL, ↓p_isub, ↓p_lt, ↓p_gt, ↓p_le, ↓p_ge, ↓p_eq, ↓p_ne, ↓p_in, ↓p_notIn, ↓q_int, ↓p_isNN, ↓p_isTN, ↓p_isIN, ↓p_isRN, ↓p_isntNN, ↓p_isntTN, ↓p_isntIN, ↓p_isntRN, ↓p_isBB, ↓p_isntBB, ↓p_ixT, ↓p_ixR, ↓p_slT, ↓p_slR, ↓p_lenT, ↓p_lenR, ↓p_intI, ↓p_intB, ↓p_min, ↓p_max, ↓p_bl, ↓p_sum, ↓p_tupleT, ↓p_tupleR, ↓p_listT, ↓p_listR, ↓p_app, ↓p_pop0, ↓p_popI, ↓p_get1, ↓p_revT, ↓p_revR, ↓p_isi, ↓op_dput, ↓op_list, src_tup, enum_tup, zip_tup, seqO_lst, seqO_frz, lstO_lst, lenO_lst, lenO_frz, ixO_lst, isLst_lst, seqOf_tup, decide_eq_true_eq, List.length_cons, List.length_nil, Nat.beq, true_and, Nat.reduceAdd, List.getElem?_cons_zero, List.getElem?_cons_succ, get_app0, get_app, set_app0, set_app, List.append_assoc, List.cons_append, List.nil_append, List.length_append, wipeE, ↓op_map, ↓atI_map, atI_0, atI_1, atI_2, atI_3, List.length_map, st_enter, st_add, st_putT, st_len, bw_int, bw_bl, bw_non, bw_str, bw_tup, bws_nil, bws_cons, Enc.flat, flats, Bool.and_true, Bool.and_self, isT_tup, sub_TT, List.any_cons, List.any_nil, Bool.or_false, Bool.not_true, Bool.not_false, if_true, if_false, Bool.false_eq_true, decide_true, decide_false, $xs,*])
section
variable {α : Type} [Enc α]
def insE (x : α) : List α → List α
  | [] => [x]
  | y :: r => match PySem.W.dataLt (Enc.pd y) (Enc.pd x) with
    | true => y :: insE x r
    | false => x :: y :: r
def esort : List α → List α
  | [] => []
  | x :: r => insE x (esort r)
theorem insE_mem {x z : α} : ∀ {l : List α}, z ∈ insE x l ↔ z = x ∨ z ∈ l
  | [] => by simp [insE]
  | y :: r => by
    unfold insE
    cases PySem.W.dataLt (Enc.pd y) (Enc.pd x) with
    | true =>
      simp only [List.mem_cons, insE_mem (l := r)]
      exact ⟨fun h => by rcases h with h | h | h <;> simp [h], fun h => by rcases h with h | h | h <;> simp [h]⟩
    | false => simp
theorem esort_mem {z : α} : ∀ {l : List α}, z ∈ esort l ↔ z ∈ l
  | [] => by simp [esort]
  | x :: r => by simp only [esort, insE_mem, esort_mem (l := r), List.mem_cons]
theorem insE_len {x : α} : ∀ {l : List α}, (insE x l).length = l.length + 1
  | [] => rfl
  | y :: r => by
    unfold insE
    cases PySem.W.dataLt (Enc.pd y) (Enc.pd x) with
    | true => simp only [List.length_cons, insE_len (l := r)]
    | false => rfl
theorem esort_len : ∀ {l : List α}, (esort l).length = l.length
  | [] => rfl
  | x :: r => by simp only [esort, insE_len, esort_len (l := r), List.length_cons]
theorem insD_enc (x : α) : ∀ l : List α, insD (Enc.pd x, enc x) (l.map fun a => (Enc.pd a, enc a)) = (insE x l).map fun a => (Enc.pd a, enc a)
  | [] => rfl
  | y :: r => by
    simp only [List.map_cons, insD, insE]
    cases PySem.W.dataLt (Enc.pd y) (Enc.pd x) with
    | true => simp only [insD_enc x r, List.map_cons]
    | false => simp only [List.map_cons]
theorem sortL_enc : ∀ l : List α, sortL (l.map fun a => (Enc.pd a, enc a)) = (esort l).map fun a => (Enc.pd a, enc a)
  | [] => rfl
  | x :: r => by simp only [List.map_cons, sortL, sortL_enc r, insD_enc, esort]
theorem esort_pw (l : List α) : (esort l).Pairwise fun a b => PySem.W.dataLt (Enc.pd b) (Enc.pd a) = false := by
  have tr : ∀ a b c : PyData × D, leP a b = true → leP b c = true → leP a c = true := fun a b c => leP_tot.trans a b c
  have to : ∀ a b : PyData × D, (leP a b || leP b a) = true := fun a b => Bool.or_eq_true_iff.mpr (leP_tot.total a b)
  have h := List.pairwise_mergeSort tr to (l.map fun a => (Enc.pd a, enc a))
  rw [← sortL_eq, sortL_enc, List.pairwise_map] at h
  exact h.imp fun e => by rw [leP_eq, Bool.not_eq_true'] at e; exact e
theorem resPairs_enc {S : Sto} : ∀ l : List α, resPairs S (l.map enc) = some (l.map fun a => (Enc.pd a, enc a))
  | [] => rfl
  | i :: l => by
    simp only [List.map_cons, resPairs, resPairs_enc l, res_enc]
theorem p_sortE {S : Sto} {n : Nat} {o : O} {l : List α} {Q : D → Sto → Prop} (h : S.objs[n]? = some o) (ho : seqO o = some (l.map enc)) (hl : sortOk (l.map fun a => (Enc.pd a, enc a)) = true) : (sortedN [.ref n] S).To Q = Q (.ref S.len) (S.add (.lst ((esort l).map enc))) := by
  have e : S.list? n = some (l.map enc) := by rw [list_at h, ho]
  simp only [sortedN, e, resPairs_enc, hl, newL, to_ok, sortL_enc, List.map_map]
  rfl
end
/-! ### rows with their lengths -/
theorem alike_link (a b : Link) : PySem.W.alike (Enc.pd a) (Enc.pd b) = true := rfl
theorem alike_rows : ∀ a b : List Link, PySem.W.alikeAll (a.map Enc.pd) (b.map Enc.pd) = true
  | [], _ => by simp [PySem.W.alikeAll]
  | _ :: _, [] => by simp [PySem.W.alikeAll]
  | a :: r, b :: t => by simp only [List.map_cons, PySem.W.alikeAll, alike_link, alike_rows r t, Bool.and_self]
theorem alike_row (a b : List Link) : PySem.W.alike (Enc.pd a) (Enc.pd b) = true := by
  show PySem.W.alike (.tuple (a.map Enc.pd)) (.tuple (b.map Enc.pd)) = true
  rw [PySem.W.alike]
  exact alike_rows a b
theorem lt_rows : ∀ a b : List Link, PyProof.Rows.lexLt PyProof.Rows.itemOrd (PySem.W.keyToksAll (a.map Enc.pd)) (PySem.W.keyToksAll (b.map Enc.pd)) = rwLt a b
  | [], [] => rfl
  | [], _ :: _ => rfl
  | _ :: _, [] => rfl
  | a :: r, b :: t => by
    rw [List.map_cons, List.map_cons, PySem.W.dataLt_cons (alike_link a b), lt_rows r t, lt_link, Enc.dec]
    simp only [rwLt, decide_eq_true_eq]
theorem lt_row (a b : List Link) : PySem.W.dataLt (Enc.pd a) (Enc.pd b) = rwLt a b := by
  show PySem.W.dataLt (.tuple (a.map Enc.pd)) (.tuple (b.map Enc.pd)) = _
  rw [PySem.W.dataLt_tuple, lt_rows]
abbrev LR := Int × List Link
def lrOf (r : List Link) : LR := ((r.length : Int), r)
theorem lt_lr {a b : List Link} (h : a.length < b.length ∨ (a.length = b.length ∧ rwLt a b = true)) : PySem.W.dataLt (Enc.pd (lrOf a)) (Enc.pd (lrOf b)) = true := by
  show PySem.W.dataLt (.tuple [.int (a.length : Int), Enc.pd a]) (.tuple [.int (b.length : Int), Enc.pd b]) = true
  rw [PySem.W.dataLt_pair rfl (alike_row a b), PySem.W.dataLt_int, Enc.dec a b, lt_row]
  have e : PyData.eqv (.int (a.length : Int)) (.int (b.length : Int)) = decide ((a.length : Int) = (b.length : Int)) := Enc.dec (α := Int) _ _
  rw [e]
  rcases h with h | ⟨h, h'⟩
  · rw [if_neg (by simp; omega)]
    exact decide_eq_true (by omega)
  · rw [if_pos (by simp [h])]
    have hne : a ≠ b := fun z => by subst z; rw [rwLt_asym h'] at h'; cases h'
    rw [if_neg (by simp [hne]), h']
theorem sortOk_lr {l : List (List Link)} (h : l.length ≤ 16777216) : sortOk ((l.map lrOf).map fun a => (Enc.pd a, enc a)) = true := by
  have hf : fits l.length = true := Nat.ble_eq_true_of_le h
  unfold sortOk
  simp only [List.length_map, hf, Bool.and_true, Bool.and_eq_true, Bool.or_eq_true, List.all_eq_true, List.mem_map]
  refine ⟨⟨?_, .inl ?_⟩, ?_⟩
  · rintro _ ⟨_, ⟨a, _, rfl⟩, rfl⟩ _ ⟨_, ⟨b, _, rfl⟩, rfl⟩
    show PySem.W.alike (.tuple [.int (a.length : Int), Enc.pd a]) (.tuple [.int (b.length : Int), Enc.pd b]) = true
    simp only [PySem.W.alike, PySem.W.alikeAll, alike_row, Bool.and_self]
  · rintro _ ⟨_, ⟨a, _, rfl⟩, rfl⟩
    rfl
  · rintro _ ⟨_, ⟨a, _, rfl⟩, rfl⟩
    exact Nat.ble_eq_true_of_le (Nat.le_trans (Enc.depth (lrOf a)) (by decide))
end Sw

/-! R9: the law's own first row. -/
namespace Sw
open PySem L2 Enc
local macro_rules | `(tactic| simp_arith [$xs,*]) => `(tactic| simp only [↓e_lit, ↓e_var, ↓e_bin, ↓e_cmp, ↓e_chain, ↓e_neg, ↓e_not, ↓e_and, ↓e_or, ↓e_ite, ↓e_tup, ↓e_lst, ↓e_dnewT, ↓e_dnewF, ↓e_ix, ↓e_sl, ↓p_none, ↓p_some, ↓e_call, ↓e_bi, ↓e_isi, ↓e_app, ↓e_pop, ↓e_get, ↓e_rev, ↓e_lenum, ↓e_dispk, ↓op_srcR, ↓op_enumR, ↓op_zipR, turns_live, turns_enumL, turns_zipL, turns_items, turns_enumI, turns_zipI, turns_range, Option.bind_some, Option.elim_some, ↓e_comp, ↓s_wh, ↓a_nil, ↓a_cons, ↓a_star, ↓g_name, ↓g_tup, ↓gs_nil, ↓gs_cons, ↓s_nil, ↓s_cons, ↓s_expr, ↓s_ret, ↓s_asg, ↓s_aug, ↓s_put, ↓s_ite, ↓s_pass, ↓s_brk, ↓s_cont, ↓i_e, ↓i_r1, ↓i_r2, ↓i_enum, ↓i_zip, ↓s_fo, ↓look_z, ↓look_s, ↓tb_bl, ↓ti_int, ↓tr_ref, ↓tt_tup, ↓op_some, ↓to_ok, ↓st_nx, ↓st_rt, ↓st_bk, ↓st_ct, List.set_cons_zero, List.set_cons_succ, boD, coD, biN, aoD, ↓p_addI, ↓p_addT, ↓p_addL, ↓p_sub, ↓p_mul, ↓p_fdiv, ↓p_mod, ↓p_pow, ↓p_iaddI, ↓p_iaddL, ↓p_isub, ↓p_lt, ↓p_gt, ↓p_le, ↓p_ge, ↓p_eq, ↓p_ne, ↓p_in, ↓p_notIn, ↓q_int, ↓p_isNN, ↓p_isTN, ↓p_isIN, ↓p_isRN, ↓p_isntNN, ↓p_isntTN, ↓p_isntIN, ↓p_isntRN, ↓p_isBB, ↓p_isntBB, ↓p_ixT, ↓p_ixR, ↓p_slT, ↓p_slR, ↓p_lenT, ↓p_lenR, ↓p_intI, ↓p_intB, ↓p_min, ↓p_max, ↓p_bl, ↓p_sum, ↓p_tupleT, ↓p_tupleR, ↓p_listT, ↓p_listR, ↓p_app, ↓p_pop0, ↓p_popI, ↓p_get1, ↓p_revT, ↓p_revR, ↓p_isi, ↓op_dput, ↓op_list, src_tup, enum_tup, zip_tup, seqO_lst, seqO_frz, lstO_lst, lenO_lst, lenO_frz, ixO_lst, isLst_lst, seqOf_tup, decide_eq_true_eq, List.length_cons, List.length_nil, Nat.beq, true_and, Nat.reduceAdd, List.getElem?_cons_zero, List.getElem?_cons_succ, get_app0, get_app, set_app0, set_app, List.append_assoc, List.cons_append, List.nil_append, List.length_append, wipeE, ↓op_map, ↓atI_map, atI_0, atI_1, atI_2, atI_3, List.length_map, st_enter, st_add, st_putT, st_len, bw_int, bw_bl, bw_non, bw_str, bw_tup, bws_nil, bws_cons, Enc.flat, flats, Bool.and_true, Bool.and_self, isT_tup, sub_TT, List.any_cons, List.any_nil, Bool.or_false, Bool.not_true, Bool.not_false, if_true, if_false, Bool.false_eq_true, decide_true, decide_false, $xs,*])
def b_Lfirst (i_Lfits i_Lwith : Nat) : Ts := (.cons (.asg (.lst (.cons (.tup .nil) .nil)) (.name 2)) (.cons (.fo (.e (.var 1)) (.name 3) (.cons (.asg (.bin .add (.var 2) (.comp (.e (.var 2)) [5] (.name 5) (.lit (.bl true)) (.bin .add (.var 5) (.tup (.cons (.var 3) .nil))))) (.name 2)) .nil)) (.cons (.fo (.e (.bi .sorted (.cons (.comp (.e (.var 2)) [5] (.name 5) (.lit (.bl true)) (.tup (.cons (.bi .len (.cons (.var 5) .nil)) (.cons (.var 5) .nil)))) .nil))) (.tup 2 (.cons (.name 4) (.cons (.name 5) .nil))) (.cons (.ite (.call i_Lfits (.cons (.call i_Lwith (.cons (.var 0) (.cons (.var 5) .nil))) (.cons (.tup .nil) .nil))) (.cons (.ret (.var 5)) .nil) .nil) .nil)) (.cons (.ret (.lit .non)) .nil))))
theorem subs_snoc : ∀ (done : List Link) (l : Link) (rows : List (List Link)), subs (done ++ [l]) rows = subs done rows ++ (subs done rows).map (· ++ [l])
  | [], l, rows => rfl
  | x :: r, l, rows => by
    show subs (r ++ [l]) (rows ++ rows.map (· ++ [x])) = _
    rw [subs_snoc r l]
    rfl
theorem subs_len : ∀ (s : List Link) (rows : List (List Link)), (subs s rows).length = rows.length * 2 ^ s.length
  | [], rows => by simp [subs]
  | x :: r, rows => by
    rw [subs, subs_len r, List.length_append, List.length_map, List.length_cons, Nat.pow_succ]
    rw [show rows.length + rows.length = rows.length * 2 by omega, Nat.mul_assoc, Nat.mul_comm 2]
def SpLfirst (f : Fn) : Prop := ∀ (S : Sto) (y : Lay) (n : Nat) (c : List Link), S.dirty = false → y.Ok → S.objs[n]? = some (.lst (y.free.map enc)) → Least y.free (fitB y) c → f [y.d, .ref n] S = .ok (enc c) S
theorem spLfirst (F : Nat → Fn) (iF iW : Nat) (hF : SpFits (F iF)) (hW : SpLwith (F iW)) : SpLfirst (liftF (fnSem 6 2 (svs F (b_Lfirst iF iW)))) := fun S y n c h0 h h1 hc => by
  refine lift_eq ?_ (fun hb => by simp [D.blws, D.blw] at hb) (Enc.flat _ _)
  obtain ⟨B, bs, t⟩ := S
  obtain rfl : t = false := h0
  generalize hbody : svs F (b_Lfirst iF iW) = body
  refine Res.To.eq (fn_to rfl ?_)
  generalize hQ : (fun (b : D) (S_1 : Sto) => b = enc c ∧ S_1 = (⟨B, bs, false⟩ : Sto)) = Q
  have fin : ∀ (L : List O), (ret ⟨B, bs, false⟩ (enc c) ⟨B ++ L, B.length :: bs, false⟩).To Q := fun L => by
    rw [ret_flat rfl (Enc.flat _ _), ← hQ]
    exact ⟨rfl, by simp [Sto.len]⟩
  rw [← hbody]
  have h1 : B[n]? = some (.lst (y.free.map enc)) := h1
  have hnl : n < B.length := (List.getElem?_eq_some_iff.mp h1).1
  have h15 := free_15 h
  have eW : ∀ (S : Sto) (t : List Link), F iW [y.d, enc t] S = .ok (y.cut t).d S := fun S t => hW S y t h
  have eF : ∀ (S : Sto) (t : List Link), S.dirty = false → F iF [(y.cut t).d, .tup []] S = .ok (.bl (fitB y t)) S := fun S t hS' => hF S (y.cut t) (.tup []) [] hS' (h.cut t) rfl
  generalize y.d = dy at *
  simp only [b_Lfirst, List.map, List.cons_append, List.nil_append, List.replicate]
  simp_arith [h1]
  refine ⟨rfl, rfl, ?_⟩
  have hgn : ∀ L : List O, (B ++ L)[n]? = some (.lst (y.free.map enc)) := fun L => by rw [List.getElem?_append_left hnl, h1]
  simp_arith [hgn]
  obtain ⟨I, hI⟩ : ∃ I : List Link → En → Sto → Prop, ∀ done ρ S, I done ρ S ↔ ∃ (r : Nat) (z3 : Option D) (L : List O), ρ = [some dy, some (.ref n), some (.ref r), z3, none, none] ∧ S = ⟨B ++ L, B.length :: bs, false⟩ ∧ (B ++ L)[r]? = some (.lst ((subs done [[]]).map enc)) := ⟨_, fun _ _ _ => Iff.rfl⟩
  refine for_of (B := B) (l := y.free) (enc := enc) ?c1 ?c2 I ?c3 ?c4 ?c5 ?c6
  case c1 => exact of_live h1 rfl
  case c2 => simp
  case c3 => exact (hI _ _ _).mpr ⟨_, _, _, rfl, rfl, by simp [subs]; rfl⟩
  case c4 =>
    intro done ρ S h2
    obtain ⟨_, _, L, _, hS, _⟩ := (hI _ _ _).mp h2
    exact ⟨L, by rw [hS]⟩
  case c5 =>
    intro done l rest ρ S e h2
    obtain ⟨r, z3, L, hρ, hS, hr⟩ := (hI _ _ _).mp h2
    subst hρ hS
    have hdl : done.length ≤ 14 := by
      have := congrArg List.length e
      simp only [List.length_append, List.length_cons] at this
      omega
    have hsl : (subs done [[]]).length ≤ 2 ^ 14 := by
      rw [subs_len]
      simpa using Nat.pow_le_pow_right (show 0 < 2 by omega) hdl
    simp_arith [hr]
    refine comp_pure' (α := List Link) (enc := enc) (B := B ++ L) (bs := B.length :: bs) (l := subs done [[]]) (fun _ => true) (fun t => enc (t ++ [l])) (of_live hr rfl) (by simp) (by simp) (by simp) (by omega) (by simp) (fun t ht acc => ?d1) ?d2
    case d1 =>
      have hl := (subs_all.mp ht).length_le
      have et : enc t = .tup (t.map enc) := rfl
      rw [et]
      simp_arith []
      refine fun _ => ⟨rfl, Nat.ble_eq_true_of_le (by omega), ?_, trivial⟩
      rw [enc_list, List.map_append]; rfl
    case d2 =>
      rw [filt_true]
      have hr' : (B ++ (L ++ [.lst ((subs done [[]]).map fun t => enc (t ++ [l]))]))[r]? = some (.lst ((subs done [[]]).map enc)) := by
        rw [← List.append_assoc, List.getElem?_append_left (List.getElem?_eq_some_iff.mp hr).1, hr]
      simp_arith [hr']
      refine ⟨Nat.ble_eq_true_of_le (by omega), (hI _ _ _).mpr ⟨_, _, _, rfl, rfl, ?_⟩⟩
      rw [subs_snoc, List.map_append, List.map_map, get_app, List.getElem?_append_right (by omega)]
      simp [Function.comp_def]
  case c6 =>
    intro ρ S h2
    obtain ⟨r, z3, L, hρ, hS, hr⟩ := (hI _ _ _).mp h2
    subst hρ hS
    have hsl : (subs y.free [[]]).length ≤ 2 ^ 15 := by
      rw [subs_len]
      simpa using Nat.pow_le_pow_right (show 0 < 2 by omega) h15
    simp_arith [hr]
    have hM : ∀ z : LR, z ∈ esort ((subs y.free [[]]).map lrOf) → ∃ t : List Link, t.Sublist y.free ∧ z = lrOf t := fun z hz => by
      obtain ⟨t, ht, rfl⟩ := List.mem_map.mp (esort_mem.mp hz)
      exact ⟨t, subs_all.mp ht, rfl⟩
    have hcM : lrOf c ∈ esort ((subs y.free [[]]).map lrOf) := esort_mem.mpr (List.mem_map.mpr ⟨c, subs_all.mpr hc.sub, rfl⟩)
    have hpw := esort_pw ((subs y.free [[]]).map lrOf)
    have hok := sortOk_lr (l := subs y.free [[]]) (by omega)
    refine comp_pure' (α := List Link) (enc := enc) (B := B ++ L) (bs := B.length :: bs) (l := subs y.free [[]]) (fun _ => true) (fun t => enc (lrOf t)) (of_live hr rfl) (by simp) (by simp) (by simp) (by omega) (by simp) (fun t ht acc => ?d1) ?d2
    case d1 =>
      have et : enc t = .tup (t.map enc) := rfl
      rw [et]
      simp_arith []
      exact fun _ => ⟨rfl, rfl, trivial⟩
    case d2 =>
      rw [filt_true]
      have em : (subs y.free [[]]).map (fun t => (enc (lrOf t) : D)) = ((subs y.free [[]]).map lrOf).map enc := by rw [List.map_map]; rfl
      rw [em, p_sortE (o := .lst (((subs y.free [[]]).map lrOf).map enc)) (l := (subs y.free [[]]).map lrOf) get_app0 rfl hok]
      generalize esort ((subs y.free [[]]).map lrOf) = M at *
      simp_arith []
      obtain ⟨K, hK⟩ : ∃ K : List LR → En → Sto → Prop, ∀ done ρ S, K done ρ S ↔ ∃ z4 z5 : Option D, ρ = [some dy, some (.ref n), some (.ref r), z3, z4, z5] ∧ S = ⟨B ++ (L ++ [O.lst (((subs y.free [[]]).map lrOf).map enc), O.lst (M.map enc)]), B.length :: bs, false⟩ ∧ ∀ z ∈ done, fitB y z.2 = false := ⟨_, fun _ _ _ => Iff.rfl⟩
      refine for_of (B := B ++ (L ++ [O.lst (((subs y.free [[]]).map lrOf).map enc), O.lst (M.map enc)])) (l := M) (enc := enc) ?e1 ?e2 K ?e3 ?e4 ?e5 ?e6
      case e1 =>
        refine of_live (o := .lst (M.map enc)) ?_ rfl
        rw [get_app, List.getElem?_append_right (by omega)]
        simp
      case e2 => simp
      case e3 => exact (hK _ _ _).mpr ⟨_, _, rfl, rfl, by simp⟩
      case e4 =>
        intro done ρ S h2
        obtain ⟨_, _, _, hS, _⟩ := (hK _ _ _).mp h2
        exact ⟨[], by rw [hS]; simp⟩
      case e5 =>
        intro done d rest ρ S e h2
        obtain ⟨z4, z5, hρ, hS, hd⟩ := (hK _ _ _).mp h2
        subst hρ hS
        obtain ⟨t, ht, rfl⟩ := hM d (by rw [e]; simp)
        have el : (enc (lrOf t) : D) = .tup [.int (t.length : Int), enc t] := rfl
        rw [el]
        cases hfit : fitB y t with
        | false =>
          have e1 : ∀ S : Sto, S.dirty = false → F iF [(y.cut t).d, .tup []] S = .ok (.bl false) S := fun S hS => by rw [eF S t hS, hfit]
          simp_arith [eW, e1]
          refine ⟨rfl, (hK _ _ _).mpr ⟨_, _, rfl, rfl, fun u hu => ?_⟩⟩
          rcases List.mem_append.mp hu with hu | hu
          · exact hd u hu
          · rw [List.mem_singleton.mp hu]; exact hfit
        | true =>
          have htc : t = c := by
            rcases hc.low t ht hfit with h3 | h3
            · exact h3
            · have h4 := lt_lr h3
              rw [e] at hcM hpw
              rcases List.mem_append.mp hcM with h5 | h5
              · have := hd _ h5; rw [show (lrOf c).2 = c from rfl, hc.fit] at this; cases this
              · rcases List.mem_cons.mp h5 with h5 | h5
                · exact (congrArg Prod.snd h5).symm
                · have := (List.pairwise_cons.mp (List.pairwise_append.mp hpw).2.1).1 _ h5
                  rw [h4] at this; cases this
          have e1 : ∀ S : Sto, S.dirty = false → F iF [(y.cut t).d, .tup []] S = .ok (.bl true) S := fun S hS => by rw [eF S t hS, hfit]
          simp_arith [eW, e1]
          refine ⟨rfl, ?_⟩
          rw [htc]
          exact fin _
      case e6 =>
        intro ρ S h2
        obtain ⟨z4, z5, hρ, hS, hd⟩ := (hK _ _ _).mp h2
        exfalso
        have := hd _ hcM
        rw [show (lrOf c).2 = c from rfl, hc.fit] at this; cases this
end Sw

/-! T1: law k19, one turn. -/
namespace Sw
open PySem L2 Enc
local macro_rules | `(tactic| simp_arith [$xs,*]) => `(tactic| simp only [↓e_lit, ↓e_var, ↓e_bin, ↓e_cmp, ↓e_chain, ↓e_neg, ↓e_not, ↓e_and, ↓e_or, ↓e_ite, ↓e_tup, ↓e_lst, ↓e_dnewT, ↓e_dnewF, ↓e_ix, ↓e_sl, ↓p_none, ↓p_some, ↓e_call, ↓e_bi, ↓e_isi, ↓e_app, ↓e_pop, ↓e_get, ↓e_rev, ↓e_lenum, ↓e_dispk, ↓op_srcR, ↓op_enumR, ↓op_zipR, turns_live, turns_enumL, turns_zipL, turns_items, turns_enumI, turns_zipI, turns_range, Option.bind_some, Option.elim_some, ↓e_comp, ↓s_wh, ↓a_nil, ↓a_cons, ↓a_star, ↓g_name, ↓g_tup, ↓gs_nil, ↓gs_cons, ↓s_nil, ↓s_cons, ↓s_expr, ↓s_ret, ↓s_asg, ↓s_aug, ↓s_put, ↓s_ite, ↓s_pass, ↓s_brk, ↓s_cont, ↓i_e, ↓i_r1, ↓i_r2, ↓i_enum, ↓i_zip, ↓s_fo, ↓look_z, ↓look_s, ↓tb_bl, ↓ti_int, ↓tr_ref, ↓tt_tup, ↓op_some, ↓to_ok, ↓st_nx, ↓st_rt, ↓st_bk, ↓st_ct, List.set_cons_zero, List.set_cons_succ, boD, coD, biN, aoD, ↓p_addI, ↓p_addT, ↓p_addL, ↓p_sub, ↓p_mul, ↓p_fdiv, ↓p_mod, ↓p_pow, ↓p_iaddI, ↓p_iaddL, ↓p_isub, ↓p_lt, ↓p_gt, ↓p_le, ↓p_ge, ↓p_eq, ↓p_ne, ↓p_in, ↓p_notIn, ↓q_int, ↓p_isNN, ↓p_isTN, ↓p_isIN, ↓p_isRN, ↓p_isntNN, ↓p_isntTN, ↓p_isntIN, ↓p_isntRN, ↓p_isBB, ↓p_isntBB, ↓p_ixT, ↓p_ixR, ↓p_slT, ↓p_slR, ↓p_lenT, ↓p_lenR, ↓p_intI, ↓p_intB, ↓p_min, ↓p_max, ↓p_bl, ↓p_sum, ↓p_tupleT, ↓p_tupleR, ↓p_listT, ↓p_listR, ↓p_app, ↓p_pop0, ↓p_popI, ↓p_get1, ↓p_revT, ↓p_revR, ↓p_isi, ↓op_dput, ↓op_list, src_tup, enum_tup, zip_tup, seqO_lst, seqO_frz, lstO_lst, lenO_lst, lenO_frz, ixO_lst, isLst_lst, seqOf_tup, decide_eq_true_eq, List.length_cons, List.length_nil, Nat.beq, true_and, Nat.reduceAdd, List.getElem?_cons_zero, List.getElem?_cons_succ, get_app0, get_app, set_app0, set_app, List.append_assoc, List.cons_append, List.nil_append, List.length_append, wipeE, ↓op_map, ↓atI_map, atI_0, atI_1, atI_2, atI_3, List.length_map, st_enter, st_add, st_putT, st_len, bw_int, bw_bl, bw_non, bw_str, bw_tup, bws_nil, bws_cons, Enc.flat, flats, Bool.and_true, Bool.and_self, isT_tup, sub_TT, List.any_cons, List.any_nil, Bool.or_false, Bool.not_true, Bool.not_false, if_true, if_false, Bool.false_eq_true, decide_true, decide_false, $xs,*])
def k19T0 (i_Lbegun i_Llayout i_Lof i_Llinks i_Lfirst i_least_cuts i_is_sound i_with_cuts i_Ldraw i_Lwith : Nat) : T := (.asg (.bi .tuple (.cons (.comp (.e (.var 4)) [9] (.name 9) (.cmp .eq (.call i_Ldraw (.cons (.var 2) (.cons (.lit (.int 3)) .nil))) (.lit (.int 0))) (.var 9)) .nil)) (.name 7))
def k19T1 (i_Lbegun i_Llayout i_Lof i_Llinks i_Lfirst i_least_cuts i_is_sound i_with_cuts i_Ldraw i_Lwith : Nat) : T := (.ite (.cmp .ne (.bi .repr (.cons (.lst (.cons (.call i_with_cuts (.cons (.var 3) (.cons (.var 7) .nil))) (.cons (.call i_with_cuts (.cons (.var 3) (.cons (.var 7) .nil))) .nil))) .nil)) (.bi .repr (.cons (.bin .mul (.lst (.cons (.call i_Lwith (.cons (.var 3) (.cons (.var 7) .nil))) .nil)) (.lit (.int 2))) .nil))) (.cons (.ret (.lit (.bl false))) .nil) .nil)
def k19T2 (i_Lbegun i_Llayout i_Lof i_Llinks i_Lfirst i_least_cuts i_is_sound i_with_cuts i_Ldraw i_Lwith : Nat) : T := (.asg (.comp (.e (.var 4)) [9] (.name 9) (.cmp .notIn (.var 9) (.var 7)) (.var 9)) (.name 8))
def k19T3 (i_Lbegun i_Llayout i_Lof i_Llinks i_Lfirst i_least_cuts i_is_sound i_with_cuts i_Ldraw i_Lwith : Nat) : T := (.ite (.and (.call i_is_sound (.cons (.call i_Lwith (.cons (.var 3) (.cons (.var 7) .nil))) .nil)) (.cmp .ne (.var 8) (.lst .nil))) (.cons (.ite (.cmp .isNot (.call i_is_sound (.cons (.call i_with_cuts (.cons (.call i_Lwith (.cons (.var 3) (.cons (.var 7) .nil))) (.cons (.tup (.cons (.call i_Lof (.cons (.var 2) (.cons (.var 8) .nil))) .nil)) .nil))) .nil)) (.lit (.bl true))) (.cons (.ret (.lit (.bl false))) .nil) .nil) .nil) .nil)
def k19Turn (i_Lbegun i_Llayout i_Lof i_Llinks i_Lfirst i_least_cuts i_is_sound i_with_cuts i_Ldraw i_Lwith : Nat) : Ts := (.cons (k19T0 i_Lbegun i_Llayout i_Lof i_Llinks i_Lfirst i_least_cuts i_is_sound i_with_cuts i_Ldraw i_Lwith) (.cons (k19T1 i_Lbegun i_Llayout i_Lof i_Llinks i_Lfirst i_least_cuts i_is_sound i_with_cuts i_Ldraw i_Lwith) (.cons (k19T2 i_Lbegun i_Llayout i_Lof i_Llinks i_Lfirst i_least_cuts i_is_sound i_with_cuts i_Ldraw i_Lwith) (.cons (k19T3 i_Lbegun i_Llayout i_Lof i_Llinks i_Lfirst i_least_cuts i_is_sound i_with_cuts i_Ldraw i_Lwith) .nil))))
def k19Main (i_Lbegun i_Llayout i_Lof i_Llinks i_Lfirst i_least_cuts i_is_sound i_with_cuts i_Ldraw i_Lwith : Nat) : Ts := (.cons (.asg (.call i_Lbegun (.cons (.var 0) (.cons (.var 1) .nil))) (.name 2)) (.cons (.asg (.call i_Llayout (.cons (.var 2) (.cons (.lit (.int 6)) (.cons (.call i_Lof (.cons (.var 2) (.cons (.lst (.cons (.lit (.int 0)) (.cons (.lit (.int 4)) (.cons (.lit (.int 6)) .nil)))) .nil))) (.cons (.call i_Lof (.cons (.var 2) (.cons (.lst (.cons (.lit (.int 0)) (.cons (.lit (.int 1)) (.cons (.lit (.int 3)) (.cons (.lit (.int 6)) .nil))))) .nil))) .nil))))) (.name 3)) (.cons (.asg (.comp (.e (.call i_Llinks (.cons (.var 3) .nil))) [9, 10, 11, 12] (.tup 4 (.cons (.name 9) (.cons (.name 10) (.cons (.name 11) (.cons (.name 12) .nil))))) (.cmp .eq (.var 12) (.lit (.int 0))) (.var 9)) (.name 4)) (.cons (.asg (.call i_Lfirst (.cons (.var 3) (.cons (.var 4) .nil))) (.name 5)) (.cons (.ite (.cmp .ne (.bi .repr (.cons (.lst (.cons (.call i_least_cuts (.cons (.var 3) .nil)) (.cons (.call i_least_cuts (.cons (.var 3) .nil)) .nil))) .nil)) (.bi .repr (.cons (.lst (.cons (.var 5) (.cons (.var 5) .nil))) .nil))) (.cons (.ret (.lit (.bl false))) .nil) .nil) (.cons (.ite (.cmp .isNot (.call i_is_sound (.cons (.call i_with_cuts (.cons (.var 3) (.cons (.var 5) .nil))) .nil)) (.lit (.bl true))) (.cons (.ret (.lit (.bl false))) .nil) .nil) (.cons (.fo (.range1 (.cons (.lit (.int 3)) .nil)) (.name 6) (k19Turn i_Lbegun i_Llayout i_Lof i_Llinks i_Lfirst i_least_cuts i_is_sound i_with_cuts i_Ldraw i_Lwith)) .nil)))))))
def k19B (i_Lbegun i_Llayout i_Lof i_Llinks i_Lfirst i_least_cuts i_is_sound i_with_cuts i_Ldraw i_Lwith : Nat) : Ts := (.cons (.fo (.range1 (.cons (.bin .add (.lit (.int 1)) (.bi .min (.cons (.bi .len (.cons (.var 0) .nil)) (.cons (.lit (.int 6)) .nil)))) .nil)) (.name 1) (k19Main i_Lbegun i_Llayout i_Lof i_Llinks i_Lfirst i_least_cuts i_is_sound i_with_cuts i_Ldraw i_Lwith)) (.cons (.ret (.lit (.bl true))) .nil))
structure K19F (F : Nat → Fn) (iB iY iO iL iE iC iN iW iD iT : Nat) : Prop where
  begun : SpBegun (F iB)
  layout : SpLayout (F iY)
  one : SpOf (F iO)
  links : SpLlinks (F iL)
  first : SpLfirst (F iE)
  least : SpLeastCuts (F iC)
  sound : SpSound (F iN)
  cuts : SpWithCuts (F iW)
  draw : SpDraw (F iD)
  lwith : SpLwith (F iT)
section
variable {F : Nat → Fn} {iB iY iO iL iE iC iN iW iD iT : Nat} (K : K19F F iB iY iO iL iE iC iN iW iD iT) {S : Sto} {y : Lay} {row : List Link} {nm r c : Nat} {sp : Int} {k : Ks} {d0 d1 d2 d3 d4 d5 d6 d7 d8 d9 d10 d11 d12 : Option D}
include K
theorem k19_t0 (hy : y.Ok) (hd : DrawS S r c sp) (hs : sp < 2 ^ 50) (hc : S.dirty = false) (hn : S.objs[nm]? = some (.lst (y.free.map enc)))
    (nx : ∀ (row : List Link) (S' : Sto), row.Sublist y.free → Kp [r] S S' → DrawS S' r c (sp + 15) → k.nx [d0, d1, some (.ref r), d3, some (.ref nm), d5, d6, some (enc row), d8, d9, d10, d11, d12] S') :
    (sv F (k19T0 iB iY iO iL iE iC iN iW iD iT) [d0, d1, some (.ref r), d3, some (.ref nm), d5, d6, d7, d8, d9, d10, d11, d12] S).To k := by
  have h15 := free_15 hy
  simp only [k19T0]
  simp_arith [hn]
  have hnr := hd.ne hn
  have hrl := hd.lr
  have hcl := hd.lc
  have hml := lt_of_at hn
  obtain ⟨I, hI⟩ : ∃ I : List Link → List D → Sto → Prop, ∀ done acc S', I done acc S' ↔ ∃ l : List Link, acc = l.map enc ∧ l.Sublist done ∧ S'.objs[S.len]? = some (.lst acc) ∧ S'.objs[nm]? = some (.lst (y.free.map enc)) ∧ Kp [r] S S' ∧ DrawS S' r c (sp + done.length) := ⟨_, fun _ _ _ => Iff.rfl⟩
  refine comp_to (l := y.free) (enc := enc) I ?a1 ?a2 ?a3 ?a4 ?a5
  case a1 => exact (hI _ _ _).mpr ⟨[], rfl, List.Sublist.refl _, add_new, add_at hn, (Kp.refl hc).addN, by simpa using hd.addN⟩
  case a2 => simp
  case a3 =>
    intro done rest acc S' e h
    obtain ⟨l, a1, a2, a4, a5, a6, a7⟩ := (hI _ _ _).mp h
    exact live_next a5 rfl e
  case a4 =>
    intro done q rest acc S' e h
    obtain ⟨l, a1, a2, a4, a5, a6, a7⟩ := (hI _ _ _).mp h
    have hdl : done.length < y.free.length := by have := congrArg List.length e; simp at this; omega
    have hll := a2.length_le
    try simp_arith [Nat.reduceAdd]
    refine (K.draw S' r c _ 3 a6.cl a7 (by omega) (by omega) (by omega)).mono fun d S1 ⟨v, q1, q2, q3, q4, q5, q6⟩ => ?_
    subst q1
    have hn1 : S.len ≠ r := by omega
    have hn2 : S.len ≠ c := by omega
    have hn3 : S.len ≠ nm := by omega
    have b4 := q5.at a4 (by simpa using hn1)
    have b5 := q5.at a5 (by simpa using hnr)
    simp_arith [b4]
    split
    · refine ⟨by rw [a1, List.length_map]; exact Nat.ble_eq_true_of_le (by omega), (hI _ _ _).mpr ⟨l ++ [q], by simp [a1], a2.append (List.Sublist.refl _), put_at b4, (put_ne hn3).trans b5, (a6.trans q5).putN (.inr (by omega)) q5.cl, (q6.putN hn1 hn2).mono (by simp; omega)⟩⟩
    · exact (hI _ _ _).mpr ⟨l, a1, a2.trans (List.sublist_append_left _ _), b4, b5, a6.trans q5, q6.mono (by simp; omega)⟩
  case a5 =>
    intro acc S' h
    obtain ⟨l, a1, a2, a4, a5, a6, a7⟩ := (hI _ _ _).mp h
    subst a1
    simp_arith [a4]
    exact nx l S' a2 a6 (a7.mono (by omega))
end
end Sw

/-! T2: law k19, the rest of a turn. -/
namespace Sw
open PySem L2 Enc
local macro_rules | `(tactic| simp_arith [$xs,*]) => `(tactic| simp only [↓e_lit, ↓e_var, ↓e_bin, ↓e_cmp, ↓e_chain, ↓e_neg, ↓e_not, ↓e_and, ↓e_or, ↓e_ite, ↓e_tup, ↓e_lst, ↓e_dnewT, ↓e_dnewF, ↓e_ix, ↓e_sl, ↓p_none, ↓p_some, ↓e_call, ↓e_bi, ↓e_isi, ↓e_app, ↓e_pop, ↓e_get, ↓e_rev, ↓e_lenum, ↓e_dispk, ↓op_srcR, ↓op_enumR, ↓op_zipR, turns_live, turns_enumL, turns_zipL, turns_items, turns_enumI, turns_zipI, turns_range, Option.bind_some, Option.elim_some, ↓e_comp, ↓s_wh, ↓a_nil, ↓a_cons, ↓a_star, ↓g_name, ↓g_tup, ↓gs_nil, ↓gs_cons, ↓s_nil, ↓s_cons, ↓s_expr, ↓s_ret, ↓s_asg, ↓s_aug, ↓s_put, ↓s_ite, ↓s_pass, ↓s_brk, ↓s_cont, ↓i_e, ↓i_r1, ↓i_r2, ↓i_enum, ↓i_zip, ↓s_fo, ↓look_z, ↓look_s, ↓tb_bl, ↓ti_int, ↓tr_ref, ↓tt_tup, ↓op_some, ↓to_ok, ↓st_nx, ↓st_rt, ↓st_bk, ↓st_ct, List.set_cons_zero, List.set_cons_succ, boD, coD, biN, aoD, ↓p_addI, ↓p_addT, ↓p_addL, ↓p_sub, ↓p_mul, ↓p_fdiv, ↓p_mod, ↓p_pow, ↓p_iaddI, ↓p_iaddL, ↓p_isub, ↓p_lt, ↓p_gt, ↓p_le, ↓p_ge, ↓p_eq, ↓p_ne, ↓p_in, ↓p_notIn, ↓q_int, ↓p_isNN, ↓p_isTN, ↓p_isIN, ↓p_isRN, ↓p_isntNN, ↓p_isntTN, ↓p_isntIN, ↓p_isntRN, ↓p_isBB, ↓p_isntBB, ↓p_ixT, ↓p_ixR, ↓p_slT, ↓p_slR, ↓p_lenT, ↓p_lenR, ↓p_intI, ↓p_intB, ↓p_min, ↓p_max, ↓p_bl, ↓p_sum, ↓p_tupleT, ↓p_tupleR, ↓p_listT, ↓p_listR, ↓p_app, ↓p_pop0, ↓p_popI, ↓p_get1, ↓p_revT, ↓p_revR, ↓p_isi, ↓op_dput, ↓op_list, src_tup, enum_tup, zip_tup, seqO_lst, seqO_frz, lstO_lst, lenO_lst, lenO_frz, ixO_lst, isLst_lst, seqOf_tup, decide_eq_true_eq, List.length_cons, List.length_nil, Nat.beq, true_and, Nat.reduceAdd, List.getElem?_cons_zero, List.getElem?_cons_succ, get_app0, get_app, set_app0, set_app, List.append_assoc, List.cons_append, List.nil_append, List.length_append, wipeE, ↓op_map, ↓atI_map, atI_0, atI_1, atI_2, atI_3, List.length_map, st_enter, st_add, st_putT, st_len, bw_int, bw_bl, bw_non, bw_str, bw_tup, bws_nil, bws_cons, Enc.flat, flats, Bool.and_true, Bool.and_self, isT_tup, sub_TT, List.any_cons, List.any_nil, Bool.or_false, Bool.not_true, Bool.not_false, if_true, if_false, Bool.false_eq_true, decide_true, decide_false, $xs,*])
theorem cut_free {y : Lay} {row : List Link} {l : Link} (h : l ∈ y.free) (hn : l ∉ row) : l ∈ (y.cut row).free := by
  obtain ⟨q, hq, rfl, h0⟩ := mem_free.mp h
  refine mem_free.mpr ⟨recut row q, mem_cut_rows.mpr ⟨q, hq, rfl⟩, rfl, ?_⟩
  simp [recut, h0, hn]
theorem show_two {y : Lay} (hy : y.Ok) {S' : Sto} {n : Nat} {Q : D → Sto → Prop} (g1 : S'.objs[n]? = some (.lst [y.d, y.d])) : (reprN [.ref n] S').To Q = Q (.str (PyData.list [y.pd, y.pd]).shown) S' := by
  have lo := lay_okp hy
  have ln := lay_nds hy
  have ld := y.depth
  refine p_repr (res_two g1 (y.res _) (y.res _)) ?_ ?_ ?_
  · simp only [okP, okPs, lo, Bool.and_self]
  · simp only [nodes, nodesL]; omega
  · simp only [PyData.depth, PyData.depthAll]; omega
section
variable {F : Nat → Fn} {iB iY iO iL iE iC iN iW iD iT : Nat} (K : K19F F iB iY iO iL iE iC iN iW iD iT) {S : Sto} {y : Lay} {row : List Link} {nm r c : Nat} {sp : Int} {k : Ks} {d0 d1 d2 d3 d4 d5 d6 d7 d8 d9 d10 d11 d12 : Option D}
include K
theorem k19_rest (hy : y.Ok) (hd : DrawS S r c sp) (hs : sp < 2 ^ 50) (hc : S.dirty = false) (hb : S.bs = []) (hn : S.objs[nm]? = some (.lst (y.free.map enc))) (hr : row.Sublist y.free)
    (nx : ∀ (S' : Sto) (e8 : Option D), Kp [r] S S' → DrawS S' r c (sp + 1) → k.nx [d0, d1, some (.ref r), some y.d, some (.ref nm), d5, d6, some (enc row), e8, d9, d10, d11, d12] S') :
    (svs F (.cons (k19T1 iB iY iO iL iE iC iN iW iD iT) (.cons (k19T2 iB iY iO iL iE iC iN iW iD iT) (.cons (k19T3 iB iY iO iL iE iC iN iW iD iT) .nil))) [d0, d1, some (.ref r), some y.d, some (.ref nm), d5, d6, some (enc row), d8, d9, d10, d11, d12] S).To k := by
  have h15 := free_15 hy
  have hrl := hr.length_le
  have hinc : Inc row := (free_inc y).sublist hr
  have e1 := fun S' => K.cuts S' y row hy hinc (fun l hl => hr.subset hl) (by omega)
  have e2 := fun S' => K.lwith S' y row hy
  have hyc := hy.cut row
  have e3 := fun S' => K.sound S' (y.cut row) hyc
  simp only [k19T1, k19T2, k19T3]
  simp_arith [e1, e2]
  refine ⟨rfl, ?_⟩
  rw [show_two hyc add_new]
  have n1 := add_at (o' := .lst [(y.cut row).d, (y.cut row).d]) hn
  have dr1 := hd.addN (o := .lst [(y.cut row).d, (y.cut row).d])
  have k1 := (Kp.refl (W := [r]) hc).addN (o := .lst [(y.cut row).d, (y.cut row).d])
  generalize S.add (.lst [(y.cut row).d, (y.cut row).d]) = S1 at n1 dr1 k1
  simp_arith [↓p_mulL, add_new, e2]
  refine ⟨rfl, rfl, ?_⟩
  have n2 := add_at (o' := .lst [(y.cut row).d]) n1
  have dr2 := dr1.addN (o := .lst [(y.cut row).d])
  have k2 := k1.addN (o := .lst [(y.cut row).d])
  generalize S1.add (.lst [(y.cut row).d]) = S2 at n2 dr2 k2
  rw [show repL [(y.cut row).d] (Int.toNat 2) = [(y.cut row).d, (y.cut row).d] from rfl, show_two hyc add_new]
  have n3 := add_at (o' := .lst [(y.cut row).d, (y.cut row).d]) n2
  have dr3 := dr2.addN (o := .lst [(y.cut row).d, (y.cut row).d])
  have k3 := k2.addN (o := .lst [(y.cut row).d, (y.cut row).d])
  generalize S2.add (.lst [(y.cut row).d, (y.cut row).d]) = S3 at n3 dr3 k3
  simp_arith [q_str, n3]
  obtain ⟨B, bs, t⟩ := S3
  obtain rfl : t = false := k3.cl
  obtain rfl : bs = [] := k3.bs.trans hb
  have n3' : B[nm]? = some (.lst (y.free.map enc)) := n3
  refine comp_pure' (α := Link) (enc := enc) (B := B) (bs := []) (l := y.free) (fun l => !decide (l ∈ row)) (fun l => enc l) (of_live n3' rfl) rfl rfl (by simp) (by omega) (by simp) (fun l hl acc => ?b1) ?b2
  case b1 =>
    have hin : ∀ S : Sto, in? S (enc l) (enc row) = some (decide (l ∈ row)) := fun S => in_seq (l := row) rfl (by decide)
    simp_arith [hin]
    exact fun _ => trivial
  case b2 =>
    generalize hleft : y.free.filter (fun l => !decide (l ∈ row)) = left
    have hlf : ∀ l ∈ left, l ∈ y.free ∧ l ∉ row := fun l hl => by
      rw [← hleft] at hl
      obtain ⟨a, b⟩ := List.mem_filter.mp hl
      exact ⟨a, by simpa using b⟩
    have hll : left.length ≤ 15 := by rw [← hleft]; exact Nat.le_trans (List.length_filter_le _ _) h15
    have k4 : Kp [r] S ⟨B ++ [.lst (left.map enc)], [], false⟩ := k3.addN
    have dr4 : DrawS ⟨B ++ [.lst (left.map enc)], [], false⟩ r c sp := dr3.addN
    have n4 : (⟨B ++ [.lst (left.map enc)], [], false⟩ : Sto).objs[B.length]? = some (.lst (left.map enc)) := by simp
    generalize (⟨B ++ [.lst (left.map enc)], [], false⟩ : Sto) = S4 at k4 dr4 n4
    simp_arith [e3, e2]
    split
    · rename_i hsound
      refine ⟨rfl, ?_⟩
      have q := q_list (α := Link) (S := S4.add (.lst [])) (l := left) (l' := []) (add_at n4) rfl add_new rfl (by decide)
      rw [q, op_some]
      by_cases he : left = []
      · rw [if_neg (by simp [he])]
        exact nx _ _ k4.addN (dr4.addN.mono (by omega))
      · rw [if_pos (by simp [he])]
        refine (K.one (S4.add (.lst [])) r c B.length _ _ k4.cl dr4.addN (by omega) (add_at n4) (by simpa using he) (by simp; omega) (fun d hd => by obtain ⟨q, _, rfl⟩ := List.mem_map.mp hd; exact Enc.flat _ _)).mono fun d S5 ⟨w1, w2, w3, w4⟩ => ?_
        obtain ⟨l, hl, rfl⟩ := List.mem_map.mp w1
        obtain ⟨g1, g2⟩ := hlf l hl
        have e4 := K.cuts S5 (y.cut row) [l] hyc (by simp [Inc]) (fun z hz => by rw [List.mem_singleton.mp hz]; exact cut_free g1 g2) (by simp)
        rw [enc_list, List.map_cons, List.map_nil] at e4
        have e5 := K.sound S5 ((y.cut row).cut [l]) (hyc.cut [l])
        have e6 : (leastSigns ((y.cut row).cut [l]) []).isSome = true := fit_more [l] hsound
        rw [e6] at e5
        refine ⟨rfl, ?_⟩
        simp_arith [e4, e5]
        exact nx _ _ (k4.addN.trans w3) (w4.mono (by omega))
    · exact nx _ _ k4 (dr4.mono (by omega))
end
end Sw

/-! T3: law k19, whole. -/
namespace Sw
open PySem L2 Enc
local macro_rules | `(tactic| simp_arith [$xs,*]) => `(tactic| simp only [↓e_lit, ↓e_var, ↓e_bin, ↓e_cmp, ↓e_chain, ↓e_neg, ↓e_not, ↓e_and, ↓e_or, ↓e_ite, ↓e_tup, ↓e_lst, ↓e_dnewT, ↓e_dnewF, ↓e_ix, ↓e_sl, ↓p_none, ↓p_some, ↓e_call, ↓e_bi, ↓e_isi, ↓e_app, ↓e_pop, ↓e_get, ↓e_rev, ↓e_lenum, ↓e_dispk, ↓op_srcR, ↓op_enumR, ↓op_zipR, turns_live, turns_enumL, turns_zipL, turns_items, turns_enumI, turns_zipI, turns_range, Option.bind_some, Option.elim_some, ↓e_comp, ↓s_wh, ↓a_nil, ↓a_cons, ↓a_star, ↓g_name, ↓g_tup, ↓gs_nil, ↓gs_cons, ↓s_nil, ↓s_cons, ↓s_expr, ↓s_ret, ↓s_asg, ↓s_aug, ↓s_put, ↓s_ite, ↓s_pass, ↓s_brk, ↓s_cont, ↓i_e, ↓i_r1, ↓i_r2, ↓i_enum, ↓i_zip, ↓s_fo, ↓look_z, ↓look_s, ↓tb_bl, ↓ti_int, ↓tr_ref, ↓tt_tup, ↓op_some, ↓to_ok, ↓st_nx, ↓st_rt, ↓st_bk, ↓st_ct, List.set_cons_zero, List.set_cons_succ, boD, coD, biN, aoD, ↓p_addI, ↓p_addT, ↓p_addL, ↓p_sub, ↓p_mul, ↓p_fdiv, ↓p_mod, ↓p_pow, ↓p_iaddI, ↓p_iaddL, ↓p_isub, ↓p_lt, ↓p_gt, ↓p_le, ↓p_ge, ↓p_eq, ↓p_ne, ↓p_in, ↓p_notIn, ↓q_int, ↓p_isNN, ↓p_isTN, ↓p_isIN, ↓p_isRN, ↓p_isntNN, ↓p_isntTN, ↓p_isntIN, ↓p_isntRN, ↓p_isBB, ↓p_isntBB, ↓p_ixT, ↓p_ixR, ↓p_slT, ↓p_slR, ↓p_lenT, ↓p_lenR, ↓p_intI, ↓p_intB, ↓p_min, ↓p_max, ↓p_bl, ↓p_sum, ↓p_tupleT, ↓p_tupleR, ↓p_listT, ↓p_listR, ↓p_app, ↓p_pop0, ↓p_popI, ↓p_get1, ↓p_revT, ↓p_revR, ↓p_isi, ↓op_dput, ↓op_list, src_tup, enum_tup, zip_tup, seqO_lst, seqO_frz, lstO_lst, lenO_lst, lenO_frz, ixO_lst, isLst_lst, seqOf_tup, decide_eq_true_eq, List.length_cons, List.length_nil, Nat.beq, true_and, Nat.reduceAdd, List.getElem?_cons_zero, List.getElem?_cons_succ, get_app0, get_app, set_app0, set_app, List.append_assoc, List.cons_append, List.nil_append, List.length_append, wipeE, ↓op_map, ↓atI_map, atI_0, atI_1, atI_2, atI_3, List.length_map, st_enter, st_add, st_putT, st_len, bw_int, bw_bl, bw_non, bw_str, bw_tup, bws_nil, bws_cons, Enc.flat, flats, Bool.and_true, Bool.and_self, isT_tup, sub_TT, List.any_cons, List.any_nil, Bool.or_false, Bool.not_true, Bool.not_false, if_true, if_false, Bool.false_eq_true, decide_true, decide_false, $xs,*])
theorem free_links {y : Lay} {l : Link} (h : l ∈ y.free) : l ∈ y.links := by
  obtain ⟨q, hq, rfl, _⟩ := mem_free.mp h
  exact List.mem_map.mpr ⟨q, hq, rfl⟩
theorem show_rows {y : Lay} (hy : y.Ok) {row : List Link} (hl : ∀ l ∈ row, l ∈ y.links) (h15 : row.length ≤ 15) {S' : Sto} {n : Nat} {Q : D → Sto → Prop} (g1 : S'.objs[n]? = some (.lst [enc row, enc row])) : (reprN [.ref n] S').To Q = Q (.str (PyData.list [Enc.pd row, Enc.pd row]).shown) S' := by
  have slo : okP (Enc.pd row) = true := by
    refine okP_list fun q hq => ?_
    obtain ⟨rr, hr, rfl⟩ := link_row (hl q hq)
    obtain ⟨i, kk, j, b, h1, h2, rfl⟩ := mem_rows.mp hr
    have hi := (List.getElem?_eq_some_iff.mp h1).1
    have hk := (List.getElem?_eq_some_iff.mp h2).1
    have := hy.jn
    have := (hy.b1 j (List.mem_of_getElem? h1)).2
    exact okP_pair (okP_int (show okI (i : Int) from ⟨by omega, by omega⟩)) (okP_int (show okI (kk : Int) from ⟨by omega, by omega⟩))
  have sln : nodes (Enc.pd row) ≤ 1 + row.length * 3 := nodes_list fun q _ => by rw [nodes_pair, nodes_int, nodes_int]; omega
  have sld : (Enc.pd row).depth ≤ 10 := Nat.le_trans (Enc.depth row) (by decide)
  refine p_repr (res_two g1 (Enc.res _ _) (Enc.res _ _)) ?_ ?_ ?_
  · simp only [okP, okPs, slo, Bool.and_self]
  · simp only [nodes, nodesL]; omega
  · simp only [PyData.depth, PyData.depthAll]; omega
section
variable {F : Nat → Fn} {iB iY iO iL iE iC iN iW iD iT : Nat} (K : K19F F iB iY iO iL iE iC iN iW iD iT) {S : Sto} {k : Ks} {d0 d1 d2 d3 d4 d5 d6 d7 d8 d9 d10 d11 d12 : Option D}
include K
theorem k19_main {n0 : Nat} {ns : List Int} {j : Nat} (hj : j ≤ 100) (hl63 : ns.length ≤ 63) (hc : S.dirty = false) (hb : S.bs = []) (h0 : S.objs[n0]? = some (.frz (ns.map D.int)))
    (nx : ∀ S' e2 e3 e4 e5 e6 e7 e8 e9 e10 e11 e12, Kp [] S S' → k.nx [some (.ref n0), some (.int (j : Nat)), e2, e3, e4, e5, e6, e7, e8, e9, e10, e11, e12] S') :
    (svs F (k19Main iB iY iO iL iE iC iN iW iD iT) [some (.ref n0), some (.int (j : Nat)), d2, d3, d4, d5, d6, d7, d8, d9, d10, d11, d12] S).To k := by
  simp only [k19Main]
  try simp_arith [Nat.reduceAdd]
  refine (K.begun S n0 ns j hc h0 hl63 hj).mono fun d S1 ⟨r, c, q1, k1, dr1, hrS⟩ => ?_
  subst q1
  try simp_arith [Nat.reduceAdd]
  refine ⟨rfl, ?_⟩
  refine (K.one (S1.add (.lst [.int 0, .int 4, .int 6])) r c S1.len 0 _ k1.cl dr1.addN (by decide) add_new (by simp) (by simp) (by simp [bw_int])).mono fun d S2 ⟨w1, w2, w3, w4⟩ => ?_
  have : ∃ w : Int, d = .int w ∧ 0 ≤ w ∧ w ≤ 6 := by
    simp only [List.mem_cons, List.not_mem_nil, or_false] at w1
    rcases w1 with rfl | rfl | rfl
    · exact ⟨_, rfl, by decide, by decide⟩
    · exact ⟨_, rfl, by decide, by decide⟩
    · exact ⟨_, rfl, by decide, by decide⟩
  obtain ⟨cu, rfl, cu1, cu2⟩ := this
  try simp_arith [Nat.reduceAdd]
  refine ⟨rfl, ?_⟩
  refine (K.one (S2.add (.lst [.int 0, .int 1, .int 3, .int 6])) r c S2.len _ _ w3.cl w4.addN (by decide) add_new (by simp) (by simp) (by simp [bw_int])).mono fun d S3 ⟨v1, v2, v3, v4⟩ => ?_
  have : ∃ w : Int, d = .int w ∧ 0 ≤ w ∧ w ≤ 6 := by
    simp only [List.mem_cons, List.not_mem_nil, or_false] at v1
    rcases v1 with rfl | rfl | rfl | rfl
    · exact ⟨_, rfl, by decide, by decide⟩
    · exact ⟨_, rfl, by decide, by decide⟩
    · exact ⟨_, rfl, by decide, by decide⟩
    · exact ⟨_, rfl, by decide, by decide⟩
  obtain ⟨fe, rfl, fe1, fe2⟩ := this
  try simp_arith [Nat.reduceAdd]
  refine (K.layout S3 r c _ 6 cu fe v3.cl v4 (by decide) (by decide) (by decide) cu1 (by omega) fe1 (by omega)).mono fun d S4 ⟨y, y1, hy, y3, y4, y5, dr4⟩ => ?_
  subst y1
  have own : ∀ i ∈ [r], i ∈ ([] : List Nat) ∨ S.len ≤ i := fun i hi => .inr (by simp only [List.mem_singleton] at hi; omega)
  have k4 : Kp [] S S4 := ((k1.addN.own w3 own).addN.own v3 own).own y5 own
  clear y5 v3 w3
  have el := K.links S4 y hy
  simp_arith [el, add_new]
  obtain ⟨B, bs, t⟩ := S4
  obtain rfl : t = false := k4.cl
  obtain rfl : bs = [] := k4.bs.trans hb
  refine comp_pure' (α := Rw) (enc := rowD) (B := B ++ [.lst (y.rows.map rowD)]) (bs := []) (l := y.rows) (fun r => decide (r.2.2.2 = 0)) (fun r => enc r.1) (of_live (o := .lst (y.rows.map rowD)) get_app0 rfl) (by simp [Sto.add]) (by simp [Sto.len, Sto.add]) (by simp) (by have := rows_len hy; omega) (by simp) (fun q hq acc => ?_) ?_
  · simp only [rowD]
    try simp_arith [Nat.reduceAdd]
    exact fun _ => trivial
  · have elk : ((y.rows.filter fun r => decide (r.2.2.2 = 0)).map fun r => (enc r.1 : D)) = y.free.map enc := by rw [Lay.free, List.map_map]; rfl
    rw [elk]
    have k5 : Kp [] S ⟨B ++ [.lst (y.rows.map rowD)] ++ [.lst (y.free.map enc)], [], false⟩ := k4.addN.addN
    have dr5 : DrawS ⟨B ++ [.lst (y.rows.map rowD)] ++ [.lst (y.free.map enc)], [], false⟩ r c (0 + 1 + 1 + 1000) := dr4.addN.addN
    have nm5 : (⟨B ++ [.lst (y.rows.map rowD)] ++ [.lst (y.free.map enc)], [], false⟩ : Sto).objs[(B ++ [O.lst (y.rows.map rowD)]).length]? = some (.lst (y.free.map enc)) := by simp
    have hnm : S.len ≤ (B ++ [O.lst (y.rows.map rowD)]).length := k4.addN.len
    generalize (⟨B ++ [.lst (y.rows.map rowD)] ++ [.lst (y.free.map enc)], [], false⟩ : Sto) = S5 at k5 dr5 nm5
    generalize (B ++ [O.lst (y.rows.map rowD)]).length = nm at nm5 hnm
    obtain ⟨cc, hcc⟩ := least_ex (free_inc y) (free_fits hy)
    have h15 := free_15 hy
    have hcl := hcc.sub.length_le
    have e1 := K.first S5 y nm cc k5.cl hy nm5 hcc
    have e2 := fun S' => K.least S' y cc hy hcc
    have e3 := fun S' => K.cuts S' y cc hy ((free_inc y).sublist hcc.sub) (fun l hl => hcc.sub.subset hl) (by omega)
    have e4 : ∀ S', F iN [(y.cut cc).d] S' = .ok (.bl true) S' := fun S' => by
      have := K.sound S' (y.cut cc) (hy.cut cc)
      rw [show (leastSigns (y.cut cc) []).isSome = true from hcc.fit] at this
      exact this
    simp_arith [e1, e2]
    refine ⟨rfl, ?_⟩
    rw [show_rows hy (fun l hl => free_links (hcc.sub.subset hl)) (by omega) add_new]
    have n6 := add_at (o' := .lst [enc cc, enc cc]) nm5
    have k6 := k5.addN (o := .lst [enc cc, enc cc])
    have dr6 := dr5.addN (o := .lst [enc cc, enc cc])
    generalize S5.add (.lst [enc cc, enc cc]) = S6 at n6 k6 dr6
    refine ⟨rfl, ?_⟩
    rw [show_rows hy (fun l hl => free_links (hcc.sub.subset hl)) (by omega) add_new]
    have n7 := add_at (o' := .lst [enc cc, enc cc]) n6
    have k7 := k6.addN (o := .lst [enc cc, enc cc])
    have dr7 := dr6.addN (o := .lst [enc cc, enc cc])
    generalize S6.add (.lst [enc cc, enc cc]) = S7 at n7 k7 dr7
    simp_arith [q_str, e3, e4, show okR 3 = true by decide]
    obtain ⟨I, hI⟩ : ∃ I : List Nat → En → Sto → Prop, ∀ done ρ S', I done ρ S' ↔ ∃ e5 e6 e7 e8 e9 e10 e11 e12 : Option D, ρ = [some (.ref n0), some (.int (j : Nat)), some (.ref r), some y.d, some (.ref nm), e5, e6, e7, e8, e9, e10, e11, e12] ∧ Kp [] S S' ∧ DrawS S' r c (1002 + 16 * done.length) ∧ S'.objs[nm]? = some (.lst (y.free.map enc)) := ⟨_, fun _ _ _ => Iff.rfl⟩
    rw [show Int.toNat 3 = 3 from rfl]
    refine for_fix (l := List.range 3) (enc := fun i => D.int (0 + (i : Nat))) ?a1 ?a2 I ?a3 ?a4 ?a5
    case a1 => simpa using fix_range (lo := 0) (n := 3)
    case a2 => simp
    case a3 => exact (hI _ _ _).mpr ⟨_, _, _, _, _, _, _, _, rfl, k7, dr7.mono (by simp), n7⟩
    case a4 =>
      intro done i rest ρ S8 e h
      obtain ⟨e5, e6, e7, e8, e9, e10, e11, e12, hρ, b1, b2, b3⟩ := (hI _ _ _).mp h
      subst hρ
      obtain ⟨hi, hil⟩ := range_split e
      try simp_arith [Nat.reduceAdd]
      simp only [k19Turn]
      rw [s_cons]
      have hnr := b2.ne b3
      refine k19_t0 K hy b2 (by omega) b1.cl b3 fun row S9 g1 g3 g4 => ?_
      have n9 := g3.at b3 (by simpa using hnr)
      refine k19_rest K hy g4 (by omega) g3.cl (g3.bs.trans (b1.bs.trans hb)) n9 g1 fun S10 f8 f1 f2 => ?_
      refine (hI _ _ _).mpr ⟨_, _, _, _, _, _, _, _, rfl, ?_, ?_, ?_⟩
      · exact (b1.own g3 own).own f1 own
      · exact f2.mono (by simp; omega)
      · exact f1.at n9 (by simpa using hnr)
    case a5 =>
      intro ρ S8 h
      obtain ⟨e5, e6, e7, e8, e9, e10, e11, e12, hρ, b1, b2, b3⟩ := (hI _ _ _).mp h
      subst hρ
      exact nx _ _ _ _ _ _ _ _ _ _ _ _ b1
end
theorem k19_law {F : Nat → Fn} {iB iY iO iL iE iC iN iW iD iT : Nat} (K : K19F F iB iY iO iL iE iC iN iW iD iT) (ns : List Int) (hl : ns.length ≤ 63) :
    isRT (svs F (k19B iB iY iO iL iE iC iN iW iD iT) (some (.ref 0) :: List.replicate 12 none) ⟨[.frz (ns.map D.int)], [], false⟩) = true := by
  refine isRT_of ?_
  simp only [k19B, List.replicate]
  simp_arith []
  generalize hm : (1 + if (6 : Int) < ns.length then (6 : Int) else ns.length) = m
  have hm1 : 0 ≤ m ∧ m ≤ 7 := by rw [← hm]; split <;> omega
  refine ⟨by simp only [okR, Bool.and_eq_true, decide_eq_true_eq]; omega, ?_⟩
  obtain ⟨I, hI⟩ : ∃ I : List Nat → En → Sto → Prop, ∀ done ρ S', I done ρ S' ↔ ∃ e1 e2 e3 e4 e5 e6 e7 e8 e9 e10 e11 e12 : Option D, ρ = [some (.ref 0), e1, e2, e3, e4, e5, e6, e7, e8, e9, e10, e11, e12] ∧ S'.objs[0]? = some (.frz (ns.map D.int)) ∧ S'.dirty = false ∧ S'.bs = [] := ⟨_, fun _ _ _ => Iff.rfl⟩
  refine for_fix (l := List.range m.toNat) (enc := fun i => D.int (0 + (i : Nat))) ?a1 ?a2 I ?a3 ?a4 ?a5
  case a1 => simpa using fix_range (lo := 0) (n := m.toNat)
  case a2 => simp
  case a3 => exact (hI _ _ _).mpr ⟨_, _, _, _, _, _, _, _, _, _, _, _, rfl, rfl, rfl, rfl⟩
  case a4 =>
    intro done i rest ρ S e h
    obtain ⟨e1, e2, e3, e4, e5, e6, e7, e8, e9, e10, e11, e12, hρ, b1, b2, b3⟩ := (hI _ _ _).mp h
    subst hρ
    obtain ⟨hi, hil⟩ := range_split e
    simp_arith [Int.zero_add]
    refine k19_main K (j := i) (by omega) hl b2 b3 b1 fun S' f2 f3 f4 f5 f6 f7 f8 f9 f10 f11 f12 kp => ?_
    exact (hI _ _ _).mpr ⟨_, _, _, _, _, _, _, _, _, _, _, _, rfl, kp.at b1 (by simp), kp.cl, kp.bs.trans b3⟩
  case a5 =>
    intro ρ S h
    obtain ⟨e1, e2, e3, e4, e5, e6, e7, e8, e9, e10, e11, e12, hρ, b1, b2, b3⟩ := (hI _ _ _).mp h
    subst hρ
    try simp_arith [Nat.reduceAdd]
end Sw

namespace K19
open PySem PySem.Spec PyProof.Rows L2
/-! the head -/
def tp (i : Nat) : Stmt := PySem.Challenge.pw_swaprails_k19_whole_cuts.main.body.getD i (.Pass ⟨0, 0, 0, 0⟩)
def e0 : He.DefD := ⟨("is_integer", none), "is_integer", "is_integer", defArgs (tp 10), defBody (tp 10), defScope (tp 10), [], []⟩
def e1 : He.DefD := ⟨("are_lengths", none), "are_lengths", "are_lengths", defArgs (tp 11), defBody (tp 11), defScope (tp 11), [], []⟩
def e2 : He.DefD := ⟨("is_pair_to", none), "is_pair_to", "is_pair_to", defArgs (tp 12), defBody (tp 12), defScope (tp 12), [], []⟩
def e3 : He.DefD := ⟨("is_branch", none), "is_branch", "is_branch", defArgs (tp 13), defBody (tp 13), defScope (tp 13), [], []⟩
def e4 : He.DefD := ⟨("is_joint", none), "is_joint", "is_joint", defArgs (tp 14), defBody (tp 14), defScope (tp 14), [], []⟩
def e5 : He.DefD := ⟨("all_ends", none), "all_ends", "all_ends", defArgs (tp 15), defBody (tp 15), defScope (tp 15), [], []⟩
def e6 : He.DefD := ⟨("are_feeds", none), "are_feeds", "are_feeds", defArgs (tp 16), defBody (tp 16), defScope (tp 16), [], []⟩
def e7 : He.DefD := ⟨("wrong_joint", none), "wrong_joint", "wrong_joint", defArgs (tp 17), defBody (tp 17), defScope (tp 17), [], []⟩
def e8 : He.DefD := ⟨("need_layout", none), "need_layout", "need_layout", defArgs (tp 18), defBody (tp 18), defScope (tp 18), [], []⟩
def e9 : He.DefD := ⟨("links_of", none), "links_of", "links_of", defArgs (tp 19), defBody (tp 19), defScope (tp 19), [], []⟩
def e10 : He.DefD := ⟨("is_link", none), "is_link", "is_link", defArgs (tp 20), defBody (tp 20), defScope (tp 20), [], []⟩
def e11 : He.DefD := ⟨("ends_in", none), "ends_in", "ends_in", defArgs (tp 21), defBody (tp 21), defScope (tp 21), [], []⟩
def e12 : He.DefD := ⟨("is_cut_in", none), "is_cut_in", "is_cut_in", defArgs (tp 22), defBody (tp 22), defScope (tp 22), [], []⟩
def e13 : He.DefD := ⟨("crossing", none), "crossing", "crossing", defArgs (tp 23), defBody (tp 23), defScope (tp 23), [], []⟩
def e14 : He.DefD := ⟨("ties_in", none), "ties_in", "ties_in", defArgs (tp 28), defBody (tp 28), defScope (tp 28), [], []⟩
def e15 : He.DefD := ⟨("spread", none), "spread", "spread", defArgs (tp 29), defBody (tp 29), defScope (tp 29), [], []⟩
def e16 : He.DefD := ⟨("signs_in", none), "signs_in", "signs_in", defArgs (tp 30), defBody (tp 30), defScope (tp 30), [], []⟩
def e17 : He.DefD := ⟨("is_sound", none), "is_sound", "is_sound", defArgs (tp 31), defBody (tp 31), defScope (tp 31), [], []⟩
def e18 : He.DefD := ⟨("are_cuts", none), "are_cuts", "are_cuts", defArgs (tp 33), defBody (tp 33), defScope (tp 33), [], []⟩
def e19 : He.DefD := ⟨("cut_by", none), "cut_by", "cut_by", defArgs (tp 34), defBody (tp 34), defScope (tp 34), [], []⟩
def e20 : He.DefD := ⟨("with_cuts", none), "with_cuts", "with_cuts", defArgs (tp 35), defBody (tp 35), defScope (tp 35), [], []⟩
def e21 : He.DefD := ⟨("one_longer", none), "one_longer", "one_longer", defArgs (tp 36), defBody (tp 36), defScope (tp 36), [], []⟩
def e22 : He.DefD := ⟨("least_cuts", none), "least_cuts", "least_cuts", defArgs (tp 37), defBody (tp 37), defScope (tp 37), [], []⟩
def e23 : He.DefD := ⟨("_law_begun", none), "_law_begun", "_law_begun", defArgs (tp 39), defBody (tp 39), defScope (tp 39), [], []⟩
def e24 : He.DefD := ⟨("_law_draw", none), "_law_draw", "_law_draw", defArgs (tp 40), defBody (tp 40), defScope (tp 40), [], []⟩
def e25 : He.DefD := ⟨("_law_of", none), "_law_of", "_law_of", defArgs (tp 41), defBody (tp 41), defScope (tp 41), [], []⟩
def e26 : He.DefD := ⟨("_law_layout", none), "_law_layout", "_law_layout", defArgs (tp 42), defBody (tp 42), defScope (tp 42), [], []⟩
def e27 : He.DefD := ⟨("_law_links", none), "_law_links", "_law_links", defArgs (tp 43), defBody (tp 43), defScope (tp 43), [], []⟩
def e28 : He.DefD := ⟨("_law_root", none), "_law_root", "_law_root", defArgs (tp 44), defBody (tp 44), defScope (tp 44), [], []⟩
def e29 : He.DefD := ⟨("_law_tied", none), "_law_tied", "_law_tied", defArgs (tp 45), defBody (tp 45), defScope (tp 45), [], []⟩
def e30 : He.DefD := ⟨("_law_fits", none), "_law_fits", "_law_fits", defArgs (tp 46), defBody (tp 46), defScope (tp 46), [], []⟩
def e31 : He.DefD := ⟨("_law_with", none), "_law_with", "_law_with", defArgs (tp 47), defBody (tp 47), defScope (tp 47), [], []⟩
def e32 : He.DefD := ⟨("_law_first", none), "_law_first", "_law_first", defArgs (tp 48), defBody (tp 48), defScope (tp 48), [], []⟩
def e33 : He.DefD := ⟨("law", none), "law", "law", defArgs (tp 49), defBody (tp 49), defScope (tp 49), [], []⟩
def fn : List He.DefD := [e0, e1, e2, e3, e4, e5, e6, e7, e8, e9, e10, e11, e12, e13, e14, e15, e16, e17, e18, e19, e20, e21, e22, e23, e24, e25, e26, e27, e28, e29] ++ [e30, e31, e32, e33]
def fa : List He.Fa := [.glo "is_integer", .glo "are_lengths", .glo "is_pair_to", .glo "is_branch", .glo "is_joint", .glo "all_ends", .glo "are_feeds", .glo "wrong_joint", .glo "need_layout", .glo "links_of", .glo "is_link", .glo "ends_in", .glo "is_cut_in", .glo "crossing", .glo "ties_in", .glo "spread", .glo "signs_in", .glo "is_sound", .glo "are_cuts", .glo "cut_by", .glo "with_cuts", .glo "one_longer", .glo "least_cuts", .glo "_law_begun", .glo "_law_draw", .glo "_law_of", .glo "_law_layout", .glo "_law_links", .glo "_law_root", .glo "_law_tied"] ++ [.glo "_law_fits", .glo "_law_with", .glo "_law_first", .glo "law", .free "len", .free "int", .free "min", .free "max", .free "all", .free "any", .free "sum", .free "tuple", .free "list", .free "isinstance", .free "bool", .free "str", .free "dict", .free "range", .free "enumerate", .free "zip", .free "sorted", .free "repr", .int "MOST_PIECES" 10, .int "LEAST_CELLS" 2, .int "MOST_CELLS" 9, .int "MOST_JOINTS" 10, .int "MOST_BRANCHES" 3, .int "POWER" (-1), .str "LINK" "link", .str "FEED" "feed"]
def loose : List Str := (["__name__", "RailError", "BadLayout", "BadCuts", "MOST_PIECES", "LEAST_CELLS", "MOST_CELLS", "MOST_JOINTS", "MOST_BRANCHES", "is_integer", "are_lengths", "is_pair_to", "is_branch", "is_joint", "all_ends", "are_feeds", "wrong_joint", "need_layout", "links_of", "is_link", "ends_in", "is_cut_in", "crossing", "POWER", "LINK", "FEED", "ties_in", "spread", "signs_in", "is_sound"] : List Str) ++ (["are_cuts", "cut_by", "with_cuts", "one_longer", "least_cuts", "_law_begun", "_law_draw", "_law_of", "_law_layout", "_law_links", "_law_root", "_law_tied", "_law_fits", "_law_with", "_law_first"] : List Str)
abbrev R : PySem.W.OpenRow := PySem.W.OpenLaw.row PySem.Challenge.rw_swaprails_k19_whole_cuts
abbrev hk : PySem.W.Hook := Sw.hookN 4 fa fn
def ob (s : PySem.W.SharedT) : He.AlD × Bool := Sw.obsNG 4 fa fn (HandSHeadRun.getT s)
theorem ob_eq (s : PySem.W.SharedT) : ob s = hk.obs s.abs := Sw.obsNG_eq (HandSHeadRun.getT_eq s)
theorem run (w : World) : HandSHeadRun.RunEq R (PySem.W.view R.prog [49]) hk ob 4000 loose w := by
  intro os
  kernel_rfl
end K19


namespace K19
open PySem PySem.Spec PyProof.Rows L2 Sw
def top (i : Nat) : Stmt := PySem.Challenge.pw_swaprails_k19_whole_cuts.main.body.getD i (.Pass ⟨0, 0, 0, 0⟩)
def d0 : Df := ⟨"is_integer", top 10, ["value", "least", "most"], ["value", "least", "most"], false, 200⟩
def d1 : Df := ⟨"are_lengths", top 11, ["value"], ["value", "one"], false, 200⟩
def d2 : Df := ⟨"is_pair_to", top 12, ["value", "most"], ["value", "most"], false, 200⟩
def d3 : Df := ⟨"is_branch", top 13, ["value", "most"], ["value", "most"], false, 200⟩
def d4 : Df := ⟨"is_joint", top 14, ["value", "most"], ["value", "most", "one"], false, 200⟩
def d5 : Df := ⟨"all_ends", top 15, ["joint"], ["joint", "branch"], false, 200⟩
def d6 : Df := ⟨"are_feeds", top 16, ["value", "most"], ["value", "most", "one", "other"], false, 200⟩
def d7 : Df := ⟨"wrong_joint", top 17, ["joints", "most"], ["joints", "most", "met", "number", "joint", "end"], false, 200⟩
def d8 : Df := ⟨"need_layout", top 18, ["thing"], ["thing", "most", "number"], false, 200⟩
def d9 : Df := ⟨"links_of", top 19, ["layout"], ["layout", "found", "number", "joint", "place"], false, 200⟩
def d10 : Df := ⟨"is_link", top 20, ["layout", "value"], ["layout", "value"], false, 200⟩
def d11 : Df := ⟨"ends_in", top 21, ["layout", "link"], ["layout", "link", "joint"], false, 200⟩
def d12 : Df := ⟨"is_cut_in", top 22, ["layout", "link"], ["layout", "link"], false, 200⟩
def d13 : Df := ⟨"crossing", top 23, ["layout", "link"], ["layout", "link", "one", "other"], false, 200⟩
def d14 : Df := ⟨"ties_in", top 28, ["layout", "span"], ["layout", "span", "found", "link", "one", "other", "piece", "bit"], false, 200⟩
def d15 : Df := ⟨"spread", top 29, ["ties", "node", "sign", "known"], ["ties", "node", "sign", "known", "waiting", "here", "one", "other", "unlike", "step", "near", "far", "due"], false, 200⟩
def d16 : Df := ⟨"signs_in", top 30, ["layout", "span"], ["layout", "span", "piece", "ties", "known"], false, 200⟩
def d17 : Df := ⟨"is_sound", top 31, ["layout"], ["layout"], false, 200⟩
def d18 : Df := ⟨"are_cuts", top 33, ["layout", "value"], ["layout", "value", "link", "one", "other"], false, 200⟩
def d19 : Df := ⟨"cut_by", top 34, ["layout", "cuts"], ["layout", "cuts", "joints", "number", "row", "stem", "branches", "place", "end", "cut"], false, 200⟩
def d20 : Df := ⟨"with_cuts", top 35, ["layout", "cuts"], ["layout", "cuts"], false, 200⟩
def d21 : Df := ⟨"one_longer", top 36, ["rows", "some"], ["rows", "some", "row", "link"], false, 200⟩
def d22 : Df := ⟨"least_cuts", top 37, ["layout"], ["layout", "some", "rows", "row", "link"], false, 200⟩
def d23 : Df := ⟨"_law_begun", top 39, ["_law_script", "_law_k"], ["_law_script", "_law_k", "_law_cells", "_law_great", "_law_seed", "_law_cell"], false, 200⟩
def d24 : Df := ⟨"_law_draw", top 40, ["_law_m", "_law_many"], ["_law_m", "_law_many", "_law_spot", "_law_cell", "_law_blend", "_law_found", "_law_cells", "_law_added"], false, 200⟩
def d25 : Df := ⟨"_law_of", top 41, ["_law_m", "_law_some"], ["_law_m", "_law_some"], false, 200⟩
def d26 : Df := ⟨"_law_layout", top 42, ["_law_m", "_law_most", "_law_cuts", "_law_feeds"], ["_law_m", "_law_most", "_law_cuts", "_law_feeds", "_law_total", "_law_lengths", "_law_left", "_law_k", "_law_joints", "_law_fed", "_law_many", "_law_stem", "_law_branches", "_law_end"], false, 200⟩
def d27 : Df := ⟨"_law_links", top 43, ["_law_track"], ["_law_track", "_law_found", "_law_number", "_law_stem", "_law_branches", "_law_place", "_law_end", "_law_cut"], false, 200⟩
def d28 : Df := ⟨"_law_root", top 44, ["_law_tree", "_law_node"], ["_law_tree", "_law_node", "_law_odd"], false, 200⟩
def d29 : Df := ⟨"_law_tied", top 45, ["_law_tree", "_law_one", "_law_other", "_law_unlike"], ["_law_tree", "_law_one", "_law_other", "_law_unlike", "_law_near", "_law_odd", "_law_far", "_law_more"], false, 200⟩
def d30 : Df := ⟨"_law_fits", top 46, ["_law_track", "_law_span"], ["_law_track", "_law_span", "_law_tree", "_law_link", "_law_stem", "_law_end", "_law_cut", "_law_piece", "_law_bit", "_law_node"], false, 200⟩
def d31 : Df := ⟨"_law_with", top 47, ["_law_track", "_law_row"], ["_law_track", "_law_row", "_law_joints", "_law_number", "_law_some", "_law_stem", "_law_branches", "_law_place", "_law_end", "_law_cut"], false, 200⟩
def d32 : Df := ⟨"_law_first", top 48, ["_law_track", "_law_some"], ["_law_track", "_law_some", "_law_rows", "_law_link", "_law_many", "_law_row"], false, 200⟩
def d33 : Df := ⟨"law", top 49, ["_law_script"], ["_law_script", "_law_k", "_law_m", "_law_track", "_law_some", "_law_due", "_law_turn", "_law_row", "_law_left", "_law_link", "_law_stem", "_law_end", "_law_cut"], false, 200⟩
def fs : List Str := d0.x :: d1.x :: d2.x :: d3.x :: d4.x :: d5.x :: d6.x :: d7.x :: d8.x :: d9.x :: d10.x :: d11.x :: d12.x :: d13.x :: d14.x :: d15.x :: d16.x :: d17.x :: d18.x :: d19.x :: d20.x :: d21.x :: d22.x :: d23.x :: d24.x :: d25.x :: d26.x :: d27.x :: d28.x :: d29.x :: d30.x :: d31.x :: d32.x :: d33.x :: []
def cs : List (Str × D) := [("MOST_PIECES", .int 10), ("LEAST_CELLS", .int 2), ("MOST_CELLS", .int 9), ("MOST_JOINTS", .int 10), ("MOST_BRANCHES", .int 3), ("POWER", .int (-1)), ("LINK", .str "link"), ("FEED", .str "feed")]
def b0 : Bd := ⟨3, 3, (b_is_integer)⟩
def b1 : Bd := ⟨2, 1, (b_are_lengths 0)⟩
def b2 : Bd := ⟨2, 2, (b_is_pair_to 0)⟩
def b3 : Bd := ⟨2, 2, (b_is_branch 2 0)⟩
def b4 : Bd := ⟨3, 2, (b_is_joint 2 3)⟩
def b5 : Bd := ⟨2, 1, (b_all_ends)⟩
def b6 : Bd := ⟨4, 2, (b_are_feeds 2)⟩
def b7 : Bd := ⟨6, 2, (b_wrong_joint 4 5)⟩
def b8 : Bd := ⟨3, 1, (b_need_layout 1 7 6)⟩
def b9 : Bd := ⟨5, 1, (b_links_of)⟩
def b10 : Bd := ⟨2, 2, (b_is_link 0)⟩
def b11 : Bd := ⟨3, 2, (b_ends_in)⟩
def b12 : Bd := ⟨2, 2, (b_is_cut_in)⟩
def b13 : Bd := ⟨4, 2, (b_crossing 11)⟩
def b14 : Bd := ⟨8, 2, (b_ties_in 9 12 11 13)⟩
def b15 : Bd := ⟨13, 4, (b_spread)⟩
def b16 : Bd := ⟨5, 2, (b_signs_in 14 15)⟩
def b17 : Bd := ⟨1, 1, (b_is_sound 16 8)⟩
def b18 : Bd := ⟨5, 2, (b_are_cuts 10 12)⟩
def b19 : Bd := ⟨10, 2, (b_cut_by)⟩
def b20 : Bd := ⟨2, 2, (b_with_cuts 8 18 19)⟩
def b21 : Bd := ⟨4, 2, (b_one_longer)⟩
def b22 : Bd := ⟨5, 1, (b_least_cuts 8 9 12 16 19 21)⟩
def b23 : Bd := ⟨6, 2, (begunB)⟩
def b24 : Bd := ⟨8, 2, (drawB)⟩
def b25 : Bd := ⟨2, 2, (ofB 24)⟩
def b26 : Bd := ⟨14, 4, (layoutB 24 25)⟩
def b27 : Bd := ⟨8, 1, (b_Llinks)⟩
def b28 : Bd := ⟨3, 2, (b_Lroot)⟩
def b29 : Bd := ⟨8, 4, (b_Ltied 28)⟩
def b30 : Bd := ⟨10, 2, (b_Lfits 27 29)⟩
def b31 : Bd := ⟨10, 2, (b_Lwith)⟩
def b32 : Bd := ⟨6, 2, (b_Lfirst 30 31)⟩
def b33 : Bd := ⟨13, 1, (k19B 23 26 25 27 32 22 17 20 24 31)⟩
def bs : List Bd := b0 :: b1 :: b2 :: b3 :: b4 :: b5 :: b6 :: b7 :: b8 :: b9 :: b10 :: b11 :: b12 :: b13 :: b14 :: b15 :: b16 :: b17 :: b18 :: b19 :: b20 :: b21 :: b22 :: b23 :: b24 :: b25 :: b26 :: b27 :: b28 :: b29 :: b30 :: b31 :: b32 :: b33 :: []
section
variable {K : Frg} {mg : Str → Option Value}
theorem o0 (h : ∃ f fd, FunD K "is_integer" "is_integer" (defArgs (top 10)) (defBody (top 10)) (defScope (top 10)) [] [] f fd ∧ mg "is_integer" = some (.ref f)) : DfOk K mg fs cs 60 d0 b0 where
  fn := h
  sc := ⟨rfl, rfl, rfl, by decide +kernel, rfl, by decide +kernel, by decide +kernel⟩
  bd := fun _ _ _ _ _ _ us hl => match us, hl with | [_, _, _], _ => rfl
  tx := by kernel_rfl
  n := rfl
  ar := rfl
theorem o1 (h : ∃ f fd, FunD K "are_lengths" "are_lengths" (defArgs (top 11)) (defBody (top 11)) (defScope (top 11)) [] [] f fd ∧ mg "are_lengths" = some (.ref f)) : DfOk K mg fs cs 60 d1 b1 where
  fn := h
  sc := ⟨rfl, rfl, rfl, by decide +kernel, rfl, by decide +kernel, by decide +kernel⟩
  bd := fun _ _ _ _ _ _ us hl => match us, hl with | [_], _ => rfl
  tx := by kernel_rfl
  n := rfl
  ar := rfl
theorem o2 (h : ∃ f fd, FunD K "is_pair_to" "is_pair_to" (defArgs (top 12)) (defBody (top 12)) (defScope (top 12)) [] [] f fd ∧ mg "is_pair_to" = some (.ref f)) : DfOk K mg fs cs 60 d2 b2 where
  fn := h
  sc := ⟨rfl, rfl, rfl, by decide +kernel, rfl, by decide +kernel, by decide +kernel⟩
  bd := fun _ _ _ _ _ _ us hl => match us, hl with | [_, _], _ => rfl
  tx := by kernel_rfl
  n := rfl
  ar := rfl
theorem o3 (h : ∃ f fd, FunD K "is_branch" "is_branch" (defArgs (top 13)) (defBody (top 13)) (defScope (top 13)) [] [] f fd ∧ mg "is_branch" = some (.ref f)) : DfOk K mg fs cs 60 d3 b3 where
  fn := h
  sc := ⟨rfl, rfl, rfl, by decide +kernel, rfl, by decide +kernel, by decide +kernel⟩
  bd := fun _ _ _ _ _ _ us hl => match us, hl with | [_, _], _ => rfl
  tx := by kernel_rfl
  n := rfl
  ar := rfl
theorem o4 (h : ∃ f fd, FunD K "is_joint" "is_joint" (defArgs (top 14)) (defBody (top 14)) (defScope (top 14)) [] [] f fd ∧ mg "is_joint" = some (.ref f)) : DfOk K mg fs cs 60 d4 b4 where
  fn := h
  sc := ⟨rfl, rfl, rfl, by decide +kernel, rfl, by decide +kernel, by decide +kernel⟩
  bd := fun _ _ _ _ _ _ us hl => match us, hl with | [_, _], _ => rfl
  tx := by kernel_rfl
  n := rfl
  ar := rfl
theorem o5 (h : ∃ f fd, FunD K "all_ends" "all_ends" (defArgs (top 15)) (defBody (top 15)) (defScope (top 15)) [] [] f fd ∧ mg "all_ends" = some (.ref f)) : DfOk K mg fs cs 60 d5 b5 where
  fn := h
  sc := ⟨rfl, rfl, rfl, by decide +kernel, rfl, by decide +kernel, by decide +kernel⟩
  bd := fun _ _ _ _ _ _ us hl => match us, hl with | [_], _ => rfl
  tx := by kernel_rfl
  n := rfl
  ar := rfl
theorem o6 (h : ∃ f fd, FunD K "are_feeds" "are_feeds" (defArgs (top 16)) (defBody (top 16)) (defScope (top 16)) [] [] f fd ∧ mg "are_feeds" = some (.ref f)) : DfOk K mg fs cs 60 d6 b6 where
  fn := h
  sc := ⟨rfl, rfl, rfl, by decide +kernel, rfl, by decide +kernel, by decide +kernel⟩
  bd := fun _ _ _ _ _ _ us hl => match us, hl with | [_, _], _ => rfl
  tx := by kernel_rfl
  n := rfl
  ar := rfl
theorem o7 (h : ∃ f fd, FunD K "wrong_joint" "wrong_joint" (defArgs (top 17)) (defBody (top 17)) (defScope (top 17)) [] [] f fd ∧ mg "wrong_joint" = some (.ref f)) : DfOk K mg fs cs 60 d7 b7 where
  fn := h
  sc := ⟨rfl, rfl, rfl, by decide +kernel, rfl, by decide +kernel, by decide +kernel⟩
  bd := fun _ _ _ _ _ _ us hl => match us, hl with | [_, _], _ => rfl
  tx := by kernel_rfl
  n := rfl
  ar := rfl
theorem o8 (h : ∃ f fd, FunD K "need_layout" "need_layout" (defArgs (top 18)) (defBody (top 18)) (defScope (top 18)) [] [] f fd ∧ mg "need_layout" = some (.ref f)) : DfOk K mg fs cs 60 d8 b8 where
  fn := h
  sc := ⟨rfl, rfl, rfl, by decide +kernel, rfl, by decide +kernel, by decide +kernel⟩
  bd := fun _ _ _ _ _ _ us hl => match us, hl with | [_], _ => rfl
  tx := by kernel_rfl
  n := rfl
  ar := rfl
theorem o9 (h : ∃ f fd, FunD K "links_of" "links_of" (defArgs (top 19)) (defBody (top 19)) (defScope (top 19)) [] [] f fd ∧ mg "links_of" = some (.ref f)) : DfOk K mg fs cs 60 d9 b9 where
  fn := h
  sc := ⟨rfl, rfl, rfl, by decide +kernel, rfl, by decide +kernel, by decide +kernel⟩
  bd := fun _ _ _ _ _ _ us hl => match us, hl with | [_], _ => rfl
  tx := by kernel_rfl
  n := rfl
  ar := rfl
theorem o10 (h : ∃ f fd, FunD K "is_link" "is_link" (defArgs (top 20)) (defBody (top 20)) (defScope (top 20)) [] [] f fd ∧ mg "is_link" = some (.ref f)) : DfOk K mg fs cs 60 d10 b10 where
  fn := h
  sc := ⟨rfl, rfl, rfl, by decide +kernel, rfl, by decide +kernel, by decide +kernel⟩
  bd := fun _ _ _ _ _ _ us hl => match us, hl with | [_, _], _ => rfl
  tx := by kernel_rfl
  n := rfl
  ar := rfl
theorem o11 (h : ∃ f fd, FunD K "ends_in" "ends_in" (defArgs (top 21)) (defBody (top 21)) (defScope (top 21)) [] [] f fd ∧ mg "ends_in" = some (.ref f)) : DfOk K mg fs cs 60 d11 b11 where
  fn := h
  sc := ⟨rfl, rfl, rfl, by decide +kernel, rfl, by decide +kernel, by decide +kernel⟩
  bd := fun _ _ _ _ _ _ us hl => match us, hl with | [_, _], _ => rfl
  tx := by kernel_rfl
  n := rfl
  ar := rfl
theorem o12 (h : ∃ f fd, FunD K "is_cut_in" "is_cut_in" (defArgs (top 22)) (defBody (top 22)) (defScope (top 22)) [] [] f fd ∧ mg "is_cut_in" = some (.ref f)) : DfOk K mg fs cs 60 d12 b12 where
  fn := h
  sc := ⟨rfl, rfl, rfl, by decide +kernel, rfl, by decide +kernel, by decide +kernel⟩
  bd := fun _ _ _ _ _ _ us hl => match us, hl with | [_, _], _ => rfl
  tx := by kernel_rfl
  n := rfl
  ar := rfl
theorem o13 (h : ∃ f fd, FunD K "crossing" "crossing" (defArgs (top 23)) (defBody (top 23)) (defScope (top 23)) [] [] f fd ∧ mg "crossing" = some (.ref f)) : DfOk K mg fs cs 60 d13 b13 where
  fn := h
  sc := ⟨rfl, rfl, rfl, by decide +kernel, rfl, by decide +kernel, by decide +kernel⟩
  bd := fun _ _ _ _ _ _ us hl => match us, hl with | [_, _], _ => rfl
  tx := by kernel_rfl
  n := rfl
  ar := rfl
theorem o14 (h : ∃ f fd, FunD K "ties_in" "ties_in" (defArgs (top 28)) (defBody (top 28)) (defScope (top 28)) [] [] f fd ∧ mg "ties_in" = some (.ref f)) : DfOk K mg fs cs 60 d14 b14 where
  fn := h
  sc := ⟨rfl, rfl, rfl, by decide +kernel, rfl, by decide +kernel, by decide +kernel⟩
  bd := fun _ _ _ _ _ _ us hl => match us, hl with | [_, _], _ => rfl
  tx := by kernel_rfl
  n := rfl
  ar := rfl
theorem o15 (h : ∃ f fd, FunD K "spread" "spread" (defArgs (top 29)) (defBody (top 29)) (defScope (top 29)) [] [] f fd ∧ mg "spread" = some (.ref f)) : DfOk K mg fs cs 60 d15 b15 where
  fn := h
  sc := ⟨rfl, rfl, rfl, by decide +kernel, rfl, by decide +kernel, by decide +kernel⟩
  bd := fun _ _ _ _ _ _ us hl => match us, hl with | [_, _, _, _], _ => rfl
  tx := by kernel_rfl
  n := rfl
  ar := rfl
theorem o16 (h : ∃ f fd, FunD K "signs_in" "signs_in" (defArgs (top 30)) (defBody (top 30)) (defScope (top 30)) [] [] f fd ∧ mg "signs_in" = some (.ref f)) : DfOk K mg fs cs 60 d16 b16 where
  fn := h
  sc := ⟨rfl, rfl, rfl, by decide +kernel, rfl, by decide +kernel, by decide +kernel⟩
  bd := fun _ _ _ _ _ _ us hl => match us, hl with | [_, _], _ => rfl
  tx := by kernel_rfl
  n := rfl
  ar := rfl
theorem o17 (h : ∃ f fd, FunD K "is_sound" "is_sound" (defArgs (top 31)) (defBody (top 31)) (defScope (top 31)) [] [] f fd ∧ mg "is_sound" = some (.ref f)) : DfOk K mg fs cs 60 d17 b17 where
  fn := h
  sc := ⟨rfl, rfl, rfl, by decide +kernel, rfl, by decide +kernel, by decide +kernel⟩
  bd := fun _ _ _ _ _ _ us hl => match us, hl with | [_], _ => rfl
  tx := by kernel_rfl
  n := rfl
  ar := rfl
theorem o18 (h : ∃ f fd, FunD K "are_cuts" "are_cuts" (defArgs (top 33)) (defBody (top 33)) (defScope (top 33)) [] [] f fd ∧ mg "are_cuts" = some (.ref f)) : DfOk K mg fs cs 60 d18 b18 where
  fn := h
  sc := ⟨rfl, rfl, rfl, by decide +kernel, rfl, by decide +kernel, by decide +kernel⟩
  bd := fun _ _ _ _ _ _ us hl => match us, hl with | [_, _], _ => rfl
  tx := by kernel_rfl
  n := rfl
  ar := rfl
theorem o19 (h : ∃ f fd, FunD K "cut_by" "cut_by" (defArgs (top 34)) (defBody (top 34)) (defScope (top 34)) [] [] f fd ∧ mg "cut_by" = some (.ref f)) : DfOk K mg fs cs 60 d19 b19 where
  fn := h
  sc := ⟨rfl, rfl, rfl, by decide +kernel, rfl, by decide +kernel, by decide +kernel⟩
  bd := fun _ _ _ _ _ _ us hl => match us, hl with | [_, _], _ => rfl
  tx := by kernel_rfl
  n := rfl
  ar := rfl
theorem o20 (h : ∃ f fd, FunD K "with_cuts" "with_cuts" (defArgs (top 35)) (defBody (top 35)) (defScope (top 35)) [] [] f fd ∧ mg "with_cuts" = some (.ref f)) : DfOk K mg fs cs 60 d20 b20 where
  fn := h
  sc := ⟨rfl, rfl, rfl, by decide +kernel, rfl, by decide +kernel, by decide +kernel⟩
  bd := fun _ _ _ _ _ _ us hl => match us, hl with | [_, _], _ => rfl
  tx := by kernel_rfl
  n := rfl
  ar := rfl
theorem o21 (h : ∃ f fd, FunD K "one_longer" "one_longer" (defArgs (top 36)) (defBody (top 36)) (defScope (top 36)) [] [] f fd ∧ mg "one_longer" = some (.ref f)) : DfOk K mg fs cs 60 d21 b21 where
  fn := h
  sc := ⟨rfl, rfl, rfl, by decide +kernel, rfl, by decide +kernel, by decide +kernel⟩
  bd := fun _ _ _ _ _ _ us hl => match us, hl with | [_, _], _ => rfl
  tx := by kernel_rfl
  n := rfl
  ar := rfl
theorem o22 (h : ∃ f fd, FunD K "least_cuts" "least_cuts" (defArgs (top 37)) (defBody (top 37)) (defScope (top 37)) [] [] f fd ∧ mg "least_cuts" = some (.ref f)) : DfOk K mg fs cs 60 d22 b22 where
  fn := h
  sc := ⟨rfl, rfl, rfl, by decide +kernel, rfl, by decide +kernel, by decide +kernel⟩
  bd := fun _ _ _ _ _ _ us hl => match us, hl with | [_], _ => rfl
  tx := by kernel_rfl
  n := rfl
  ar := rfl
theorem o23 (h : ∃ f fd, FunD K "_law_begun" "_law_begun" (defArgs (top 39)) (defBody (top 39)) (defScope (top 39)) [] [] f fd ∧ mg "_law_begun" = some (.ref f)) : DfOk K mg fs cs 60 d23 b23 where
  fn := h
  sc := ⟨rfl, rfl, rfl, by decide +kernel, rfl, by decide +kernel, by decide +kernel⟩
  bd := fun _ _ _ _ _ _ us hl => match us, hl with | [_, _], _ => rfl
  tx := by kernel_rfl
  n := rfl
  ar := rfl
theorem o24 (h : ∃ f fd, FunD K "_law_draw" "_law_draw" (defArgs (top 40)) (defBody (top 40)) (defScope (top 40)) [] [] f fd ∧ mg "_law_draw" = some (.ref f)) : DfOk K mg fs cs 60 d24 b24 where
  fn := h
  sc := ⟨rfl, rfl, rfl, by decide +kernel, rfl, by decide +kernel, by decide +kernel⟩
  bd := fun _ _ _ _ _ _ us hl => match us, hl with | [_, _], _ => rfl
  tx := by kernel_rfl
  n := rfl
  ar := rfl
theorem o25 (h : ∃ f fd, FunD K "_law_of" "_law_of" (defArgs (top 41)) (defBody (top 41)) (defScope (top 41)) [] [] f fd ∧ mg "_law_of" = some (.ref f)) : DfOk K mg fs cs 60 d25 b25 where
  fn := h
  sc := ⟨rfl, rfl, rfl, by decide +kernel, rfl, by decide +kernel, by decide +kernel⟩
  bd := fun _ _ _ _ _ _ us hl => match us, hl with | [_, _], _ => rfl
  tx := by kernel_rfl
  n := rfl
  ar := rfl
theorem o26 (h : ∃ f fd, FunD K "_law_layout" "_law_layout" (defArgs (top 42)) (defBody (top 42)) (defScope (top 42)) [] [] f fd ∧ mg "_law_layout" = some (.ref f)) : DfOk K mg fs cs 60 d26 b26 where
  fn := h
  sc := ⟨rfl, rfl, rfl, by decide +kernel, rfl, by decide +kernel, by decide +kernel⟩
  bd := fun _ _ _ _ _ _ us hl => match us, hl with | [_, _, _, _], _ => rfl
  tx := by kernel_rfl
  n := rfl
  ar := rfl
theorem o27 (h : ∃ f fd, FunD K "_law_links" "_law_links" (defArgs (top 43)) (defBody (top 43)) (defScope (top 43)) [] [] f fd ∧ mg "_law_links" = some (.ref f)) : DfOk K mg fs cs 60 d27 b27 where
  fn := h
  sc := ⟨rfl, rfl, rfl, by decide +kernel, rfl, by decide +kernel, by decide +kernel⟩
  bd := fun _ _ _ _ _ _ us hl => match us, hl with | [_], _ => rfl
  tx := by kernel_rfl
  n := rfl
  ar := rfl
theorem o28 (h : ∃ f fd, FunD K "_law_root" "_law_root" (defArgs (top 44)) (defBody (top 44)) (defScope (top 44)) [] [] f fd ∧ mg "_law_root" = some (.ref f)) : DfOk K mg fs cs 60 d28 b28 where
  fn := h
  sc := ⟨rfl, rfl, rfl, by decide +kernel, rfl, by decide +kernel, by decide +kernel⟩
  bd := fun _ _ _ _ _ _ us hl => match us, hl with | [_, _], _ => rfl
  tx := by kernel_rfl
  n := rfl
  ar := rfl
theorem o29 (h : ∃ f fd, FunD K "_law_tied" "_law_tied" (defArgs (top 45)) (defBody (top 45)) (defScope (top 45)) [] [] f fd ∧ mg "_law_tied" = some (.ref f)) : DfOk K mg fs cs 60 d29 b29 where
  fn := h
  sc := ⟨rfl, rfl, rfl, by decide +kernel, rfl, by decide +kernel, by decide +kernel⟩
  bd := fun _ _ _ _ _ _ us hl => match us, hl with | [_, _, _, _], _ => rfl
  tx := by kernel_rfl
  n := rfl
  ar := rfl
theorem o30 (h : ∃ f fd, FunD K "_law_fits" "_law_fits" (defArgs (top 46)) (defBody (top 46)) (defScope (top 46)) [] [] f fd ∧ mg "_law_fits" = some (.ref f)) : DfOk K mg fs cs 60 d30 b30 where
  fn := h
  sc := ⟨rfl, rfl, rfl, by decide +kernel, rfl, by decide +kernel, by decide +kernel⟩
  bd := fun _ _ _ _ _ _ us hl => match us, hl with | [_, _], _ => rfl
  tx := by kernel_rfl
  n := rfl
  ar := rfl
theorem o31 (h : ∃ f fd, FunD K "_law_with" "_law_with" (defArgs (top 47)) (defBody (top 47)) (defScope (top 47)) [] [] f fd ∧ mg "_law_with" = some (.ref f)) : DfOk K mg fs cs 60 d31 b31 where
  fn := h
  sc := ⟨rfl, rfl, rfl, by decide +kernel, rfl, by decide +kernel, by decide +kernel⟩
  bd := fun _ _ _ _ _ _ us hl => match us, hl with | [_, _], _ => rfl
  tx := by kernel_rfl
  n := rfl
  ar := rfl
theorem o32 (h : ∃ f fd, FunD K "_law_first" "_law_first" (defArgs (top 48)) (defBody (top 48)) (defScope (top 48)) [] [] f fd ∧ mg "_law_first" = some (.ref f)) : DfOk K mg fs cs 60 d32 b32 where
  fn := h
  sc := ⟨rfl, rfl, rfl, by decide +kernel, rfl, by decide +kernel, by decide +kernel⟩
  bd := fun _ _ _ _ _ _ us hl => match us, hl with | [_, _], _ => rfl
  tx := by kernel_rfl
  n := rfl
  ar := rfl
theorem o33 (h : ∃ f fd, FunD K "law" "law" (defArgs (top 49)) (defBody (top 49)) (defScope (top 49)) [] [] f fd ∧ mg "law" = some (.ref f)) : DfOk K mg fs cs 60 d33 b33 where
  fn := h
  sc := ⟨rfl, rfl, rfl, by decide +kernel, rfl, by decide +kernel, by decide +kernel⟩
  bd := fun _ _ _ _ _ _ us hl => match us, hl with | [_], _ => rfl
  tx := by kernel_rfl
  n := rfl
  ar := rfl
end
end K19


namespace K19
open PySem Sw
theorem tabL_at {bs : List Bd} {k i : Nat} {b : Bd} (h : bs[i]? = some b) : tabL bs (k + 1) i = liftF (fnSem b.n b.ar (svs (tabL bs k) b.b)) := by rw [tabL, h]
theorem s23 (k : Nat) : SpBegun (tabL bs (k + 1) 23) := by
  rw [tabL_at (k := k + 0) (b := b23) rfl]
  exact (spBegun (tabL bs (k + 0)))
theorem s24 (k : Nat) : SpDraw (tabL bs (k + 1) 24) := by
  rw [tabL_at (k := k + 0) (b := b24) rfl]
  exact (spDraw (tabL bs (k + 0))).lift
theorem s25 (k : Nat) : SpOf (tabL bs (k + 2) 25) := by
  rw [tabL_at (k := k + 1) (b := b25) rfl]
  exact (spOf (tabL bs (k + 1)) 24 (s24 (k + 0))).lift
theorem s26 (k : Nat) : SpLayout (tabL bs (k + 3) 26) := by
  rw [tabL_at (k := k + 2) (b := b26) rfl]
  exact (spLayout (tabL bs (k + 2)) 24 25 (s24 (k + 1)) (s25 (k + 0))).lift
theorem s27 (k : Nat) : SpLlinks (tabL bs (k + 1) 27) := by
  rw [tabL_at (k := k + 0) (b := b27) rfl]
  exact (spLlinks (tabL bs (k + 0)))
theorem s28 (k : Nat) : SpRoot (tabL bs (k + 1) 28) := by
  rw [tabL_at (k := k + 0) (b := b28) rfl]
  exact (spRoot (tabL bs (k + 0)))
theorem s29 (k : Nat) : SpTied (tabL bs (k + 2) 29) := by
  rw [tabL_at (k := k + 1) (b := b29) rfl]
  exact (spTied (tabL bs (k + 1)) 28 (s28 (k + 0)))
theorem s30 (k : Nat) : SpFits (tabL bs (k + 3) 30) := by
  rw [tabL_at (k := k + 2) (b := b30) rfl]
  exact (spFits (tabL bs (k + 2)) 27 29 (s27 (k + 1)) (s29 (k + 0)))
theorem s31 (k : Nat) : SpLwith (tabL bs (k + 1) 31) := by
  rw [tabL_at (k := k + 0) (b := b31) rfl]
  exact (spLwith (tabL bs (k + 0)))
theorem s32 (k : Nat) : SpLfirst (tabL bs (k + 4) 32) := by
  rw [tabL_at (k := k + 3) (b := b32) rfl]
  exact (spLfirst (tabL bs (k + 3)) 30 31 (s30 (k + 0)) (s31 (k + 2)))
theorem s0 (k : Nat) : SpInt (tabL bs (k + 1) 0) := by
  rw [tabL_at (k := k + 0) (b := b0) rfl]
  exact (spInt (tabL bs (k + 0)))
theorem s1 (k : Nat) : SpLens (tabL bs (k + 2) 1) := by
  rw [tabL_at (k := k + 1) (b := b1) rfl]
  exact (spLens (tabL bs (k + 1)) 0 (s0 (k + 0)))
theorem s2 (k : Nat) : SpB isPairB (tabL bs (k + 2) 2) := by
  rw [tabL_at (k := k + 1) (b := b2) rfl]
  exact (spPair (tabL bs (k + 1)) 0 (s0 (k + 0)))
theorem s3 (k : Nat) : SpB isBranchB (tabL bs (k + 3) 3) := by
  rw [tabL_at (k := k + 2) (b := b3) rfl]
  exact (spBranch (tabL bs (k + 2)) 2 0 (s2 (k + 0)) (s0 (k + 1)))
theorem s4 (k : Nat) : SpB isJointB (tabL bs (k + 4) 4) := by
  rw [tabL_at (k := k + 3) (b := b4) rfl]
  exact (spJoint (tabL bs (k + 3)) 2 3 (s2 (k + 1)) (s3 (k + 0)))
theorem s5 (k : Nat) : SpEnds (tabL bs (k + 1) 5) := by
  rw [tabL_at (k := k + 0) (b := b5) rfl]
  exact (spEnds (tabL bs (k + 0)))
theorem s7 (k : Nat) : SpWrong (tabL bs (k + 5) 7) := by
  rw [tabL_at (k := k + 4) (b := b7) rfl]
  exact (spWrong (tabL bs (k + 4)) 4 5 (s4 (k + 0)) (s5 (k + 3)))
theorem s6 (k : Nat) : SpFeeds (tabL bs (k + 3) 6) := by
  rw [tabL_at (k := k + 2) (b := b6) rfl]
  exact (spFeeds (tabL bs (k + 2)) 2 (s2 (k + 0)))
theorem s8 (k : Nat) : SpNeed (tabL bs (k + 6) 8) := by
  rw [tabL_at (k := k + 5) (b := b8) rfl]
  exact (spNeed (tabL bs (k + 5)) 1 7 6 (s1 (k + 3)) (s7 (k + 0)) (s6 (k + 2)))
theorem s9 (k : Nat) : SpLinks (tabL bs (k + 1) 9) := by
  rw [tabL_at (k := k + 0) (b := b9) rfl]
  exact (spLinks (tabL bs (k + 0)))
theorem s12 (k : Nat) : SpCutIn (tabL bs (k + 1) 12) := by
  rw [tabL_at (k := k + 0) (b := b12) rfl]
  exact (spCutIn (tabL bs (k + 0)))
theorem s11 (k : Nat) : SpEndsIn (tabL bs (k + 1) 11) := by
  rw [tabL_at (k := k + 0) (b := b11) rfl]
  exact (spEndsIn (tabL bs (k + 0)))
theorem s13 (k : Nat) : SpCross (tabL bs (k + 2) 13) := by
  rw [tabL_at (k := k + 1) (b := b13) rfl]
  exact (spCross (tabL bs (k + 1)) 11 (s11 (k + 0)))
theorem s14 (k : Nat) : SpTies (tabL bs (k + 3) 14) := by
  rw [tabL_at (k := k + 2) (b := b14) rfl]
  exact (spTies (tabL bs (k + 2)) 9 12 11 13 (s9 (k + 1)) (s12 (k + 1)) (s11 (k + 1)) (s13 (k + 0)))
theorem s15 (k : Nat) : SpSpread (tabL bs (k + 1) 15) := by
  rw [tabL_at (k := k + 0) (b := b15) rfl]
  exact (spSpread (tabL bs (k + 0))).lift
theorem s16 (k : Nat) : SpSignsIn (tabL bs (k + 4) 16) := by
  rw [tabL_at (k := k + 3) (b := b16) rfl]
  exact (spSignsIn (tabL bs (k + 3)) 14 15 (s14 (k + 0)) (s15 (k + 2)))
theorem s19 (k : Nat) : SpCutBy (tabL bs (k + 1) 19) := by
  rw [tabL_at (k := k + 0) (b := b19) rfl]
  exact (spCutBy (tabL bs (k + 0)))
theorem s21 (k : Nat) : SpLonger (tabL bs (k + 1) 21) := by
  rw [tabL_at (k := k + 0) (b := b21) rfl]
  exact (spLonger (tabL bs (k + 0)))
theorem s22 (k : Nat) : SpLeastCuts (tabL bs (k + 7) 22) := by
  rw [tabL_at (k := k + 6) (b := b22) rfl]
  exact (spLeastCuts (tabL bs (k + 6)) 8 9 12 16 19 21 (s8 (k + 0)) (s9 (k + 5)) (s12 (k + 5)) (s16 (k + 2)) (s19 (k + 5)) (s21 (k + 5)))
theorem s17 (k : Nat) : SpSound (tabL bs (k + 7) 17) := by
  rw [tabL_at (k := k + 6) (b := b17) rfl]
  exact (spSound (tabL bs (k + 6)) 16 8 (s16 (k + 2)) (s8 (k + 0)))
theorem s10 (k : Nat) : SpIsLink (tabL bs (k + 2) 10) := by
  rw [tabL_at (k := k + 1) (b := b10) rfl]
  exact (spIsLink (tabL bs (k + 1)) 0 (s0 (k + 0)))
theorem s18 (k : Nat) : SpAreCuts (tabL bs (k + 3) 18) := by
  rw [tabL_at (k := k + 2) (b := b18) rfl]
  exact (spAreCuts (tabL bs (k + 2)) 10 12 (s10 (k + 0)) (s12 (k + 1)))
theorem s20 (k : Nat) : SpWithCuts (tabL bs (k + 7) 20) := by
  rw [tabL_at (k := k + 6) (b := b20) rfl]
  exact (spWithCuts (tabL bs (k + 6)) 8 18 19 (s8 (k + 0)) (s18 (k + 3)) (s19 (k + 5)))
theorem kf : K19F (tabL bs 20) 23 26 25 27 32 22 17 20 24 31 := ⟨s23 19, s26 17, s25 18, s27 19, s32 16, s22 13, s17 13, s20 13, s24 19, s31 19⟩
theorem ev (ns : List Int) (hl : ns.length ≤ 63) : isRT (svs (tabL bs 20) b33.b (some (.ref 0) :: List.replicate (d33.N.length - 1) none) ⟨[.frz (ns.map D.int)], [], false⟩) = true := k19_law kf ns hl
end K19


namespace K19
open PySem PySem.Spec PyProof.Rows L2 Sw
section
variable {P : Program} {w : World} {K : PySem.W.Frag} {h : Heap} {mg : Str → Option Value}
theorem q0 (X : K.In h) (G : h.Ns mainGlobals mg) (c : He.SaysD fa fn K) : DfOk K mg fs cs 60 d0 b0 := by
  obtain ⟨fd, F⟩ := c.def_ 0 (d := e0) rfl
  exact o0 ⟨_, fd, F, He.glo_ok X G (c.fact 0 (f := .glo "is_integer") rfl)⟩
theorem q1 (X : K.In h) (G : h.Ns mainGlobals mg) (c : He.SaysD fa fn K) : DfOk K mg fs cs 60 d1 b1 := by
  obtain ⟨fd, F⟩ := c.def_ 1 (d := e1) rfl
  exact o1 ⟨_, fd, F, He.glo_ok X G (c.fact 1 (f := .glo "are_lengths") rfl)⟩
theorem q2 (X : K.In h) (G : h.Ns mainGlobals mg) (c : He.SaysD fa fn K) : DfOk K mg fs cs 60 d2 b2 := by
  obtain ⟨fd, F⟩ := c.def_ 2 (d := e2) rfl
  exact o2 ⟨_, fd, F, He.glo_ok X G (c.fact 2 (f := .glo "is_pair_to") rfl)⟩
theorem q3 (X : K.In h) (G : h.Ns mainGlobals mg) (c : He.SaysD fa fn K) : DfOk K mg fs cs 60 d3 b3 := by
  obtain ⟨fd, F⟩ := c.def_ 3 (d := e3) rfl
  exact o3 ⟨_, fd, F, He.glo_ok X G (c.fact 3 (f := .glo "is_branch") rfl)⟩
theorem q4 (X : K.In h) (G : h.Ns mainGlobals mg) (c : He.SaysD fa fn K) : DfOk K mg fs cs 60 d4 b4 := by
  obtain ⟨fd, F⟩ := c.def_ 4 (d := e4) rfl
  exact o4 ⟨_, fd, F, He.glo_ok X G (c.fact 4 (f := .glo "is_joint") rfl)⟩
theorem q5 (X : K.In h) (G : h.Ns mainGlobals mg) (c : He.SaysD fa fn K) : DfOk K mg fs cs 60 d5 b5 := by
  obtain ⟨fd, F⟩ := c.def_ 5 (d := e5) rfl
  exact o5 ⟨_, fd, F, He.glo_ok X G (c.fact 5 (f := .glo "all_ends") rfl)⟩
theorem q6 (X : K.In h) (G : h.Ns mainGlobals mg) (c : He.SaysD fa fn K) : DfOk K mg fs cs 60 d6 b6 := by
  obtain ⟨fd, F⟩ := c.def_ 6 (d := e6) rfl
  exact o6 ⟨_, fd, F, He.glo_ok X G (c.fact 6 (f := .glo "are_feeds") rfl)⟩
theorem q7 (X : K.In h) (G : h.Ns mainGlobals mg) (c : He.SaysD fa fn K) : DfOk K mg fs cs 60 d7 b7 := by
  obtain ⟨fd, F⟩ := c.def_ 7 (d := e7) rfl
  exact o7 ⟨_, fd, F, He.glo_ok X G (c.fact 7 (f := .glo "wrong_joint") rfl)⟩
theorem q8 (X : K.In h) (G : h.Ns mainGlobals mg) (c : He.SaysD fa fn K) : DfOk K mg fs cs 60 d8 b8 := by
  obtain ⟨fd, F⟩ := c.def_ 8 (d := e8) rfl
  exact o8 ⟨_, fd, F, He.glo_ok X G (c.fact 8 (f := .glo "need_layout") rfl)⟩
theorem q9 (X : K.In h) (G : h.Ns mainGlobals mg) (c : He.SaysD fa fn K) : DfOk K mg fs cs 60 d9 b9 := by
  obtain ⟨fd, F⟩ := c.def_ 9 (d := e9) rfl
  exact o9 ⟨_, fd, F, He.glo_ok X G (c.fact 9 (f := .glo "links_of") rfl)⟩
theorem q10 (X : K.In h) (G : h.Ns mainGlobals mg) (c : He.SaysD fa fn K) : DfOk K mg fs cs 60 d10 b10 := by
  obtain ⟨fd, F⟩ := c.def_ 10 (d := e10) rfl
  exact o10 ⟨_, fd, F, He.glo_ok X G (c.fact 10 (f := .glo "is_link") rfl)⟩
theorem q11 (X : K.In h) (G : h.Ns mainGlobals mg) (c : He.SaysD fa fn K) : DfOk K mg fs cs 60 d11 b11 := by
  obtain ⟨fd, F⟩ := c.def_ 11 (d := e11) rfl
  exact o11 ⟨_, fd, F, He.glo_ok X G (c.fact 11 (f := .glo "ends_in") rfl)⟩
theorem q12 (X : K.In h) (G : h.Ns mainGlobals mg) (c : He.SaysD fa fn K) : DfOk K mg fs cs 60 d12 b12 := by
  obtain ⟨fd, F⟩ := c.def_ 12 (d := e12) rfl
  exact o12 ⟨_, fd, F, He.glo_ok X G (c.fact 12 (f := .glo "is_cut_in") rfl)⟩
theorem q13 (X : K.In h) (G : h.Ns mainGlobals mg) (c : He.SaysD fa fn K) : DfOk K mg fs cs 60 d13 b13 := by
  obtain ⟨fd, F⟩ := c.def_ 13 (d := e13) rfl
  exact o13 ⟨_, fd, F, He.glo_ok X G (c.fact 13 (f := .glo "crossing") rfl)⟩
theorem q14 (X : K.In h) (G : h.Ns mainGlobals mg) (c : He.SaysD fa fn K) : DfOk K mg fs cs 60 d14 b14 := by
  obtain ⟨fd, F⟩ := c.def_ 14 (d := e14) rfl
  exact o14 ⟨_, fd, F, He.glo_ok X G (c.fact 14 (f := .glo "ties_in") rfl)⟩
theorem q15 (X : K.In h) (G : h.Ns mainGlobals mg) (c : He.SaysD fa fn K) : DfOk K mg fs cs 60 d15 b15 := by
  obtain ⟨fd, F⟩ := c.def_ 15 (d := e15) rfl
  exact o15 ⟨_, fd, F, He.glo_ok X G (c.fact 15 (f := .glo "spread") rfl)⟩
theorem q16 (X : K.In h) (G : h.Ns mainGlobals mg) (c : He.SaysD fa fn K) : DfOk K mg fs cs 60 d16 b16 := by
  obtain ⟨fd, F⟩ := c.def_ 16 (d := e16) rfl
  exact o16 ⟨_, fd, F, He.glo_ok X G (c.fact 16 (f := .glo "signs_in") rfl)⟩
theorem q17 (X : K.In h) (G : h.Ns mainGlobals mg) (c : He.SaysD fa fn K) : DfOk K mg fs cs 60 d17 b17 := by
  obtain ⟨fd, F⟩ := c.def_ 17 (d := e17) rfl
  exact o17 ⟨_, fd, F, He.glo_ok X G (c.fact 17 (f := .glo "is_sound") rfl)⟩
theorem q18 (X : K.In h) (G : h.Ns mainGlobals mg) (c : He.SaysD fa fn K) : DfOk K mg fs cs 60 d18 b18 := by
  obtain ⟨fd, F⟩ := c.def_ 18 (d := e18) rfl
  exact o18 ⟨_, fd, F, He.glo_ok X G (c.fact 18 (f := .glo "are_cuts") rfl)⟩
theorem q19 (X : K.In h) (G : h.Ns mainGlobals mg) (c : He.SaysD fa fn K) : DfOk K mg fs cs 60 d19 b19 := by
  obtain ⟨fd, F⟩ := c.def_ 19 (d := e19) rfl
  exact o19 ⟨_, fd, F, He.glo_ok X G (c.fact 19 (f := .glo "cut_by") rfl)⟩
theorem q20 (X : K.In h) (G : h.Ns mainGlobals mg) (c : He.SaysD fa fn K) : DfOk K mg fs cs 60 d20 b20 := by
  obtain ⟨fd, F⟩ := c.def_ 20 (d := e20) rfl
  exact o20 ⟨_, fd, F, He.glo_ok X G (c.fact 20 (f := .glo "with_cuts") rfl)⟩
theorem q21 (X : K.In h) (G : h.Ns mainGlobals mg) (c : He.SaysD fa fn K) : DfOk K mg fs cs 60 d21 b21 := by
  obtain ⟨fd, F⟩ := c.def_ 21 (d := e21) rfl
  exact o21 ⟨_, fd, F, He.glo_ok X G (c.fact 21 (f := .glo "one_longer") rfl)⟩
theorem q22 (X : K.In h) (G : h.Ns mainGlobals mg) (c : He.SaysD fa fn K) : DfOk K mg fs cs 60 d22 b22 := by
  obtain ⟨fd, F⟩ := c.def_ 22 (d := e22) rfl
  exact o22 ⟨_, fd, F, He.glo_ok X G (c.fact 22 (f := .glo "least_cuts") rfl)⟩
theorem q23 (X : K.In h) (G : h.Ns mainGlobals mg) (c : He.SaysD fa fn K) : DfOk K mg fs cs 60 d23 b23 := by
  obtain ⟨fd, F⟩ := c.def_ 23 (d := e23) rfl
  exact o23 ⟨_, fd, F, He.glo_ok X G (c.fact 23 (f := .glo "_law_begun") rfl)⟩
theorem q24 (X : K.In h) (G : h.Ns mainGlobals mg) (c : He.SaysD fa fn K) : DfOk K mg fs cs 60 d24 b24 := by
  obtain ⟨fd, F⟩ := c.def_ 24 (d := e24) rfl
  exact o24 ⟨_, fd, F, He.glo_ok X G (c.fact 24 (f := .glo "_law_draw") rfl)⟩
theorem q25 (X : K.In h) (G : h.Ns mainGlobals mg) (c : He.SaysD fa fn K) : DfOk K mg fs cs 60 d25 b25 := by
  obtain ⟨fd, F⟩ := c.def_ 25 (d := e25) rfl
  exact o25 ⟨_, fd, F, He.glo_ok X G (c.fact 25 (f := .glo "_law_of") rfl)⟩
theorem q26 (X : K.In h) (G : h.Ns mainGlobals mg) (c : He.SaysD fa fn K) : DfOk K mg fs cs 60 d26 b26 := by
  obtain ⟨fd, F⟩ := c.def_ 26 (d := e26) rfl
  exact o26 ⟨_, fd, F, He.glo_ok X G (c.fact 26 (f := .glo "_law_layout") rfl)⟩
theorem q27 (X : K.In h) (G : h.Ns mainGlobals mg) (c : He.SaysD fa fn K) : DfOk K mg fs cs 60 d27 b27 := by
  obtain ⟨fd, F⟩ := c.def_ 27 (d := e27) rfl
  exact o27 ⟨_, fd, F, He.glo_ok X G (c.fact 27 (f := .glo "_law_links") rfl)⟩
theorem q28 (X : K.In h) (G : h.Ns mainGlobals mg) (c : He.SaysD fa fn K) : DfOk K mg fs cs 60 d28 b28 := by
  obtain ⟨fd, F⟩ := c.def_ 28 (d := e28) rfl
  exact o28 ⟨_, fd, F, He.glo_ok X G (c.fact 28 (f := .glo "_law_root") rfl)⟩
theorem q29 (X : K.In h) (G : h.Ns mainGlobals mg) (c : He.SaysD fa fn K) : DfOk K mg fs cs 60 d29 b29 := by
  obtain ⟨fd, F⟩ := c.def_ 29 (d := e29) rfl
  exact o29 ⟨_, fd, F, He.glo_ok X G (c.fact 29 (f := .glo "_law_tied") rfl)⟩
theorem q30 (X : K.In h) (G : h.Ns mainGlobals mg) (c : He.SaysD fa fn K) : DfOk K mg fs cs 60 d30 b30 := by
  obtain ⟨fd, F⟩ := c.def_ 30 (d := e30) rfl
  exact o30 ⟨_, fd, F, He.glo_ok X G (c.fact 30 (f := .glo "_law_fits") rfl)⟩
theorem q31 (X : K.In h) (G : h.Ns mainGlobals mg) (c : He.SaysD fa fn K) : DfOk K mg fs cs 60 d31 b31 := by
  obtain ⟨fd, F⟩ := c.def_ 31 (d := e31) rfl
  exact o31 ⟨_, fd, F, He.glo_ok X G (c.fact 31 (f := .glo "_law_with") rfl)⟩
theorem q32 (X : K.In h) (G : h.Ns mainGlobals mg) (c : He.SaysD fa fn K) : DfOk K mg fs cs 60 d32 b32 := by
  obtain ⟨fd, F⟩ := c.def_ 32 (d := e32) rfl
  exact o32 ⟨_, fd, F, He.glo_ok X G (c.fact 32 (f := .glo "_law_first") rfl)⟩
theorem q33 (X : K.In h) (G : h.Ns mainGlobals mg) (c : He.SaysD fa fn K) : DfOk K mg fs cs 60 d33 b33 := by
  obtain ⟨fd, F⟩ := c.def_ 33 (d := e33) rfl
  exact o33 ⟨_, fd, F, He.glo_ok X G (c.fact 33 (f := .glo "law") rfl)⟩
theorem all (X : K.In h) (G : h.Ns mainGlobals mg) (c : He.SaysD fa fn K) : AllOk K mg fs cs 60 fs bs := .cons (d := d0) (b := b0) (q0 X G c) (.cons (d := d1) (b := b1) (q1 X G c) (.cons (d := d2) (b := b2) (q2 X G c) (.cons (d := d3) (b := b3) (q3 X G c) (.cons (d := d4) (b := b4) (q4 X G c) (.cons (d := d5) (b := b5) (q5 X G c) (.cons (d := d6) (b := b6) (q6 X G c) (.cons (d := d7) (b := b7) (q7 X G c) (.cons (d := d8) (b := b8) (q8 X G c) (.cons (d := d9) (b := b9) (q9 X G c) (.cons (d := d10) (b := b10) (q10 X G c) (.cons (d := d11) (b := b11) (q11 X G c) (.cons (d := d12) (b := b12) (q12 X G c) (.cons (d := d13) (b := b13) (q13 X G c) (.cons (d := d14) (b := b14) (q14 X G c) (.cons (d := d15) (b := b15) (q15 X G c) (.cons (d := d16) (b := b16) (q16 X G c) (.cons (d := d17) (b := b17) (q17 X G c) (.cons (d := d18) (b := b18) (q18 X G c) (.cons (d := d19) (b := b19) (q19 X G c) (.cons (d := d20) (b := b20) (q20 X G c) (.cons (d := d21) (b := b21) (q21 X G c) (.cons (d := d22) (b := b22) (q22 X G c) (.cons (d := d23) (b := b23) (q23 X G c) (.cons (d := d24) (b := b24) (q24 X G c) (.cons (d := d25) (b := b25) (q25 X G c) (.cons (d := d26) (b := b26) (q26 X G c) (.cons (d := d27) (b := b27) (q27 X G c) (.cons (d := d28) (b := b28) (q28 X G c) (.cons (d := d29) (b := b29) (q29 X G c) (.cons (d := d30) (b := b30) (q30 X G c) (.cons (d := d31) (b := b31) (q31 X G c) (.cons (d := d32) (b := b32) (q32 X G c) (.cons (d := d33) (b := b33) (q33 X G c) (.nil))))))))))))))))))))))))))))))))))
theorem home (X : K.In h) (G : h.Ns mainGlobals mg) (c : He.SaysD fa fn K) : Home mg cs :=
  ⟨con_cons (con_int (He.int_ok X G (c.fact 52 (f := .int "MOST_PIECES" 10) rfl))) (con_cons (con_int (He.int_ok X G (c.fact 53 (f := .int "LEAST_CELLS" 2) rfl))) (con_cons (con_int (He.int_ok X G (c.fact 54 (f := .int "MOST_CELLS" 9) rfl))) (con_cons (con_int (He.int_ok X G (c.fact 55 (f := .int "MOST_JOINTS" 10) rfl))) (con_cons (con_int (He.int_ok X G (c.fact 56 (f := .int "MOST_BRANCHES" 3) rfl))) (con_cons (con_int (He.int_ok X G (c.fact 57 (f := .int "POWER" (-1)) rfl))) (con_cons (con_str (He.str_ok X G (c.fact 58 (f := .str "LINK" "link") rfl))) (con_cons (con_str (He.str_ok X G (c.fact 59 (f := .str "FEED" "feed") rfl))) (con_nil)))))))),
    List.forall_mem_cons.mpr ⟨He.free_ok X G (c.fact 34 (f := .free "len") rfl), List.forall_mem_cons.mpr ⟨He.free_ok X G (c.fact 35 (f := .free "int") rfl), List.forall_mem_cons.mpr ⟨He.free_ok X G (c.fact 36 (f := .free "min") rfl), List.forall_mem_cons.mpr ⟨He.free_ok X G (c.fact 37 (f := .free "max") rfl), List.forall_mem_cons.mpr ⟨He.free_ok X G (c.fact 38 (f := .free "all") rfl), List.forall_mem_cons.mpr ⟨He.free_ok X G (c.fact 39 (f := .free "any") rfl), List.forall_mem_cons.mpr ⟨He.free_ok X G (c.fact 40 (f := .free "sum") rfl), List.forall_mem_cons.mpr ⟨He.free_ok X G (c.fact 41 (f := .free "tuple") rfl), List.forall_mem_cons.mpr ⟨He.free_ok X G (c.fact 42 (f := .free "list") rfl), List.forall_mem_cons.mpr ⟨He.free_ok X G (c.fact 43 (f := .free "isinstance") rfl), List.forall_mem_cons.mpr ⟨He.free_ok X G (c.fact 44 (f := .free "bool") rfl), List.forall_mem_cons.mpr ⟨He.free_ok X G (c.fact 45 (f := .free "str") rfl), List.forall_mem_cons.mpr ⟨He.free_ok X G (c.fact 46 (f := .free "dict") rfl), List.forall_mem_cons.mpr ⟨He.free_ok X G (c.fact 47 (f := .free "range") rfl), List.forall_mem_cons.mpr ⟨He.free_ok X G (c.fact 48 (f := .free "enumerate") rfl), List.forall_mem_cons.mpr ⟨He.free_ok X G (c.fact 49 (f := .free "zip") rfl), List.forall_mem_cons.mpr ⟨He.free_ok X G (c.fact 50 (f := .free "sorted") rfl), List.forall_mem_cons.mpr ⟨He.free_ok X G (c.fact 51 (f := .free "repr") rfl), List.forall_mem_nil _⟩⟩⟩⟩⟩⟩⟩⟩⟩⟩⟩⟩⟩⟩⟩⟩⟩⟩⟩
theorem facts {f : Addr} (X : K.In h) (G : h.Ns mainGlobals mg) (hfa : mg ("law" : Str) = some (.ref f)) (c : He.SaysD fa fn K) :
    ∃ fd : FuncData, (∀ (s : Shared) (v : Value), BindsTo s fd ⟨[v], []⟩ [("_law_script", v)]) ∧ ∀ base : Heap, K.In base → base.Ns mainGlobals mg → FnG P w K mg base 21 f fd ["_law_script"] spN := by
  obtain ⟨fd, F⟩ := c.def_ 33 (d := e33) rfl
  cases hfa.symm.trans (He.glo_ok X G (c.fact 33 (f := .glo "law") rfl))
  have bb := FunD.bindsA (ps := ["_law_script"]) F fun _ _ _ _ _ _ us hl => match us, hl with | [_], _ => rfl
  exact ⟨fd, fun s v => bb s [v] rfl, fun base _ _ => law_drawn (d := d33) (b := b33) (k := 20) (all X G c) (home X G c) (q33 X G c) rfl F ev (by decide)⟩
end
end K19
open PySem PySem.W PySem.Calls PyProof.Rows
theorem PySem.Challenge.cw_swaprails_k19_whole_cuts_holds : PySem.Challenge.rw_swaprails_k19_whole_cuts.Holds := by
  w_on; o_law
  refine HandSHeadRun.head_any (r := OpenLaw.row PySem.Challenge.rw_swaprails_k19_whole_cuts) (q := view (OpenLaw.row PySem.Challenge.rw_swaprails_k19_whole_cuts).prog [49]) (H := K19.hk) (ob := K19.ob) (M := 4000) (loose := K19.loose) (d := HandSHeadRun.topDef (OpenLaw.row PySem.Challenge.rw_swaprails_k19_whole_cuts).prog 49) (kwd := []) K19.ob_eq
    (by kernel_rfl) (fun s => by kernel_rfl) K19.run (by kernel_rfl) (by kernel_rfl) (by kernel_rfl) (by rfl) (by first | assumption | decide +kernel) (by decide +kernel) ⟨rfl, rfl, rfl, rfl, rfl, by decide +kernel⟩ ?hw ?hc
  case hw => w_witness2
  case hc =>
    refine Sw.walk_ofG (l := PySem.Challenge.rw_swaprails_k19_whole_cuts) (n := 63) (k := 21) (x := "_law_script") rfl (by decide) (by kernel_rfl) ⟨rfl, by decide, by decide⟩ ?F
    intro w mg fa h Y G hm0
    obtain ⟨K, KX, c, hNL⟩ := Y
    have hm : mg ("law" : PySem.Str) = some (.ref fa) := by
      have e : (HandSHeadRun.topDef (OpenLaw.row PySem.Challenge.rw_swaprails_k19_whole_cuts).prog 49).name = ("law" : PySem.Str) := by kernel_rfl
      rw [← e]; exact hm0
    obtain ⟨fd, hb, hF⟩ := K19.facts (P := (PySem.Challenge.rw_swaprails_k19_whole_cuts).prog) (w := w) KX G hm c
    exact ⟨K, fd, Sw.spN, KX, hb, fun H a ns hl hO hS => Sw.spN_of hNL hl hO hS, hF⟩


