import PyProof.Rows.All
import Wide.All
import OpenK.AllK
import Wide.FinOn
import KE.KStateDown
import Lean
import HandS.ForMost
import HandS.Conv
import HandS.Flow
import HandS.Zip
import HandS.Star
import HandS.IsInst
import HandS.Style
import KE.DataEq
import HandS.TupAny
import HandS.TupLe
import HandS.Wide
import HandS.Codes
import HandS.TupLen
import HandS.WordsDict
import KE.GoesMore
import KE.GoesEnum
import KE.LtData
import KE.SortData
import KE.DataCmp
import HandS.TupMul
import HandS.SetBool
import KE.KDictDisplayH
import KE.KDictZip
import HandS.GenList
import HandS.Words
import HandS.Defaults
import HandS.Base
import HandS.Call
import HandS.Ends
import HandS.More
import HandS.WordsExc
import HandS.Head0
import HandS.Head1
import HandS.Head2
import HandS.HeadEnd
import HandS.HeadHook1
import HandS.HeadHook2
import PySem.Challenge.RW_swaprails_k22_tracks_by_hand
set_option Elab.async false
set_option linter.all false
set_option maxRecDepth 100000
set_option autoImplicit false
set_option maxHeartbeats 0
/-! Eng1: data by value, the abstract store, how they stand in the heap. -/
namespace Sw
open PySem PySem.Spec PyProof.Rows L2

inductive D where
  | non
  | bl (b : Bool)
  | int (i : Int)
  | str (x : Str)
  | tup (xs : List D)
  | ref (n : Nat)

inductive O where
  | lst (xs : List D)
  | frz (xs : List D)
  | dct (kvs : List (D × D))
  | dctT (kvs : List (D × D))
  | set (xs : List Int)

/-- the store: the mutable things by number; bs: how many there were at the entry of each frame; dirty: an elder frame's thing may hold a younger one -/
structure Sto where
  objs : List O
  bs : List Nat
  dirty : Bool
abbrev Sto.len (S : Sto) : Nat := S.objs.length

mutual
def D.blw (k : Nat) : D → Bool
  | .tup xs => D.blws k xs
  | .ref n => Nat.blt n k
  | .non => true
  | .bl _ => true
  | .int _ => true
  | .str _ => true
def D.blws (k : Nat) : List D → Bool
  | [] => true
  | x :: xs => D.blw k x && D.blws k xs
end
def pairsBelow (k : Nat) : List (D × D) → Bool
  | [] => true
  | (a, b) :: r => D.blw k a && D.blw k b && pairsBelow k r
def O.blw (k : Nat) : O → Bool
  | .lst xs => D.blws k xs
  | .frz xs => D.blws k xs
  | .dct kvs => pairsBelow k kvs
  | .dctT kvs => pairsBelow k kvs
  | .set _ => true

abbrev Frg := PySem.W.Frag
section
variable (m : Nat → Addr) (k : Nat) (H : Hp)
mutual
def RD : D → V → Prop
  | .non, v => v = .non
  | .bl b, v => v = .bl b
  | .int i, v => v = .int i
  | .str x, v => v = .str x
  | .tup ds, v => ∃ a vs, v = .ref a ∧ H a = some (.tup vs) ∧ RDs ds vs
  | .ref n, v => n < k ∧ v = .ref (m n)
def RDs : List D → List V → Prop
  | [], vs => vs = []
  | d :: ds, vs => ∃ v r, vs = v :: r ∧ RD d v ∧ RDs ds r
end
/-- the D of a key -/
def kD : Key → D
  | .inl i => .int i
  | .inr x => .str x
def kT (ks : List Key) : D := .tup (ks.map kD)
def RKv {κ : Type} (kd : κ → D) : List (D × D) → List (κ × V) → Prop
  | [], ps => ps = []
  | (a, d) :: r, ps => ∃ q v ps', ps = (q, v) :: ps' ∧ a = kd q ∧ RD m k H d v ∧ RKv kd r ps'
def OOk (a : Addr) : O → Prop
  | .lst ds => ∃ vs, H a = some (.lst vs) ∧ RDs m k H ds vs
  | .frz ds => ∃ vs o, H a = some (.frz o (.lst vs)) ∧ RDs m k H ds vs
  | .dct kvs => ∃ ps, H a = some (.dK ps) ∧ RKv m k H kD kvs ps
  | .dctT kvs => ∃ ps, H a = some (.dT ps) ∧ RKv m k H kT kvs ps
  | .set xs => H a = some (.set (fun j => xs.contains j) xs.length)
end

/-- what never changes: tuples, locked things -/
structure Keep (H H' : Hp) : Prop where
  tup : ∀ a xs, H a = some (.tup xs) → H' a = some (.tup xs)
  frz : ∀ a o u, H a = some (.frz o u) → H' a = some (.frz o u)
theorem Keep.refl (H : Hp) : Keep H H := ⟨fun _ _ h => h, fun _ _ _ h => h⟩
theorem Keep.trans {H H1 H2 : Hp} (a : Keep H H1) (b : Keep H1 H2) : Keep H H2 := ⟨fun c xs h => b.tup c xs (a.tup c xs h), fun c o u h => b.frz c o u (a.frz c o u h)⟩
theorem Keep.sqT {K : Frg} {H H' : Hp} {a : Addr} {xs : List V} (e : Keep H H') (h : SqT K H a xs) : SqT K H' a xs := by
  rcases h with (h | ⟨o, h⟩) | h
  · exact .inl (.inl (e.tup _ _ h))
  · exact .inl (.inr ⟨o, e.frz _ _ _ h⟩)
  · exact .inr h
theorem Keep.new {H : Hp} {p : Addr} {o : HO} (h : H p = none) : Keep H (upd H p o) :=
  ⟨fun a xs e => by rw [upd_ne (ne_of_none e h)]; exact e, fun a o u e => by rw [upd_ne (ne_of_none e h)]; exact e⟩
theorem Keep.same {H H' : Hp} (h : ∀ b o, H b = some o → H' b = some o) : Keep H H' := ⟨fun a xs e => h _ _ e, fun a o u e => h _ _ e⟩

structure Rel (m : Nat → Addr) (S : Sto) (H : Hp) : Prop where
  obj : ∀ n o, S.objs[n]? = some o → OOk m S.len H (m n) o
  inj : ∀ i j, i < S.len → j < S.len → m i = m j → i = j
  low : S.dirty = false → ∀ b ∈ S.bs, ∀ n o, n < b → S.objs[n]? = some o → o.blw b = true
  top : ∀ b ∈ S.bs, b ≤ S.bs.headD 0
  lens : ∀ b ∈ S.bs, b ≤ S.len

structure Ext (m m' : Nat → Addr) (S S' : Sto) (H H' : Hp) : Prop where
  len : S.len ≤ S'.len
  ag : ∀ n, n < S.len → m' n = m n
  keep : Keep H H'
  bs : S'.bs = S.bs
  rel : Rel m' S' H'
section
variable {m m' m2 : Nat → Addr} {S S' S2 : Sto} {H H' H2 : Hp}
theorem Ext.refl (r : Rel m S H) : Ext m m S S H H := ⟨Nat.le_refl _, fun _ _ => rfl, Keep.refl H, rfl, r⟩
theorem Ext.trans (a : Ext m m' S S' H H') (b : Ext m' m2 S' S2 H' H2) : Ext m m2 S S2 H H2 :=
  ⟨Nat.le_trans a.len b.len, fun n h => (b.ag n (Nat.lt_of_lt_of_le h a.len)).trans (a.ag n h), a.keep.trans b.keep, b.bs.trans a.bs, b.rel⟩

mutual
theorem RD.mono' {k k' : Nat} (hk : k ≤ k') (ha : ∀ n, n < k → m' n = m n) (e : Keep H H') : ∀ (d : D) (v : V), RD m k H d v → RD m' k' H' d v
  | .non, v, h => h
  | .bl _, v, h => h
  | .int _, v, h => h
  | .str _, v, h => h
  | .tup ds, v, h => by
    obtain ⟨a, vs, h1, h2, h3⟩ := h
    exact ⟨a, vs, h1, e.tup _ _ h2, RDs.mono' hk ha e ds vs h3⟩
  | .ref n, v, h => ⟨Nat.lt_of_lt_of_le h.1 hk, by rw [ha n h.1]; exact h.2⟩
theorem RDs.mono' {k k' : Nat} (hk : k ≤ k') (ha : ∀ n, n < k → m' n = m n) (e : Keep H H') : ∀ (ds : List D) (vs : List V), RDs m k H ds vs → RDs m' k' H' ds vs
  | [], vs, h => h
  | d :: ds, vs, h => by
    obtain ⟨v, r, h1, h2, h3⟩ := h
    exact ⟨v, r, h1, RD.mono' hk ha e d v h2, RDs.mono' hk ha e ds r h3⟩
end
theorem RKv.mono' {κ : Type} {kd : κ → D} {k k' : Nat} (hk : k ≤ k') (ha : ∀ n, n < k → m' n = m n) (e : Keep H H') : ∀ (kvs : List (D × D)) (ps : List (κ × V)), RKv m k H kd kvs ps → RKv m' k' H' kd kvs ps
  | [], ps, h => h
  | (a, d) :: r, ps, h => by
    obtain ⟨q, v, ps', h1, h2, h3, h4⟩ := h
    exact ⟨q, v, ps', h1, h2, RD.mono' hk ha e d v h3, RKv.mono' hk ha e r ps' h4⟩
theorem RD.ext {d : D} {v : V} (h : RD m S.len H d v) (e : Ext m m' S S' H H') : RD m' S'.len H' d v := RD.mono' e.len e.ag e.keep d v h
theorem RDs.ext {d : List D} {v : List V} (h : RDs m S.len H d v) (e : Ext m m' S S' H H') : RDs m' S'.len H' d v := RDs.mono' e.len e.ag e.keep d v h
mutual
theorem RD.blw {k : Nat} : ∀ (d : D) (v : V), RD m k H d v → d.blw k = true
  | .non, _, _ => rfl
  | .bl _, _, _ => rfl
  | .int _, _, _ => rfl
  | .str _, _, _ => rfl
  | .tup ds, v, h => by
    obtain ⟨a, vs, _, _, h3⟩ := h
    simp only [D.blw]
    exact RDs.below ds vs h3
  | .ref n, _, h => by
    simp only [D.blw]
    exact Nat.ble_eq_true_of_le h.1
theorem RDs.below {k : Nat} : ∀ (ds : List D) (vs : List V), RDs m k H ds vs → D.blws k ds = true
  | [], _, _ => rfl
  | d :: ds, vs, h => by
    obtain ⟨v, r, _, h2, h3⟩ := h
    simp only [D.blws, RD.blw d v h2, RDs.below ds r h3, Bool.and_self]
end
mutual
theorem below_mono {k k' : Nat} (h : k ≤ k') : ∀ d : D, d.blw k = true → d.blw k' = true
  | .non, _ => rfl
  | .bl _, _ => rfl
  | .int _, _ => rfl
  | .str _, _ => rfl
  | .tup ds, q => by
    simp only [D.blw] at q ⊢
    exact belows_mono h ds q
  | .ref n, q => by
    simp only [D.blw] at q ⊢
    have := Nat.le_of_ble_eq_true q
    exact Nat.ble_eq_true_of_le (by omega)
theorem belows_mono {k k' : Nat} (h : k ≤ k') : ∀ ds : List D, D.blws k ds = true → D.blws k' ds = true
  | [], _ => rfl
  | d :: ds, q => by
    simp only [D.blws, Bool.and_eq_true] at q ⊢
    exact ⟨below_mono h d q.1, belows_mono h ds q.2⟩
end
theorem pairs_mono {k k' : Nat} (h : k ≤ k') : ∀ ds : List (D × D), pairsBelow k ds = true → pairsBelow k' ds = true
  | [], _ => rfl
  | (a, b) :: ds, q => by
    simp only [pairsBelow, Bool.and_eq_true] at q ⊢
    exact ⟨⟨below_mono h a q.1.1, below_mono h b q.1.2⟩, pairs_mono h ds q.2⟩
theorem O.blw_mono {k k' : Nat} (h : k ≤ k') (o : O) (q : o.blw k = true) : o.blw k' = true := by
  cases o with
  | lst xs => exact belows_mono h xs q
  | frz xs => exact belows_mono h xs q
  | dct kvs => exact pairs_mono h kvs q
  | dctT kvs => exact pairs_mono h kvs q
  | set xs => rfl
theorem kD_below (k : Nat) (q : Key) : (kD q).blw k = true := by cases q <;> rfl
theorem kDs_below (k : Nat) : ∀ qs : List Key, D.blws k (qs.map kD) = true
  | [] => rfl
  | q :: qs => by simp only [List.map_cons, D.blws, kD_below, kDs_below k qs, Bool.and_self]
theorem kT_below (k : Nat) (qs : List Key) : (kT qs).blw k = true := by simp only [kT, D.blw]; exact kDs_below k qs
theorem RKv.below {κ : Type} {kd : κ → D} {k : Nat} (hb : ∀ q, (kd q).blw k = true) : ∀ (kvs : List (D × D)) (ps : List (κ × V)), RKv m k H kd kvs ps → pairsBelow k kvs = true
  | [], _, _ => rfl
  | (a, d) :: r, ps, h => by
    obtain ⟨q, v, ps', _, h2, h3, h4⟩ := h
    simp only [pairsBelow, Bool.and_eq_true]
    exact ⟨⟨by rw [h2]; exact hb q, RD.blw d v h3⟩, RKv.below hb r ps' h4⟩
theorem OOk.below {k : Nat} {a : Addr} {o : O} (h : OOk m k H a o) : o.blw k = true := by
  cases o with
  | lst xs => obtain ⟨vs, _, h⟩ := h; exact RDs.below _ _ h
  | frz xs => obtain ⟨vs, _, _, h⟩ := h; exact RDs.below _ _ h
  | dct kvs => obtain ⟨vs, _, h⟩ := h; exact RKv.below (kD_below _) _ _ h
  | dctT kvs => obtain ⟨vs, _, h⟩ := h; exact RKv.below (kT_below _) _ _ h
  | set xs => rfl
theorem OOk.live {k : Nat} {a : Addr} {o : O} (h : OOk m k H a o) : ∃ u, H a = some u := by
  cases o with
  | lst xs => obtain ⟨vs, h, _⟩ := h; exact ⟨_, h⟩
  | frz xs => obtain ⟨vs, _, h, _⟩ := h; exact ⟨_, h⟩
  | dct kvs => obtain ⟨vs, h, _⟩ := h; exact ⟨_, h⟩
  | dctT kvs => obtain ⟨vs, h, _⟩ := h; exact ⟨_, h⟩
  | set xs => exact ⟨_, h⟩
theorem Rel.live (r : Rel m S H) {n : Nat} (h : n < S.len) : ∃ u, H (m n) = some u := (r.obj n _ (List.getElem?_eq_getElem h)).live

/-! ### a new object -/
def Sto.add (S : Sto) (o : O) : Sto := ⟨S.objs ++ [o], S.bs, S.dirty⟩
theorem Sto.add_len (S : Sto) (o : O) : (S.add o).len = S.len + 1 := by simp [Sto.add, Sto.len]
def withAt (m : Nat → Addr) (n : Nat) (p : Addr) : Nat → Addr := fun i => if i = n then p else m i
theorem withAt_same (m : Nat → Addr) (n : Nat) (p : Addr) : withAt m n p n = p := by simp [withAt]
theorem withAt_ne (m : Nat → Addr) (n : Nat) (p : Addr) {i : Nat} (h : i ≠ n) : withAt m n p i = m i := by simp [withAt, h]
theorem OOk.mono' {k k' : Nat} (hk : k ≤ k') (ha : ∀ n, n < k → m' n = m n) (e : Keep H H') {a a' : Addr} {o : O} (h : OOk m k H a o) (hh : H' a' = H a) : OOk m' k' H' a' o := by
  cases o with
  | lst xs => obtain ⟨vs, h1, h2⟩ := h; exact ⟨vs, hh.trans h1, RDs.mono' hk ha e _ _ h2⟩
  | frz xs => obtain ⟨vs, o, h1, h2⟩ := h; exact ⟨vs, o, hh.trans h1, RDs.mono' hk ha e _ _ h2⟩
  | dct kvs => obtain ⟨vs, h1, h2⟩ := h; exact ⟨vs, hh.trans h1, RKv.mono' hk ha e _ _ h2⟩
  | dctT kvs => obtain ⟨vs, h1, h2⟩ := h; exact ⟨vs, hh.trans h1, RKv.mono' hk ha e _ _ h2⟩
  | set xs => exact hh.trans h
/-- a new object at p -/
theorem Ext.add (r : Rel m S H) {p : Addr} {o : O} {ho : HO} (hp : H p = none) (ok : OOk m S.len (upd H p ho) p o) : Ext m (withAt m S.len p) S (S.add o) H (upd H p ho) := by
  have ag : ∀ n, n < S.len → withAt m S.len p n = m n := fun n h => withAt_ne _ _ _ (Nat.ne_of_lt h)
  have kp : Keep H (upd H p ho) := Keep.new hp
  have ne : ∀ n, n < S.len → m n ≠ p := fun n h e => by obtain ⟨u, q⟩ := r.live h; rw [e, hp] at q; cases q
  refine ⟨by rw [Sto.add_len]; exact Nat.le_succ _, ag, kp, rfl, ⟨fun n o' e => ?_, fun i j hi hj e => ?_, fun hd b hb n o' hn e => ?_, r.top, fun b hb => Nat.le_trans (r.lens b hb) (by rw [Sto.add_len]; exact Nat.le_succ _)⟩⟩
  · rw [Sto.add_len]
    by_cases h : n < S.len
    · have e' : S.objs[n]? = some o' := by rw [← e]; simp [Sto.add, List.getElem?_append_left h]
      rw [ag n h]
      exact (r.obj n o' e').mono' (Nat.le_succ _) ag kp (upd_ne (ne n h))
    · have hn : n = S.len := by
        have h1 : n < (S.add o).len := (List.getElem?_eq_some_iff.mp e).1
        rw [Sto.add_len] at h1
        omega
      subst hn
      have e' : o = o' := by simpa [Sto.add] using e
      subst e'
      rw [withAt_same]
      exact ok.mono' (Nat.le_succ _) ag (Keep.refl _) rfl
  · rw [Sto.add_len] at hi hj
    by_cases h1 : i < S.len
    · by_cases h2 : j < S.len
      · rw [ag i h1, ag j h2] at e; exact r.inj i j h1 h2 e
      · have : j = S.len := by omega
        subst this
        rw [ag i h1, withAt_same] at e
        exact absurd e (ne i h1)
    · have : i = S.len := by omega
      subst this
      by_cases h2 : j < S.len
      · rw [ag j h2, withAt_same] at e
        exact absurd e.symm (ne j h2)
      · omega
  · have h : n < S.len := Nat.lt_of_lt_of_le hn (r.lens b hb)
    have e' : S.objs[n]? = some o' := by rw [← e]; simp [Sto.add, List.getElem?_append_left h]
    exact r.low hd b hb n o' hn e'
/-! ### a store into an object -/
/-- dirty: a thing of an elder frame gets something with a number in it -/
def Sto.esc (S : Sto) (n : Nat) (ok : Bool) : Bool := match ok with
  | true => S.dirty
  | false => S.dirty || Nat.blt n (S.bs.headD 0)
def Sto.put (S : Sto) (n : Nat) (o : O) (ok : Bool) : Sto := ⟨S.objs.set n o, S.bs, S.esc n ok⟩
theorem Sto.put_len (S : Sto) (n : Nat) (o : O) (ok : Bool) : (S.put n o ok).len = S.len := by simp [Sto.put, Sto.len]
theorem esc_ok {S : Sto} {n : Nat} {ok : Bool} (h : S.esc n ok = false) : S.dirty = false ∧ (ok = false → S.bs.headD 0 ≤ n) := by
  unfold Sto.esc at h
  cases ok with
  | true => exact ⟨h, fun z => (nomatch z)⟩
  | false =>
    obtain ⟨h1, h2⟩ := Bool.or_eq_false_iff.mp h
    refine ⟨h1, fun _ => ?_⟩
    by_cases z : n < S.bs.headD 0
    · rw [show Nat.blt n (S.bs.headD 0) = true from Nat.ble_eq_true_of_le z] at h2; cases h2
    · omega
theorem Ext.put (r : Rel m S H) {n : Nat} {o o0 : O} {ho ho0 : HO} {ok : Bool} (h1 : S.objs[n]? = some o0) (h0 : H (m n) = some ho0) (mu : Mut (some ho0)) (hok : OOk m S.len (upd H (m n) ho) (m n) o) (hb : ok = true → ∀ b, o0.blw b = true → o.blw b = true) :
    Ext m m S (S.put n o ok) H (upd H (m n) ho) := by
  have hn : n < S.len := (List.getElem?_eq_some_iff.mp h1).1
  have kp : Keep H (upd H (m n) ho) := ⟨fun a xs e => by
      rw [upd_ne]
      · exact e
      · rintro rfl; rw [h0] at e; cases e; exact mu, fun a o' u e => by
      rw [upd_ne]
      · exact e
      · rintro rfl; rw [h0] at e; cases e; exact mu⟩
  refine ⟨by rw [Sto.put_len]; exact Nat.le_refl _, fun _ _ => rfl, kp, rfl, ⟨fun i o' e => ?_, fun i j hi hj e => ?_, fun hd b hbs i o' hi e => ?_, r.top, fun b hb => by rw [Sto.put_len]; exact r.lens b hb⟩⟩
  · rw [Sto.put_len]
    by_cases h : i = n
    · subst h
      have e' : o = o' := by
        have : (S.objs.set i o)[i]? = some o' := e
        rw [List.getElem?_set_self hn] at this
        exact Option.some.inj this
      subst e'
      exact hok
    · have e' : S.objs[i]? = some o' := by
        have : (S.objs.set n o)[i]? = some o' := e
        rw [List.getElem?_set_ne (Ne.symm h)] at this
        exact this
      have hi : i < S.len := (List.getElem?_eq_some_iff.mp e').1
      exact (r.obj i o' e').mono' (Nat.le_refl _) (fun _ _ => rfl) kp (upd_ne fun z => h (r.inj i n hi hn z))
  · rw [Sto.put_len] at hi hj; exact r.inj i j hi hj e
  · obtain ⟨d1, d2⟩ := esc_ok hd
    by_cases h : i = n
    · subst h
      have e' : o = o' := by
        have : (S.objs.set i o)[i]? = some o' := e
        rw [List.getElem?_set_self hn] at this
        exact Option.some.inj this
      subst e'
      cases ok with
      | true => exact hb rfl b (r.low d1 b hbs i o0 hi h1)
      | false => exact absurd (Nat.lt_of_lt_of_le hi (r.top b hbs)) (Nat.not_lt_of_le (d2 rfl))
    · have e' : S.objs[i]? = some o' := by
        have : (S.objs.set n o)[i]? = some o' := e
        rw [List.getElem?_set_ne (Ne.symm h)] at this
        exact this
      exact r.low d1 b hbs i o' hi e'
end

/-! ### readings -/
inductive Res (α : Type) where
  | ok (a : α) (S : Sto)
  | bad
abbrev En := List (Option D)
structure REnv (m : Nat → Addr) (k : Nat) (H : Hp) (ρ : En) (σ : L2.St) : Prop where
  len : ρ.length = σ.length
  get : ∀ (i : Nat) d, ρ[i]? = some (some d) → ∃ v, σ[i]? = some (some v) ∧ RD m k H d v
theorem REnv.ext {m m' : Nat → Addr} {S S' : Sto} {H H' : Hp} {ρ : En} {σ : L2.St} (h : REnv m S.len H ρ σ) (e : Ext m m' S S' H H') : REnv m' S'.len H' ρ σ := ⟨h.len, fun i d q => by
  obtain ⟨v, h1, h2⟩ := h.get i d q
  exact ⟨v, h1, h2.ext e⟩⟩
abbrev Ev := En → Sto → Res D
abbrev EvA := En → Sto → Res (List D)
def rdE (f : Ev) : TE := fun σ H Q => ∃ m S ρ d S', Rel m S H ∧ REnv m S.len H ρ σ ∧ f ρ S = .ok d S' ∧ ∀ m' H' v, Ext m m' S S' H H' → RD m' S'.len H' d v → Q v H'
def rdT (f : Ev) : TT := fun σ H Q => ∃ m S ρ b S', Rel m S H ∧ REnv m S.len H ρ σ ∧ f ρ S = .ok (.bl b) S' ∧ ∀ m' H', Ext m m' S S' H H' → Q b H'
def rdA (f : EvA) : TA := fun σ H Q => ∃ m S ρ d S', Rel m S H ∧ REnv m S.len H ρ σ ∧ f ρ S = .ok d S' ∧ ∀ m' H' v, Ext m m' S S' H H' → RDs m' S'.len H' d v → Q v H'
/-- an operation upon values -/
def rd1 (g : D → Sto → Res D) : V → Hp → VK → Prop := fun x H Q => ∃ m S d1 d S', Rel m S H ∧ RD m S.len H d1 x ∧ g d1 S = .ok d S' ∧ ∀ m' H' v, Ext m m' S S' H H' → RD m' S'.len H' d v → Q v H'
def rd2 (g : D → D → Sto → Res D) : R2 := fun x y H Q => ∃ m S d1 d2 d S', Rel m S H ∧ RD m S.len H d1 x ∧ RD m S.len H d2 y ∧ g d1 d2 S = .ok d S' ∧ ∀ m' H' v, Ext m m' S S' H H' → RD m' S'.len H' d v → Q v H'
def rdN (g : List D → Sto → Res D) : List V → Hp → VK → Prop := fun xs H Q => ∃ m S ds d S', Rel m S H ∧ RDs m S.len H ds xs ∧ g ds S = .ok d S' ∧ ∀ m' H' v, Ext m m' S S' H H' → RD m' S'.len H' d v → Q v H'

section
variable {X : Cx} {e a b : Expr} {t t' : TE} {f g : Ev}
theorem PE.of (h : PE X e t) (i : ∀ σ H Q, t' σ H Q → t σ H Q) : PE X e t' := ⟨fun pins s σ H Q I q => h.run pins s σ H Q I (i σ H Q q)⟩
theorem PT.of {t t' : TT} (h : PT X e t) (i : ∀ σ H Q, t' σ H Q → t σ H Q) : PT X e t' := ⟨fun pins s σ H Q I q => h.run pins s σ H Q I (i σ H Q q)⟩
theorem PW.of {t t' : TT} (h : PW X e t) (i : ∀ σ H Q, t' σ H Q → t σ H Q) : PW X e t' := ⟨fun wh pins s σ H Q I q => h.run wh pins s σ H Q I (i σ H Q q)⟩
theorem PA.of {es : List Expr} {t t' : TA} (h : PA X es t) (i : ∀ σ H Q, t' σ H Q → t σ H Q) : PA X es t' := ⟨fun pos pins s σ H Q I q => h.run pos pins s σ H Q I (i σ H Q q)⟩
theorem OpR.of {fn : Value → Value → Sem Value} {r r' : R2} (h : OpR X fn r) (i : ∀ x y H Q, r' x y H Q → r x y H Q) : OpR X fn r' := fun pins s σ H x y v u Q I rx ry q => h pins s σ H x y v u Q I rx ry (i x y H Q q)
theorem CallR.of {fn : Value} {r r' : List V → Hp → VK → Prop} (h : CallR X fn r) (i : ∀ x H Q, r' x H Q → r x H Q) : CallR X fn r' := fun pins s σ H x v Q I rx q => h pins s σ H x v Q I rx (i x H Q q)

/-! ### the evaluator's joints -/
def ev2 (g : D → D → Sto → Res D) (fa fb : Ev) : Ev := fun ρ S => match fa ρ S with
  | .ok x S1 => match fb ρ S1 with
    | .ok y S2 => g x y S2
    | .bad => .bad
  | .bad => .bad
def ev1 (g : D → Sto → Res D) (fa : Ev) : Ev := fun ρ S => match fa ρ S with
  | .ok x S1 => g x S1
  | .bad => .bad
theorem ev2_ok {gg : D → D → Sto → Res D} {fa fb : Ev} {ρ : En} {S S' : Sto} {d : D} (h : ev2 gg fa fb ρ S = .ok d S') : ∃ x S1 y S2, fa ρ S = .ok x S1 ∧ fb ρ S1 = .ok y S2 ∧ gg x y S2 = .ok d S' := by
  unfold ev2 at h
  cases h1 : fa ρ S with
  | bad => rw [h1] at h; cases h
  | ok x S1 =>
    rw [h1] at h
    dsimp only at h
    cases h2 : fb ρ S1 with
    | bad => rw [h2] at h; cases h
    | ok y S2 => rw [h2] at h; exact ⟨x, S1, y, S2, rfl, h2, h⟩
theorem ev1_ok {gg : D → Sto → Res D} {fa : Ev} {ρ : En} {S S' : Sto} {d : D} (h : ev1 gg fa ρ S = .ok d S') : ∃ x S1, fa ρ S = .ok x S1 ∧ gg x S1 = .ok d S' := by
  unfold ev1 at h
  cases h1 : fa ρ S with
  | bad => rw [h1] at h; cases h
  | ok x S1 => rw [h1] at h; exact ⟨x, S1, rfl, h⟩
/-- two readings in a row, then an operation -/
theorem rd2_seq {gg : D → D → Sto → Res D} {fa fb : Ev} {σ : L2.St} {H : Hp} {Q : VK} (h : rdE (ev2 gg fa fb) σ H Q) : rdE fa σ H fun x H1 => rdE fb σ H1 fun y H2 => rd2 gg x y H2 Q := by
  obtain ⟨m, S, ρ, d, S', R, E, e, q⟩ := h
  obtain ⟨x, S1, y, S2, h1, h2, h3⟩ := ev2_ok e
  exact ⟨m, S, ρ, x, S1, R, E, h1, fun m1 H1 v1 X1 r1 => ⟨m1, S1, ρ, y, S2, X1.rel, E.ext X1, h2, fun m2 H2 v2 X2 r2 => ⟨m2, S2, x, y, d, S', X2.rel, r1.ext X2, r2, h3, fun m3 H3 v3 X3 r3 => q m3 H3 v3 (X1.trans (X2.trans X3)) r3⟩⟩⟩
theorem rd1_seq {gg : D → Sto → Res D} {fa : Ev} {σ : L2.St} {H : Hp} {Q : VK} (h : rdE (ev1 gg fa) σ H Q) : rdE fa σ H fun x H1 => rd1 gg x H1 Q := by
  obtain ⟨m, S, ρ, d, S', R, E, e, q⟩ := h
  obtain ⟨x, S1, h1, h3⟩ := ev1_ok e
  exact ⟨m, S, ρ, x, S1, R, E, h1, fun m1 H1 v1 X1 r1 => ⟨m1, S1, x, d, S', X1.rel, r1, h3, fun m3 H3 v3 X3 r3 => q m3 H3 v3 (X1.trans X3) r3⟩⟩
theorem pev_bin {op : Operator} {pos : Pos} {gg : D → D → Sto → Res D} {fa fb : Ev} (ho : OpR X (binaryOp op) (rd2 gg)) (ha : PE X a (rdE fa)) (hb : PE X b (rdE fb)) : PE X (.BinOp a op b pos) (rdE (ev2 gg fa fb)) :=
  PE.of (pe_op ho ha hb) fun _ _ _ h => rd2_seq h
theorem pev_cmp {op : CmpOp} {pos : Pos} {gg : D → D → Sto → Res D} {fa fb : Ev} (ho : OpR X (compareOp op) (rd2 gg)) (ha : PE X a (rdE fa)) (hb : PE X b (rdE fb)) (hm : behindInMarks op b = false) : PE X (.Compare a [op] [b] pos) (rdE (ev2 gg fa fb)) :=
  PE.of (pe_cmpR ho ha hb hm) fun _ _ _ h => rd2_seq h
theorem rdT_of {f : Ev} {σ : L2.St} {H : Hp} {Q : Bool → Hp → Prop} (h : rdT f σ H Q) : rdE f σ H fun x H1 => ∃ c, x = .bl c ∧ Q c H1 := by
  obtain ⟨m, S, ρ, b, S', R, E, e, q⟩ := h
  exact ⟨m, S, ρ, _, S', R, E, e, fun m1 H1 v1 X1 r1 => ⟨b, r1, q m1 H1 X1⟩⟩
theorem ptv_cmp {op : CmpOp} {pos : Pos} {gg : D → D → Sto → Res D} {fa fb : Ev} (ho : OpR X (compareOp op) (rd2 gg)) (ha : PE X a (rdE fa)) (hb : PE X b (rdE fb)) (hm : behindInMarks op b = false) : PT X (.Compare a [op] [b] pos) (rdT (ev2 gg fa fb)) :=
  PT.of (pt_cmpR ho ha hb hm) fun _ _ _ h => rd2_seq (rdT_of h)
theorem ptv_val {f : Ev} (h : PE X e (rdE f)) (he : ∀ whole, isTrue e X.env whole = (do let v ← whole; standAt e.pos; holding [v] (truthy v))) : PT X e (rdT f) :=
  PT.of (pt_val h he) fun _ _ _ h => rdT_of h

/-! ### constants, names -/
def evC (d : D) : Ev := fun _ S => .ok d S
def evV (i : Nat) : Ev := fun ρ S => match ρ[i]? with
  | some (some d) => .ok d S
  | _ => .bad
theorem rdC {d : D} {σ : L2.St} {H : Hp} {Q : VK} {v : V} (h : rdE (evC d) σ H Q) (hv : ∀ m k H, RD m k H d v) : Q v H := by
  obtain ⟨m, S, ρ, d', S', R, E, e, q⟩ := h
  cases e
  exact q m H v (Ext.refl R) (hv _ _ _)
theorem pev_int {i : Int} {j : Nat} {pos : Pos} : PE X (.Constant (.int i) j pos) (rdE (evC (.int i))) := PE.of pe_int fun _ _ _ h => rdC h fun _ _ _ => rfl
theorem pev_bl {i : Bool} {j : Nat} {pos : Pos} : PE X (.Constant (.bool i) j pos) (rdE (evC (.bl i))) := PE.of pe_bl fun _ _ _ h => rdC h fun _ _ _ => rfl
theorem pev_non {j : Nat} {pos : Pos} : PE X (.Constant .none j pos) (rdE (evC .non)) := PE.of pe_non fun _ _ _ h => rdC h fun _ _ _ => rfl
theorem pev_str {x : Str} {j : Nat} {pos : Pos} : PE X (.Constant (.str x) j pos) (rdE (evC (.str x))) := PE.of pe_str fun _ _ _ h => rdC h fun _ _ _ => rfl
theorem pev_var {i : Nat} {x : Str} {pos : Pos} (hN : X.N[i]? = some x) (hv : Vis X.env.scope x) (hd : (x == ("__debug__" : Str)) = false) (hcd : (x == ("__classdict__" : Str)) = false) : PE X (.Name x pos) (rdE (evV i)) :=
  PE.of (pe_var hN hv hd hcd) fun σ H Q h => by
    obtain ⟨m, S, ρ, d, S', R, E, e, q⟩ := h
    unfold evV at e
    split at e
    · rename_i d' hd'
      cases e
      obtain ⟨v, h1, h2⟩ := E.get i d hd'
      exact ⟨v, h1, q m H v (Ext.refl R) h2⟩
    · cases e
theorem pev_glob {x : Str} {d : D} {v : V} {u : Value} {pos : Pos} (hg : Gl X x) (hm : X.mg x = some u) (r : RelV v u) (hv : ∀ m k H, RD m k H d v) (hd : (x == ("__debug__" : Str)) = false) : PE X (.Name x pos) (rdE (evC d)) :=
  PE.of (pe_glob hg hm r hd) fun _ _ _ h => rdC h hv
end
end Sw

/-! Eng2: operations upon values. -/
namespace Sw
open PySem PySem.Spec PyProof.Rows L2

def Sto.list? (S : Sto) (n : Nat) : Option (List D) := match S.objs[n]? with
  | some (.lst xs) => some xs
  | some (.frz xs) => some xs
  | _ => none
section
variable {m : Nat → Addr} {S : Sto} {H : Hp}
theorem RDs.length {k : Nat} : ∀ {ds : List D} {vs : List V}, RDs m k H ds vs → ds.length = vs.length
  | [], vs, h => by rw [show vs = [] from h]; rfl
  | d :: ds, vs, h => by
    obtain ⟨v, r, rfl, _, h3⟩ := h
    simp [h3.length]
theorem RDs.append {k : Nat} : ∀ {ds es : List D} {vs ws : List V}, RDs m k H ds vs → RDs m k H es ws → RDs m k H (ds ++ es) (vs ++ ws)
  | [], es, vs, ws, h, h' => by rw [show vs = [] from h]; exact h'
  | d :: ds, es, vs, ws, h, h' => by
    obtain ⟨v, r, rfl, h2, h3⟩ := h
    exact ⟨v, r ++ ws, rfl, h2, h3.append h'⟩
theorem RDs.one {k : Nat} {d : D} {v : V} (h : RD m k H d v) : RDs m k H [d] [v] := ⟨v, [], rfl, h, rfl⟩
theorem RDs.get {k : Nat} : ∀ {ds : List D} {vs : List V} {i : Nat} {d : D}, RDs m k H ds vs → ds[i]? = some d → ∃ v, vs[i]? = some v ∧ RD m k H d v
  | [], _, _, _, _, e => by simp at e
  | d :: ds, vs, 0, x, h, e => by
    obtain ⟨v, r, rfl, h2, h3⟩ := h
    simp at e
    subst e
    exact ⟨v, rfl, h2⟩
  | d :: ds, vs, i + 1, x, h, e => by
    obtain ⟨v, r, rfl, h2, h3⟩ := h
    simp at e
    obtain ⟨w, h4, h5⟩ := RDs.get h3 e
    exact ⟨w, by simpa using h4, h5⟩
theorem RDs.take {k : Nat} : ∀ {ds : List D} {vs : List V} (n : Nat), RDs m k H ds vs → RDs m k H (ds.take n) (vs.take n)
  | [], vs, n, h => by rw [show vs = [] from h]; simp [RDs]
  | d :: ds, vs, 0, h => by simp [RDs]
  | d :: ds, vs, n + 1, h => by
    obtain ⟨v, r, rfl, h2, h3⟩ := h
    exact ⟨v, r.take n, rfl, h2, h3.take n⟩
theorem RDs.drop {k : Nat} : ∀ {ds : List D} {vs : List V} (n : Nat), RDs m k H ds vs → RDs m k H (ds.drop n) (vs.drop n)
  | [], vs, n, h => by rw [show vs = [] from h]; simp [RDs]
  | d :: ds, vs, 0, h => h
  | d :: ds, vs, n + 1, h => by
    obtain ⟨v, r, rfl, h2, h3⟩ := h
    exact h3.drop n
theorem RDs.reverse {k : Nat} : ∀ {ds : List D} {vs : List V}, RDs m k H ds vs → RDs m k H ds.reverse vs.reverse
  | [], vs, h => by rw [show vs = [] from h]; rfl
  | d :: ds, vs, h => by
    obtain ⟨v, r, rfl, h2, h3⟩ := h
    simp only [List.reverse_cons]
    exact h3.reverse.append (.one h2)
/-- a list that is read -/
theorem Rel.sqL {K : Frg} (r : Rel m S H) {n : Nat} {xs : List D} (h : S.list? n = some xs) : ∃ vs, SqL K H (m n) vs ∧ RDs m S.len H xs vs ∧ (H (m n) = some (.lst vs) ∨ ∃ o, H (m n) = some (.frz o (.lst vs))) := by
  unfold Sto.list? at h
  cases e : S.objs[n]? with
  | none => rw [e] at h; cases h
  | some o =>
    rw [e] at h
    have q := r.obj n o e
    cases o with
    | lst ys => cases h; obtain ⟨vs, h1, h2⟩ := q; exact ⟨vs, .inl (.inl h1), h2, .inl h1⟩
    | frz ys => cases h; obtain ⟨vs, o, h1, h2⟩ := q; exact ⟨vs, .inl (.inr ⟨o, h1⟩), h2, .inr ⟨o, h1⟩⟩
    | dct kvs => cases h
    | dctT kvs => cases h
    | set xs => cases h
/-- a new tuple -/
theorem Ext.tup (r : Rel m S H) {p : Addr} {o : HO} (hp : H p = none) : Ext m m S S H (upd H p o) := by
  have kp : Keep H (upd H p o) := Keep.new hp
  have ne : ∀ n, n < S.len → m n ≠ p := fun n h e => by obtain ⟨u, q⟩ := r.live h; rw [e, hp] at q; cases q
  exact ⟨Nat.le_refl _, fun _ _ => rfl, kp, rfl, ⟨fun n o' e => (r.obj n o' e).mono' (Nat.le_refl _) (fun _ _ => rfl) kp (upd_ne (ne n (List.getElem?_eq_some_iff.mp e).1)), r.inj, r.low, r.top, r.lens⟩⟩
theorem RD.newTup (r : Rel m S H) {p : Addr} {ds : List D} {vs : List V} (hp : H p = none) (h : RDs m S.len H ds vs) : RD m S.len (upd H p (.tup vs)) (.tup ds) (.ref p) :=
  ⟨p, vs, rfl, upd_same, RDs.mono' (Nat.le_refl _) (fun _ _ => rfl) (Keep.new hp) _ _ h⟩
/-- what follows a new tuple -/
theorem goTup {Q : VK} (r : Rel m S H) {ds : List D} {vs : List V} (h : RDs m S.len H ds vs) (q : ∀ m' H' v, Ext m m' S S H H' → RD m' S.len H' (.tup ds) v → Q v H') : ∀ p, H p = none → Q (.ref p) (upd H p (.tup vs)) :=
  fun p hp => q m _ _ (Ext.tup r hp) (RD.newTup r hp h)
/-- what follows a new list -/
theorem goLst {Q : VK} (r : Rel m S H) {ds : List D} {vs : List V} (h : RDs m S.len H ds vs) (q : ∀ m' H' v, Ext m m' S (S.add (.lst ds)) H H' → RD m' (S.add (.lst ds)).len H' (.ref S.len) v → Q v H') : ∀ p, H p = none → Q (.ref p) (upd H p (.lst vs)) :=
  fun p hp => q (withAt m S.len p) _ _ (Ext.add r hp ⟨vs, upd_same, RDs.mono' (Nat.le_refl _) (fun _ _ => rfl) (Keep.new hp) _ _ h⟩) ⟨by rw [Sto.add_len]; exact Nat.lt_succ_self _, by rw [withAt_same]⟩
end

def fits (n : Nat) : Bool := Nat.ble n 16777216
theorem fits_le {n : Nat} (h : fits n = true) : n ≤ sizeLine := Nat.le_of_ble_eq_true h
def small (i : Int) : Bool := decide (-18446744073709551616 < i) && decide (i < 18446744073709551616)

/-! ### arithmetic -/
def newL (S : Sto) (xs : List D) : Res D := .ok (.ref S.len) (S.add (.lst xs))
def addD : D → D → Sto → Res D
  | .int i, .int j, S => .ok (.int (i + j)) S
  | .str a, .str b, S => match fits (a.length + b.length) with
    | true => .ok (.str (a ++ b)) S
    | false => .bad
  | .tup xs, .tup ys, S => match fits (xs.length + ys.length) with
    | true => .ok (.tup (xs ++ ys)) S
    | false => .bad
  | .ref n, .ref k, S => match S.objs[n]?, S.objs[k]? with
    | some (.lst xs), some (.lst ys) => match fits (xs.length + ys.length) with
      | true => newL S (xs ++ ys)
      | false => .bad
    | _, _ => .bad
  | _, _, _ => .bad
def subD : D → D → Sto → Res D
  | .int i, .int j, S => .ok (.int (i - j)) S
  | _, _, _ => .bad
def mulD : D → D → Sto → Res D
  | .int i, .int j, S => match small i || small j with
    | true => .ok (.int (i * j)) S
    | false => .bad
  | _, _, _ => .bad
def fdivD : D → D → Sto → Res D
  | .int i, .int j, S => match decide (0 < j) && decide (j < 1073741824) with
    | true => .ok (.int (i / j)) S
    | false => .bad
  | _, _, _ => .bad
def modD : D → D → Sto → Res D
  | .int i, .int j, S => match decide (0 < j) with
    | true => .ok (.int (i % j)) S
    | false => .bad
  | _, _, _ => .bad
section
variable {X : Cx}
/-- an operation that leaves the store -/
theorem rdPure {m : Nat → Addr} {S : Sto} {H : Hp} {d : D} {v : V} {Q : VK} (R : Rel m S H) (q : ∀ m' H' v, Ext m m' S S H H' → RD m' S.len H' d v → Q v H') (r : RD m S.len H d v) : Q v H := q m H v (Ext.refl R) r
theorem opv_sub : OpR X (binaryOp .Sub) (rd2 subD) := OpR.of op_sub fun x y H Q h => by
  obtain ⟨m, S, d1, d2, d, S', R, r1, r2, e, q⟩ := h
  unfold subD at e
  split at e
  · cases e; exact ⟨_, _, r1, r2, rdPure R q rfl⟩
  · cases e
theorem small_ok {i : Int} (h : small i = true) : -(2 ^ 64) < i ∧ i < 2 ^ 64 := by
  unfold small at h
  simp only [Bool.and_eq_true, decide_eq_true_eq] at h
  constructor
  · have : (-(2 ^ 64) : Int) = -18446744073709551616 := by decide
    omega
  · have : ((2 ^ 64) : Int) = 18446744073709551616 := by decide
    omega
theorem opv_mul : OpR X (binaryOp .Mult) (rd2 mulD) := OpR.of op_mul fun x y H Q h => by
  obtain ⟨m, S, d1, d2, d, S', R, r1, r2, e, q⟩ := h
  unfold mulD at e
  split at e
  · split at e
    · rename_i hs
      cases e
      refine ⟨_, _, r1, r2, ?_, rdPure R q rfl⟩
      rcases Bool.or_eq_true_iff.mp hs with z | z
      · exact .inl (small_ok z)
      · exact .inr (small_ok z)
    · cases e
  · cases e
theorem opv_fdiv : OpR X (binaryOp .FloorDiv) (rd2 fdivD) := OpR.of op_fdiv fun x y H Q h => by
  obtain ⟨m, S, d1, d2, d, S', R, r1, r2, e, q⟩ := h
  unfold fdivD at e
  split at e
  · split at e
    · rename_i hs
      cases e
      simp only [Bool.and_eq_true, decide_eq_true_eq] at hs
      exact ⟨_, _, r1, r2, hs, rdPure R q rfl⟩
    · cases e
  · cases e
theorem opv_mod : OpR X (binaryOp .Mod) (rd2 modD) := OpR.of op_mod fun x y H Q h => by
  obtain ⟨m, S, d1, d2, d, S', R, r1, r2, e, q⟩ := h
  unfold modD at e
  split at e
  · split at e
    · rename_i hs
      cases e
      simp only [decide_eq_true_eq] at hs
      exact ⟨_, _, r1, r2, hs, rdPure R q rfl⟩
    · cases e
  · cases e
theorem opv_add : OpR X (binaryOp .Add) (rd2 addD) := OpR.of (OpR.or op_add (OpR.or op_add_str (OpR.or op_catA op_cat))) fun x y H Q h => by
  obtain ⟨m, S, d1, d2, d, S', R, r1, r2, e, q⟩ := h
  unfold addD at e
  split at e
  · cases e; exact .inl ⟨_, _, r1, r2, rdPure R q rfl⟩
  · split at e
    · rename_i hs
      cases e
      exact .inr (.inl ⟨_, _, r1, r2, fits_le hs, rdPure R q rfl⟩)
    · cases e
  · split at e
    · rename_i xs ys S hs
      cases e
      obtain ⟨a, vs, e1, s1, q1⟩ := r1
      obtain ⟨b, ws, e2, s2, q2⟩ := r2
      refine .inr (.inr (.inl ⟨a, b, vs, ws, e1, e2, .of s1, .of s2, ?_, fun z => ?_, fun z z' => ?_, fun z z' => ?_⟩))
      · rw [← q1.length, ← q2.length]; exact fits_le hs
      · subst z
        have : xs = [] := List.eq_nil_of_length_eq_zero (by rw [q1.length]; rfl)
        subst this
        exact rdPure R q ⟨b, ws, rfl, s2, q2⟩
      · subst z'
        have : ys = [] := List.eq_nil_of_length_eq_zero (by rw [q2.length]; rfl)
        subst this
        exact rdPure R q ⟨a, vs, rfl, s1, by rw [List.append_nil]; exact q1⟩
      · exact goTup R (q1.append q2) q
    · cases e
  · rename_i n k S
    split at e
    · rename_i xs ys h1 h2
      split at e
      · rename_i hs
        cases e
        obtain ⟨vs, a1, q1⟩ := R.obj _ _ h1
        obtain ⟨ws, a2, q2⟩ := R.obj _ _ h2
        refine .inr (.inr (.inr ⟨_, _, vs, ws, r1.2, r2.2, a1, a2, ?_, goLst R (q1.append q2) q⟩))
        rw [← q1.length, ← q2.length]; exact fits_le hs
      · cases e
    · cases e
  · cases e

/-! ### comparisons -/
def ltI (p : Int → Int → Bool) : D → D → Sto → Res D
  | .int i, .int j, S => .ok (.bl (p i j)) S
  | _, _, _ => .bad
theorem opv_cmpI {op : CmpOp} {p : Int → Int → Bool} (h : OpR X (compareOp op) (rI0 fun i j => .bl (p i j))) : OpR X (compareOp op) (rd2 (ltI p)) := OpR.of h fun x y H Q h => by
  obtain ⟨m, S, d1, d2, d, S', R, r1, r2, e, q⟩ := h
  unfold ltI at e
  split at e
  · cases e; exact ⟨_, _, r1, r2, rdPure R q rfl⟩
  · cases e

mutual
def resW (r : Nat → Option PyData) : D → Option PyData
  | .non => some .none
  | .bl b => some (.bool b)
  | .int i => some (.int i)
  | .str x => some (.str x)
  | .tup xs => match resWs r xs with
    | some ds => some (.tuple ds)
    | none => none
  | .ref n => r n
def resWs (r : Nat → Option PyData) : List D → Option (List PyData)
  | [] => some []
  | x :: xs => match resW r x with
    | some d => match resWs r xs with
      | some ds => some (d :: ds)
      | none => none
    | none => none
end
def resR (S : Sto) : Nat → Nat → Option PyData
  | 0, _ => none
  | k + 1, n => match S.list? n with
    | some xs => match resWs (resR S k) xs with
      | some ds => some (.list ds)
      | none => none
    | none => none
def res (S : Sto) (d : D) : Option PyData := resW (resR S 6) d
section
variable {K : Frg} {m : Nat → Addr} {S : Sto} {H : Hp}
mutual
theorem resW_dp {r : Nat → Option PyData} (hr : ∀ n p, r n = some p → n < S.len → Dp K H (.ref (m n)) p ∧ p.plain = true) : ∀ (d : D) (v : V) (p : PyData), RD m S.len H d v → resW r d = some p → Dp K H v p ∧ p.plain = true
  | .non, v, p, h, e => by simp only [resW] at e; cases e; rw [show v = _ from h]; exact ⟨.non, rfl⟩
  | .bl b, v, p, h, e => by simp only [resW] at e; cases e; rw [show v = _ from h]; exact ⟨.bl _, rfl⟩
  | .int b, v, p, h, e => by simp only [resW] at e; cases e; rw [show v = _ from h]; exact ⟨.int _, rfl⟩
  | .str b, v, p, h, e => by simp only [resW] at e; cases e; rw [show v = _ from h]; exact ⟨.str _, rfl⟩
  | .tup xs, v, p, h, e => by
    simp only [resW] at e
    obtain ⟨a, vs, rfl, s, q⟩ := h
    cases e1 : resWs r xs with
    | none => rw [e1] at e; cases e
    | some ds =>
      rw [e1] at e
      cases e
      obtain ⟨h1, h2⟩ := resWs_dp hr xs vs ds q e1
      exact ⟨.tup (.of s) h1, by simp only [PyData.plain]; exact h2⟩
  | .ref n, v, p, h, e => by
    simp only [resW] at e
    rw [h.2]
    exact hr n p e h.1
theorem resWs_dp {r : Nat → Option PyData} (hr : ∀ n p, r n = some p → n < S.len → Dp K H (.ref (m n)) p ∧ p.plain = true) : ∀ (ds : List D) (vs : List V) (ps : List PyData), RDs m S.len H ds vs → resWs r ds = some ps → DpAll K H vs ps ∧ PyData.plainAll ps = true
  | [], vs, ps, h, e => by simp only [resWs] at e; cases e; rw [show vs = [] from h]; exact ⟨.nil, rfl⟩
  | d :: ds, vs, ps, h, e => by
    simp only [resWs] at e
    obtain ⟨v, r', rfl, h2, h3⟩ := h
    cases e1 : resW r d with
    | none => rw [e1] at e; cases e
    | some p =>
      rw [e1] at e
      dsimp only at e
      cases e2 : resWs r ds with
      | none => rw [e2] at e; cases e
      | some qs =>
        rw [e2] at e
        cases e
        obtain ⟨a1, a2⟩ := resW_dp hr d v p h2 e1
        obtain ⟨b1, b2⟩ := resWs_dp hr ds r' qs h3 e2
        exact ⟨.cons a1 b1, by simp only [PyData.plainAll, a2, b2, Bool.and_self]⟩
end
theorem resR_dp (R : Rel m S H) : ∀ (k n : Nat) (p : PyData), resR S k n = some p → n < S.len → Dp K H (.ref (m n)) p ∧ p.plain = true
  | 0, _, _, h, _ => by simp only [resR] at h; cases h
  | k + 1, n, p, h, hn => by
    simp only [resR] at h
    cases e : S.list? n with
    | none => rw [e] at h; cases h
    | some xs =>
      rw [e] at h
      dsimp only at h
      obtain ⟨vs, h1, h2, _⟩ := R.sqL e
      cases e1 : resWs (resR S k) xs with
      | none => rw [e1] at h; cases h
      | some ds =>
        rw [e1] at h
        cases h
        obtain ⟨a1, a2⟩ := resWs_dp (fun n p => resR_dp R k n p) xs vs ds h2 e1
        exact ⟨.lst h1 a1, by simp only [PyData.plain]; exact a2⟩
theorem res_dp (R : Rel m S H) {d : D} {v : V} {p : PyData} (h : RD m S.len H d v) (e : res S d = some p) : Dp K H v p ∧ p.plain = true := resW_dp (fun n p => resR_dp R 6 n p) d v p h e
end
theorem dec_beq {α : Type} [DecidableEq α] (a b : α) : decide (a = b) = (a == b) := by by_cases h : a = b <;> simp [h]
/-- == upon data -/
def eqv? (S : Sto) (x y : D) : Option Bool := match x, y with
  | .int i, .int j => some (decide (i = j))
  | .non, .int _ => some false
  | .int _, .non => some false
  | .non, .non => some true
  | .str a, .str b => some (decide (a = b))
  | x, y => match res S x with
    | some p => match res S y with
      | some q => match Nat.ble p.depth 60 with
        | true => some (PyData.eqv p q)
        | false => none
      | none => none
    | none => none
def eqD (x y : D) (S : Sto) : Res D := match eqv? S x y with
  | some b => .ok (.bl b) S
  | none => .bad
def neD (x y : D) (S : Sto) : Res D := match eqv? S x y with
  | some b => .ok (.bl (!b)) S
  | none => .bad
theorem eqv_wit {pins : List (Addr × Obj)} {s : Shared} {σ : L2.St} {m : Nat → Addr} {S : Sto} {H : Hp} (I : Inv X pins σ H s) (R : Rel m S H) {x y : D} {xv yv : V} {u w : Value} {b : Bool} (hx : RD m S.len H x xv) (hy : RD m S.len H y yv) (rx : RelV xv u) (ry : RelV yv w) (e : eqv? S x y = some b) :
    ∃ p q as bs, Reads s.heap u p as ∧ Reads s.heap w q bs ∧ p.plain = true ∧ q.plain = true ∧ p.depth ≤ 60 ∧ b = PyData.eqv p q := by
  unfold eqv? at e
  split at e
  · cases e
    rw [show xv = _ from hx] at rx; rw [show yv = _ from hy] at ry
    obtain ⟨t, rfl⟩ := rx; obtain ⟨t', rfl⟩ := ry
    exact ⟨_, _, _, _, .int _ _, .int _ _, rfl, rfl, by simp [PyData.depth], by simp only [PyData.eqv]; try exact dec_beq _ _⟩
  · cases e
    rw [show xv = _ from hx] at rx; rw [show yv = _ from hy] at ry
    cases rx; obtain ⟨t', rfl⟩ := ry
    exact ⟨_, _, _, _, .none, .int _ _, rfl, rfl, by simp [PyData.depth], by simp only [PyData.eqv]; try exact dec_beq _ _⟩
  · cases e
    rw [show xv = _ from hx] at rx; rw [show yv = _ from hy] at ry
    obtain ⟨t, rfl⟩ := rx; cases ry
    exact ⟨_, _, _, _, .int _ _, .none, rfl, rfl, by simp [PyData.depth], by simp only [PyData.eqv]; try exact dec_beq _ _⟩
  · cases e
    rw [show xv = _ from hx] at rx; rw [show yv = _ from hy] at ry
    cases rx; cases ry
    exact ⟨_, _, _, _, .none, .none, rfl, rfl, by simp [PyData.depth], by simp only [PyData.eqv]; try exact dec_beq _ _⟩
  · cases e
    rw [show xv = _ from hx] at rx; rw [show yv = _ from hy] at ry
    obtain ⟨t, rfl⟩ := rx; obtain ⟨t', rfl⟩ := ry
    exact ⟨_, _, _, _, .str _ _, .str _ _, rfl, rfl, by simp [PyData.depth], by simp only [PyData.eqv]; try exact dec_beq _ _⟩
  · split at e
    · rename_i p hp
      split at e
      · rename_i q hq
        split at e
        · rename_i hd
          cases e
          obtain ⟨d1, p1⟩ := res_dp R hx hp
          obtain ⟨d2, p2⟩ := res_dp R hy hq
          obtain ⟨as, r1⟩ := Dp.reads I p xv u d1 rx
          obtain ⟨bs, r2⟩ := Dp.reads I q yv w d2 ry
          exact ⟨p, q, as, bs, r1, r2, p1, p2, Nat.le_of_ble_eq_true hd, rfl⟩
        · cases e
      · cases e
    · cases e
theorem opv_eq (hu : X.A.units + 64 < cLine) : OpR X (compareOp .Eq) (rd2 eqD) := by
  intro pins s σ H x y v u Q I rx ry h
  obtain ⟨m, S, d1, d2, d, S', R, r1, r2, e, q⟩ := h
  unfold eqD at e
  split at e
  · rename_i b hb
    cases e
    obtain ⟨p, q', as, bs, a1, a2, a3, a4, a5, a6⟩ := eqv_wit I R r1 r2 rx ry hb
    refine SeqAt.eq_plain a1 a2 a3 a4 (by have := Nat.min_le_left p.depth q'.depth; omega) ?_
    rw [← a6]
    exact ⟨.bl b, H, I, rfl, rdPure R q rfl⟩
  · cases e
theorem opv_ne (hu : X.A.units + 64 < cLine) : OpR X (compareOp .NotEq) (rd2 neD) := by
  intro pins s σ H x y v u Q I rx ry h
  obtain ⟨m, S, d1, d2, d, S', R, r1, r2, e, q⟩ := h
  unfold neD at e
  split at e
  · rename_i b hb
    cases e
    obtain ⟨p, q', as, bs, a1, a2, a3, a4, a5, a6⟩ := eqv_wit I R r1 r2 rx ry hb
    refine SeqAt.ne_plain a1 a2 a3 a4 (by have := Nat.min_le_left p.depth q'.depth; omega) ?_
    rw [← a6]
    exact ⟨.bl (!b), H, I, rfl, rdPure R q rfl⟩
  · cases e
/-- x is y: None, truths -/
def isD : D → D → Sto → Res D
  | .non, .non, S => .ok (.bl true) S
  | .bl a, .bl b, S => .ok (.bl (decide (a = b))) S
  | .int _, .non, S => .ok (.bl false) S
  | .bl _, .non, S => .ok (.bl false) S
  | .str _, .non, S => .ok (.bl false) S
  | .tup _, .non, S => .ok (.bl false) S
  | .ref _, .non, S => .ok (.bl false) S
  | _, _, _ => .bad
def isNotD (x y : D) (S : Sto) : Res D := match isD x y S with
  | .ok (.bl b) S' => .ok (.bl (!b)) S'
  | _ => .bad
theorem isD_wit {m : Nat → Addr} {S S' : Sto} {H : Hp} {d1 d2 d : D} {x y : V} (r1 : RD m S.len H d1 x) (r2 : RD m S.len H d2 y) (e : isD d1 d2 S = .ok d S') : S' = S ∧ ((y = .non ∧ d = .bl (decide (x = .non))) ∨ ∃ a b, x = .bl a ∧ y = .bl b ∧ d = .bl (decide (a = b))) := by
  unfold isD at e
  split at e
  · cases e; exact ⟨rfl, .inl ⟨r2, by rw [show x = .non from r1]; rfl⟩⟩
  · cases e; exact ⟨rfl, .inr ⟨_, _, r1, r2, rfl⟩⟩
  · cases e; exact ⟨rfl, .inl ⟨r2, by rw [show x = _ from r1]; rfl⟩⟩
  · cases e; exact ⟨rfl, .inl ⟨r2, by rw [show x = _ from r1]; rfl⟩⟩
  · cases e; exact ⟨rfl, .inl ⟨r2, by rw [show x = _ from r1]; rfl⟩⟩
  · cases e; obtain ⟨a, vs, rfl, _⟩ := r1; exact ⟨rfl, .inl ⟨r2, rfl⟩⟩
  · cases e; rw [r1.2]; exact ⟨rfl, .inl ⟨r2, rfl⟩⟩
  · cases e
theorem opv_is : OpR X (compareOp .Is) (rd2 isD) := OpR.of (OpR.or op_isN op_isBl) fun x y H Q h => by
  obtain ⟨m, S, d1, d2, d, S', R, r1, r2, e, q⟩ := h
  obtain ⟨rfl, z | ⟨a, b, z1, z2, z3⟩⟩ := isD_wit r1 r2 e
  · obtain ⟨z1, rfl⟩ := z
    exact .inl ⟨z1, rdPure R q rfl⟩
  · subst z3
    exact .inr ⟨a, b, z1, z2, rdPure R q rfl⟩
theorem opv_isNot : OpR X (compareOp .IsNot) (rd2 isNotD) := OpR.of (OpR.or op_notN op_notBl) fun x y H Q h => by
  obtain ⟨m, S, d1, d2, d, S', R, r1, r2, e, q⟩ := h
  unfold isNotD at e
  split at e
  · rename_i b S2 hb
    cases e
    obtain ⟨rfl, z | ⟨a, b', z1, z2, z3⟩⟩ := isD_wit r1 r2 hb
    · obtain ⟨z1, z2⟩ := z
      cases z2
      exact .inl ⟨z1, rdPure R q rfl⟩
    · cases z3
      exact .inr ⟨a, b', z1, z2, rdPure R q rfl⟩
  · cases e
end
end Sw

/-! Eng3: keys, in, subscripts, slices, len, isinstance. -/
namespace Sw
open PySem PySem.Spec PyProof.Rows L2

/-! ### keys -/
def keyOf : D → Option Key
  | .int i => some (.inl i)
  | .str x => some (.inr x)
  | _ => none
def keysOf : List D → Option (List Key)
  | [] => some []
  | x :: xs => match keyOf x with
    | some k => match keysOf xs with
      | some ks => some (k :: ks)
      | none => none
    | none => none
def tkeyOf : D → Option (List Key)
  | .tup xs => keysOf xs
  | _ => none
theorem keyOf_ok {d : D} {q : Key} (h : keyOf d = some q) : d = kD q := by
  cases d <;> simp [keyOf] at h <;> subst h <;> rfl
theorem keyOf_kD (q : Key) : keyOf (kD q) = some q := by cases q <;> rfl
theorem keysOf_ok : ∀ {ds : List D} {qs : List Key}, keysOf ds = some qs → ds = qs.map kD
  | [], qs, h => by simp only [keysOf] at h; cases h; rfl
  | x :: xs, qs, h => by
    simp only [keysOf] at h
    cases e1 : keyOf x with
    | none => rw [e1] at h; cases h
    | some k =>
      rw [e1] at h
      dsimp only at h
      cases e2 : keysOf xs with
      | none => rw [e2] at h; cases h
      | some ks =>
        rw [e2] at h
        cases h
        rw [keyOf_ok e1, keysOf_ok e2]
        rfl
theorem keysOf_kD : ∀ qs : List Key, keysOf (qs.map kD) = some qs
  | [] => rfl
  | q :: qs => by simp only [List.map_cons, keysOf, keyOf_kD, keysOf_kD qs]
theorem tkeyOf_ok {d : D} {q : List Key} (h : tkeyOf d = some q) : d = kT q := by
  cases d <;> simp only [tkeyOf] at h <;> try cases h
  rw [keysOf_ok h]; rfl
theorem tkeyOf_kT (q : List Key) : tkeyOf (kT q) = some q := keysOf_kD q
/-- look-up by a key -/
def dLook {κ : Type} [DecidableEq κ] (ko : D → Option κ) : List (D × D) → κ → Option D
  | [], _ => none
  | (a, d) :: r, q => match ko a with
    | some q' => match decide (q' = q) with
      | true => some d
      | false => dLook ko r q
    | none => dLook ko r q
def dRep {κ : Type} [DecidableEq κ] (ko : D → Option κ) (q : κ) (v : D) : List (D × D) → List (D × D)
  | [] => []
  | (a, d) :: r => match ko a with
    | some q' => match decide (q' = q) with
      | true => (a, v) :: dRep ko q v r
      | false => (a, d) :: dRep ko q v r
    | none => (a, d) :: dRep ko q v r
def dPut {κ : Type} [DecidableEq κ] (ko : D → Option κ) (kvs : List (D × D)) (q : κ) (kd v : D) : List (D × D) := match dLook ko kvs q with
  | some _ => dRep ko q v kvs
  | none => kvs ++ [(kd, v)]
section
variable {m : Nat → Addr} {S : Sto} {H : Hp} {κ : Type} [DecidableEq κ] {ko : D → Option κ} {kd : κ → D}
theorem dLook_ok {k : Nat} (hk : ∀ q, ko (kd q) = some q) : ∀ {kvs : List (D × D)} {ps : List (κ × V)} {q : κ}, RKv m k H kd kvs ps → (∀ d, dLook ko kvs q = some d → ∃ v, valV ps q = some v ∧ RD m k H d v) ∧ (dLook ko kvs q = none → valV ps q = none)
  | [], ps, q, h => by rw [show ps = [] from h]; exact ⟨fun d e => (by simp [dLook] at e), fun _ => rfl⟩
  | (a, d) :: r, ps, q, h => by
    obtain ⟨q', v, ps', rfl, rfl, h3, h4⟩ := h
    simp only [dLook, hk]
    by_cases e : q' = q
    · subst e
      simp only [decide_true]
      exact ⟨fun d' e' => ⟨v, by simp [valV], by cases e'; exact h3⟩, fun e' => (nomatch e')⟩
    · simp only [decide_eq_false e]
      have ih := dLook_ok hk (q := q) h4
      have ev : valV ((q', v) :: ps') q = valV ps' q := by simp [valV, List.find?_cons, e]
      rw [ev]
      exact ih
theorem RKv.append {k : Nat} : ∀ {kvs ls : List (D × D)} {ps qs : List (κ × V)}, RKv m k H kd kvs ps → RKv m k H kd ls qs → RKv m k H kd (kvs ++ ls) (ps ++ qs)
  | [], ls, ps, qs, h, h' => by rw [show ps = [] from h]; exact h'
  | (a, d) :: r, ls, ps, qs, h, h' => by
    obtain ⟨q', v, ps', rfl, h2, h3, h4⟩ := h
    exact ⟨q', v, ps' ++ qs, rfl, h2, h3, RKv.append h4 h'⟩
theorem RKv.length {k : Nat} : ∀ {kvs : List (D × D)} {ps : List (κ × V)}, RKv m k H kd kvs ps → kvs.length = ps.length
  | [], ps, h => by rw [show ps = [] from h]; rfl
  | (a, d) :: r, ps, h => by
    obtain ⟨q', v, ps', rfl, h2, h3, h4⟩ := h
    simp [RKv.length h4]
theorem dRep_ok {k : Nat} (hk : ∀ q, ko (kd q) = some q) {q : κ} {d : D} {v : V} (hd : RD m k H d v) : ∀ {kvs : List (D × D)} {ps : List (κ × V)}, RKv m k H kd kvs ps → RKv m k H kd (dRep ko q d kvs) (ps.map fun kv => if kv.1 = q then (kv.1, v) else kv)
  | [], ps, h => by rw [show ps = [] from h]; rfl
  | (a, d') :: r, ps, h => by
    obtain ⟨q', v', ps', rfl, rfl, h3, h4⟩ := h
    simp only [dRep, hk]
    by_cases e : q' = q
    · subst e
      simp only [decide_true]
      exact ⟨q', v, _, by simp, rfl, hd, dRep_ok hk hd h4⟩
    · simp only [decide_eq_false e]
      exact ⟨q', v', _, by simp [e], rfl, h3, dRep_ok hk hd h4⟩
theorem dPut_ok {k : Nat} (hk : ∀ q, ko (kd q) = some q) {kvs : List (D × D)} {ps : List (κ × V)} {q : κ} {d : D} {v : V} (h : RKv m k H kd kvs ps) (hd : RD m k H d v) : RKv m k H kd (dPut ko kvs q (kd q) d) (putK ps q v) := by
  obtain ⟨h1, h2⟩ := dLook_ok hk (q := q) h
  unfold dPut putK
  rw [valV_any]
  cases e : dLook ko kvs q with
  | none =>
    rw [h2 e]
    exact RKv.append h ⟨q, v, [], rfl, rfl, hd, rfl⟩
  | some d0 =>
    obtain ⟨v0, e0, _⟩ := h1 d0 e
    rw [e0]
    exact dRep_ok hk hd h
end
theorem RD.kD {m : Nat → Addr} {k : Nat} {H : Hp} {q : Key} {v : V} (h : RD m k H (kD q) v) : v = kV q := by cases q <;> exact h
theorem RDs.kDs {m : Nat → Addr} {k : Nat} {H : Hp} : ∀ {qs : List Key} {vs : List V}, RDs m k H (qs.map Sw.kD) vs → vs = qs.map kV
  | [], vs, h => h
  | q :: qs, vs, h => by
    obtain ⟨v, r, rfl, h2, h3⟩ := h
    rw [RD.kD h2, RDs.kDs h3]
    rfl
theorem RD.kT {m : Nat → Addr} {k : Nat} {H : Hp} {q : List Key} {v : V} (h : RD m k H (kT q) v) : ∃ b, v = .ref b ∧ H b = some (.tup (q.map kV)) := by
  obtain ⟨a, vs, h1, h2, h3⟩ := h
  rw [RDs.kDs h3] at h2
  exact ⟨a, h1, h2⟩
/-- look-up in the dict of a number -/
def Sto.get? (S : Sto) (n : Nat) (x : D) : Option (Option D) := match S.objs[n]? with
  | some (.dct kvs) => match keyOf x with
    | some q => some (dLook keyOf kvs q)
    | none => none
  | some (.dctT kvs) => match tkeyOf x with
    | some q => some (dLook tkeyOf kvs q)
    | none => none
  | _ => none
theorem Rel.get {m : Nat → Addr} {S : Sto} {H : Hp} (R : Rel m S H) {n : Nat} {x : D} {v : V} {o : Option D} (hx : RD m S.len H x v) (h : S.get? n x = some o) :
    (∃ w, DGet H (m n) v w ∧ (∀ d, o = some d → ∃ z, w = some z ∧ RD m S.len H d z) ∧ (o = none → w = none)) := by
  unfold Sto.get? at h
  cases e : S.objs[n]? with
  | none => rw [e] at h; cases h
  | some ob =>
    rw [e] at h
    have q := R.obj n ob e
    cases ob with
    | lst _ => cases h
    | frz _ => cases h
    | set _ => cases h
    | dct kvs =>
      obtain ⟨ps, h1, h2⟩ := q
      dsimp only at h
      cases ek : keyOf x with
      | none => rw [ek] at h; cases h
      | some q =>
        rw [ek] at h
        cases h
        rw [keyOf_ok ek] at hx
        rw [RD.kD hx]
        exact ⟨_, DGet.k h1, fun d e => by obtain ⟨z, z1, z2⟩ := (dLook_ok keyOf_kD h2).1 d e; exact ⟨z, z1, z2⟩, fun e => (dLook_ok keyOf_kD h2).2 e⟩
    | dctT kvs =>
      obtain ⟨ps, h1, h2⟩ := q
      dsimp only at h
      cases ek : tkeyOf x with
      | none => rw [ek] at h; cases h
      | some q =>
        rw [ek] at h
        cases h
        rw [tkeyOf_ok ek] at hx
        obtain ⟨b, rfl, hb⟩ := RD.kT hx
        exact ⟨_, DGet.t h1 hb, fun d e => by obtain ⟨z, z1, z2⟩ := (dLook_ok tkeyOf_kT h2).1 d e; exact ⟨z, z1, z2⟩, fun e => (dLook_ok tkeyOf_kT h2).2 e⟩

/-! ### in -/
def inAny (S : Sto) (x : D) (ys : List D) : Option Bool := match res S x with
  | some p => match resWs (resR S 6) ys with
    | some qs => match Nat.ble p.depth 60 with
      | true => some (qs.any fun y => PyData.eqv y p)
      | false => none
    | none => none
  | none => none
def in? (S : Sto) (x y : D) : Option Bool := match y with
  | .tup ys => inAny S x ys
  | .ref n => match S.list? n with
    | some ys => inAny S x ys
    | none => match S.get? n x with
      | some o => some o.isSome
      | none => none
  | _ => none
def inD (x y : D) (S : Sto) : Res D := match in? S x y with
  | some b => .ok (.bl b) S
  | none => .bad
def notInD (x y : D) (S : Sto) : Res D := match in? S x y with
  | some b => .ok (.bl (!b)) S
  | none => .bad
section
variable {X : Cx}
theorem inAny_ok {S : Sto} {x : D} {ys : List D} {b : Bool} (h : inAny S x ys = some b) : ∃ p qs, res S x = some p ∧ resWs (resR S 6) ys = some qs ∧ p.depth ≤ 60 ∧ b = qs.any fun y => PyData.eqv y p := by
  unfold inAny at h
  split at h
  · rename_i p hp
    split at h
    · rename_i qs hq
      split at h
      · rename_i hd
        cases h
        exact ⟨p, qs, hp, hq, Nat.le_of_ble_eq_true hd, rfl⟩
      · cases h
    · cases h
  · cases h
theorem in_wit {pins : List (Addr × Obj)} {s : Shared} {σ : L2.St} {m : Nat → Addr} {S : Sto} {H : Hp} (hu : X.A.units + 64 < cLine) (I : Inv X pins σ H s) (R : Rel m S H) {x y : D} {xv yv : V} {u w : Value} {b : Bool} (hx : RD m S.len H x xv) (hy : RD m S.len H y yv) (rx : RelV xv u) (ry : RelV yv w) (e : in? S x y = some b) {E : Value → Shared → Prop} :
    (∀ Q : Value → Shared → Prop, (∀ s', Inv X pins σ H s' → Q (.bool b) s') → wpAny (model X.prog X.w) X.A (compareOp .In u w) Q E s) ∧ (∀ Q : Value → Shared → Prop, (∀ s', Inv X pins σ H s' → Q (.bool (!b)) s') → wpAny (model X.prog X.w) X.A (compareOp .NotIn u w) Q E s) := by
  unfold in? at e
  split at e
  · rename_i ys
    obtain ⟨p, qs, h1, h2, h3, rfl⟩ := inAny_ok e
    obtain ⟨d1, p1⟩ := res_dp (K := X.K) R hx h1
    obtain ⟨a, vs, rfl, ha, q⟩ := hy
    obtain ⟨d2, p2⟩ := resWs_dp (K := X.K) (fun n p => resR_dp R 6 n p) ys vs qs q h2
    obtain ⟨as, r1⟩ := Dp.reads I p xv u d1 rx
    obtain ⟨bs, r2⟩ := Dp.reads I (.tuple qs) (.ref a) w (.tup (.of ha) d2) ry
    have hm := Nat.min_le_right (PyData.depthAll qs) p.depth
    exact ⟨fun Q hQ => SeqAt.in_tuple_data r2 r1 p2 p1 (by omega) (hQ s I), fun Q hQ => SeqAt.notIn_tuple_data r2 r1 p2 p1 (by omega) (hQ s I)⟩
  · rename_i n
    split at e
    · rename_i ys hl
      obtain ⟨p, qs, h1, h2, h3, rfl⟩ := inAny_ok e
      obtain ⟨d1, p1⟩ := res_dp (K := X.K) R hx h1
      obtain ⟨vs, hs, q, _⟩ := R.sqL (K := X.K) hl
      obtain ⟨d2, p2⟩ := resWs_dp (K := X.K) (fun n p => resR_dp R 6 n p) ys vs qs q h2
      obtain ⟨as, r1⟩ := Dp.reads I p xv u d1 rx
      obtain ⟨bs, r2⟩ := Dp.reads I (.list qs) yv w (by rw [hy.2]; exact .lst hs d2) ry
      have hm := Nat.min_le_right (PyData.depthAll qs) p.depth
      exact ⟨fun Q hQ => SeqAt.in_list_data r2 r1 p2 p1 (by omega) (hQ s I), fun Q hQ => SeqAt.notIn_list_data r2 r1 p2 p1 (by omega) (hQ s I)⟩
    · split at e
      · rename_i o ho
        cases e
        obtain ⟨w', g, h1, h2⟩ := R.get hx ho
        have eo : w'.isSome = o.isSome := by
          cases o with
          | none => rw [h2 rfl]; rfl
          | some d => obtain ⟨z, hz, _⟩ := h1 d rfl; rw [hz]; rfl
        rw [hy.2] at ry
        obtain rfl : w = .ref (m n) := ry
        rw [← eo]
        exact ⟨fun Q hQ => d_in (by omega) I g rx hQ, fun Q hQ => d_notIn (by omega) I g rx hQ⟩
      · cases e
  · cases e
theorem opv_in (hu : X.A.units + 64 < cLine) : OpR X (compareOp .In) (rd2 inD) := by
  intro pins s σ H x y v u Q I rx ry h
  obtain ⟨m, S, d1, d2, d, S', R, r1, r2, e, q⟩ := h
  unfold inD at e
  split at e
  · rename_i b hb
    cases e
    exact (in_wit hu I R r1 r2 rx ry hb).1 _ fun s' I' => ⟨.bl b, H, I', rfl, rdPure R q rfl⟩
  · cases e
theorem opv_notIn (hu : X.A.units + 64 < cLine) : OpR X (compareOp .NotIn) (rd2 notInD) := by
  intro pins s σ H x y v u Q I rx ry h
  obtain ⟨m, S, d1, d2, d, S', R, r1, r2, e, q⟩ := h
  unfold notInD at e
  split at e
  · rename_i b hb
    cases e
    exact (in_wit hu I R r1 r2 rx ry hb).2 _ fun s' I' => ⟨.bl (!b), H, I', rfl, rdPure R q rfl⟩
  · cases e

/-! ### subscripts -/
def ixD (x y : D) (S : Sto) : Res D := match x with
  | .tup xs => match y with
    | .int i => match atI xs i with
      | some d => .ok d S
      | none => .bad
    | _ => .bad
  | .str z => match y with
    | .int i => match fits z.length with
      | true => match atI z.cps.toList i with
        | some c => .ok (.str ⟨#[c]⟩) S
        | none => .bad
      | false => .bad
    | _ => .bad
  | .ref n => match S.list? n with
    | some xs => match y with
      | .int i => match atI xs i with
        | some d => .ok d S
        | none => .bad
      | _ => .bad
    | none => match S.get? n y with
      | some (some d) => .ok d S
      | _ => .bad
  | _ => .bad
theorem atI_rd {m : Nat → Addr} {k : Nat} {H : Hp} {ds : List D} {vs : List V} {i : Int} {d : D} (h : RDs m k H ds vs) (e : atI ds i = some d) : ∃ v, atI vs i = some v ∧ RD m k H d v := by
  unfold atI at e ⊢
  rw [← h.length]
  cases q : ixN ds.length i with
  | none => rw [q] at e; cases e
  | some j =>
    rw [q] at e
    exact h.get e
def rDG (H0 : Unit) : R2 := fun x y H Q => ∃ a v, x = .ref a ∧ DGet H a y (some v) ∧ Q v H
theorem ix_dict (hu : X.A.units + 1 < cLine) : IxR X (rDG ()) := by
  intro value slice pins s σ H x y v u Q I rx ry h hs
  obtain ⟨a, z, rfl, g, q⟩ := h
  obtain rfl : v = .ref a := rx
  exact PyProof.Rows.tail_any (dict_typeIs I g) PySem.F.slot_dict_getitem.lookup (d_getItem hu I g ry fun w' s3 I3 rw' => ⟨z, H, I3, rw', q⟩) hs
theorem ixv (hu : X.A.units + 1 < cLine) : IxR X (rd2 ixD) := by
  intro value slice pins s σ H x y v u Q I rx ry h hs
  refine (IxR.or ix_seq (ix_dict hu)) value slice pins s σ H x y v u Q I rx ry ?_ hs
  obtain ⟨m, S, d1, d2, d, S', R, r1, r2, e, q⟩ := h
  unfold ixD at e
  split at e
  · rename_i xs
    split at e
    · rename_i i
      split at e
      · rename_i d0 hd
        cases e
        obtain ⟨a, vs, rfl, ha, qs⟩ := r1
        obtain ⟨w, hw, rw'⟩ := atI_rd qs hd
        exact .inl (.inr (.inl ⟨a, vs, i, w, rfl, r2, .of ha, hw, rdPure R q rw'⟩))
      · cases e
    · cases e
  · rename_i z
    split at e
    · rename_i i
      split at e
      · rename_i hf
        split at e
        · rename_i c hc
          cases e
          exact .inl (.inr (.inr ⟨z, i, c, r1, r2, fits_le hf, hc, rdPure R q rfl⟩))
        · cases e
      · cases e
    · cases e
  · rename_i n
    split at e
    · rename_i xs hl
      split at e
      · rename_i i
        split at e
        · rename_i d0 hd
          cases e
          obtain ⟨vs, hsq, qs, _⟩ := R.sqL (K := X.K) hl
          obtain ⟨w, hw, rw'⟩ := atI_rd qs hd
          exact .inl (.inl ⟨_, vs, i, w, r1.2, r2, hsq, hw, rdPure R q rw'⟩)
        · cases e
      · cases e
    · split at e
      · rename_i d0 hd
        cases e
        obtain ⟨w, g, h1, _⟩ := R.get r2 hd
        obtain ⟨z, rfl, hz⟩ := h1 _ rfl
        exact .inr ⟨_, z, r1.2, g, rdPure R q hz⟩
      · cases e
  · cases e
theorem pev_ix {a b : Expr} {fa fb : Ev} {pos : Pos} (hu : X.A.units + 1 < cLine) (ha : PE X a (rdE fa)) (hb : PE X b (rdE fb)) (hs : PlainIx b) : PE X (.Subscript a b pos) (rdE (ev2 ixD fa fb)) :=
  PE.of (pe_ix (ixv hu) ha hb hs) fun _ _ _ h => rd2_seq h
end
end Sw

/-! Eng4: displays, tests, slices, built-ins, methods. -/
namespace Sw
open PySem PySem.Spec PyProof.Rows L2

/-! ### arguments -/
def evNil : EvA := fun _ S => .ok [] S
def evCons (f : Ev) (g : EvA) : EvA := fun ρ S => match f ρ S with
  | .ok x S1 => match g ρ S1 with
    | .ok xs S2 => .ok (x :: xs) S2
    | .bad => .bad
  | .bad => .bad
def evStar (f : Ev) (g : EvA) : EvA := fun ρ S => match f ρ S with
  | .ok x S1 => match g ρ S1 with
    | .ok xs S2 => match x with
      | .tup ys => .ok (ys ++ xs) S2
      | .ref n => match S1.list? n with
        | some ys => .ok (ys ++ xs) S2
        | none => .bad
      | _ => .bad
    | .bad => .bad
  | .bad => .bad
def evN (g : List D → Sto → Res D) (fa : EvA) : Ev := fun ρ S => match fa ρ S with
  | .ok xs S1 => g xs S1
  | .bad => .bad
section
variable {X : Cx} {e a b c : Expr} {es : List Expr} {f fa fb fc : Ev} {g : EvA} {pos : Pos}
theorem pav_nil : PA X [] (rdA evNil) := PA.of pa_nil fun σ H Q h => by
  obtain ⟨m, S, ρ, d, S', R, E, e, q⟩ := h
  cases e
  exact q m H [] (Ext.refl R) rfl
theorem pav_cons (he : PE X e (rdE f)) (hes : PA X es (rdA g)) (hs : starEach (e :: es) X.env = (false, eval e X.env) :: starEach es X.env) : PA X (e :: es) (rdA (evCons f g)) := PA.of (pa_cons he hes hs) fun σ H Q h => by
  obtain ⟨m, S, ρ, d, S', R, E, e, q⟩ := h
  unfold evCons at e
  split at e
  · rename_i x S1 h1
    split at e
    · rename_i xs S2 h2
      cases e
      exact ⟨m, S, ρ, x, S1, R, E, h1, fun m1 H1 v1 X1 r1 => ⟨m1, S1, ρ, xs, S', X1.rel, E.ext X1, h2, fun m2 H2 v2 X2 r2 => q m2 H2 _ (X1.trans X2) ⟨v1, v2, rfl, r1.ext X2, r2⟩⟩⟩
    · cases e
  · cases e
theorem pav_star {p : Pos} (he : PE X e (rdE f)) (hes : PA X es (rdA g)) : PA X (.Starred e p :: es) (rdA (evStar f g)) := PA.of (StX.pa_star he hes) fun σ H Q h => by
  obtain ⟨m, S, ρ, d, S', R, E, e, q⟩ := h
  unfold evStar at e
  split at e
  · rename_i x S1 h1
    split at e
    · rename_i xs S2 h2
      refine ⟨m, S, ρ, x, S1, R, E, h1, fun m1 H1 v1 X1 r1 => ?_⟩
      split at e
      · rename_i ys
        cases e
        obtain ⟨a, vs, rfl, ha, qs⟩ := r1
        exact ⟨a, vs, rfl, .inl (.of ha), m1, S1, ρ, xs, S', X1.rel, E.ext X1, h2, fun m2 H2 v2 X2 r2 => q m2 H2 _ (X1.trans X2) ((qs.ext X2).append r2)⟩
      · rename_i n
        split at e
        · rename_i ys hl
          cases e
          obtain ⟨vs, hsq, qs, _⟩ := X1.rel.sqL (K := X.K) hl
          exact ⟨_, vs, r1.2, .inr hsq, m1, S1, ρ, xs, S', X1.rel, E.ext X1, h2, fun m2 H2 v2 X2 r2 => q m2 H2 _ (X1.trans X2) ((qs.ext X2).append r2)⟩
        · cases e
      · cases e
    · cases e
  · cases e
theorem rdN_seq {gg : List D → Sto → Res D} {σ : L2.St} {H : Hp} {Q : VK} (h : rdE (evN gg g) σ H Q) : rdA g σ H fun xs H1 => rdN gg xs H1 Q := by
  obtain ⟨m, S, ρ, d, S', R, E, e, q⟩ := h
  unfold evN at e
  split at e
  · rename_i xs S1 h1
    exact ⟨m, S, ρ, xs, S1, R, E, h1, fun m1 H1 v1 X1 r1 => ⟨m1, S1, xs, d, S', X1.rel, r1, e, fun m3 H3 v3 X3 r3 => q m3 H3 v3 (X1.trans X3) r3⟩⟩
  · cases e

/-! ### displays -/
def tupN (xs : List D) (S : Sto) : Res D := match fits xs.length with
  | true => .ok (.tup xs) S
  | false => .bad
def lstN (xs : List D) (S : Sto) : Res D := match fits xs.length with
  | true => newL S xs
  | false => .bad
theorem pev_tup {k : Nat} (h : PA X es (rdA g)) : PE X (.Tuple es k pos) (rdE (evN tupN g)) := PE.of (pe_tup h) fun σ H Q h => by
  obtain ⟨m, S, ρ, d, S', R, E, e, q⟩ := rdN_seq h
  refine ⟨m, S, ρ, d, S', R, E, e, fun m1 H1 v1 X1 r1 => ?_⟩
  obtain ⟨m2, S2, ds, d2, S3, R2, r2, e2, q2⟩ := q m1 H1 v1 X1 r1
  unfold tupN at e2
  split at e2
  · rename_i hf
    cases e2
    exact ⟨by rw [← r2.length]; exact fits_le hf, goTup R2 r2 q2⟩
  · cases e2
theorem pev_lst (h : PA X es (rdA g)) : PE X (.List es pos) (rdE (evN lstN g)) := PE.of (pe_lst h) fun σ H Q h => by
  obtain ⟨m, S, ρ, d, S', R, E, e, q⟩ := rdN_seq h
  refine ⟨m, S, ρ, d, S', R, E, e, fun m1 H1 v1 X1 r1 => ?_⟩
  obtain ⟨m2, S2, ds, d2, S3, R2, r2, e2, q2⟩ := q m1 H1 v1 X1 r1
  unfold lstN at e2
  split at e2
  · rename_i hf
    cases e2
    exact ⟨by rw [← r2.length]; exact fits_le hf, goLst R2 r2 q2⟩
  · cases e2
def dNewK : Ev := fun _ S => .ok (.ref S.len) (S.add (.dct []))
def dNewT : Ev := fun _ S => .ok (.ref S.len) (S.add (.dctT []))
theorem goNew {m : Nat → Addr} {S : Sto} {H : Hp} {o : O} {ho : HO} {Q : VK} (r : Rel m S H) (ok : ∀ p, H p = none → OOk m S.len (upd H p ho) p o) (q : ∀ m' H' v, Ext m m' S (S.add o) H H' → RD m' (S.add o).len H' (.ref S.len) v → Q v H') : ∀ p, H p = none → Q (.ref p) (upd H p ho) :=
  fun p hp => q (withAt m S.len p) _ _ (Ext.add r hp (ok p hp)) ⟨by rw [Sto.add_len]; exact Nat.lt_succ_self _, by rw [withAt_same]⟩
theorem pev_dnewK : PE X (.Dict [] [] pos) (rdE dNewK) := PE.of pe_dnewK fun σ H Q h => by
  obtain ⟨m, S, ρ, d, S', R, E, e, q⟩ := h
  cases e
  exact goNew (o := .dct []) R (fun p hp => ⟨[], upd_same, rfl⟩) q
theorem pev_dnewT : PE X (.Dict [] [] pos) (rdE dNewT) := PE.of pe_dnewT fun σ H Q h => by
  obtain ⟨m, S, ρ, d, S', R, E, e, q⟩ := h
  cases e
  exact goNew (o := .dctT []) R (fun p hp => ⟨[], upd_same, rfl⟩) q

/-! ### and, or, not, if -/
/-- a test, then what follows -/
def evB (f : Ev) (k : Bool → Ev) : Ev := fun ρ S => match f ρ S with
  | .ok (.bl b) S1 => k b ρ S1
  | _ => .bad
def kAnd (fb : Ev) : Bool → Ev
  | true => fb
  | false => evC (.bl false)
def kOr (fb : Ev) : Bool → Ev
  | true => evC (.bl true)
  | false => fb
def kIf (fa fb : Ev) : Bool → Ev
  | true => fa
  | false => fb
def evAnd (fa fb : Ev) : Ev := evB fa (kAnd fb)
def evOr (fa fb : Ev) : Ev := evB fa (kOr fb)
def evIf (fc fa fb : Ev) : Ev := evB fc (kIf fa fb)
def notD : D → Sto → Res D
  | .bl b, S => .ok (.bl (!b)) S
  | _, _ => .bad
theorem bool_seq {f : Ev} {ρ : En} {S S' : Sto} {d : D} {k : Bool → Ev} (h : evB f k ρ S = Res.ok d S') : ∃ b S1, f ρ S = .ok (.bl b) S1 ∧ k b ρ S1 = .ok d S' := by
  unfold evB at h
  split at h
  · rename_i b S1 h1; exact ⟨b, S1, h1, h⟩
  · cases h
theorem rdE_bool {f : Ev} {k : Bool → Ev} {σ : L2.St} {H : Hp} {Q : VK} (h : rdE (evB f k) σ H Q) : rdT f σ H fun b H1 => rdE (k b) σ H1 Q := by
  obtain ⟨m, S, ρ, d, S', R, E, e, q⟩ := h
  obtain ⟨b, S1, h1, h2⟩ := bool_seq e
  exact ⟨m, S, ρ, b, S1, R, E, h1, fun m1 H1 X1 => ⟨m1, S1, ρ, d, S', X1.rel, E.ext X1, h2, fun m2 H2 v2 X2 r2 => q m2 H2 v2 (X1.trans X2) r2⟩⟩
theorem rdT_bool {f : Ev} {k : Bool → Ev} {σ : L2.St} {H : Hp} {Q : Bool → Hp → Prop} (h : rdT (evB f k) σ H Q) : rdT f σ H fun b H1 => rdT (k b) σ H1 Q := by
  obtain ⟨m, S, ρ, d, S', R, E, e, q⟩ := h
  obtain ⟨b, S1, h1, h2⟩ := bool_seq e
  exact ⟨m, S, ρ, b, S1, R, E, h1, fun m1 H1 X1 => ⟨m1, S1, ρ, d, S', X1.rel, E.ext X1, h2, fun m2 H2 X2 => q m2 H2 (X1.trans X2)⟩⟩
theorem rdT_C {b : Bool} {σ : L2.St} {H : Hp} {Q : Bool → Hp → Prop} (h : rdT (evC (.bl b)) σ H Q) : Q b H := by
  obtain ⟨m, S, ρ, d, S', R, E, e, q⟩ := h
  cases e
  exact q m H (Ext.refl R)
variable {rest : List Expr}
theorem pev_one {op : BoolOp} (h : PE X a (rdE fa)) : PE X (.BoolOp op [a] pos) (rdE fa) := pe_one h
theorem pev_and (ha : PE X a (rdE fa)) (hb : PE X (.BoolOp .And (b :: rest) pos) (rdE fb)) : PE X (.BoolOp .And (a :: b :: rest) pos) (rdE (evAnd fa fb)) := PE.of (pe_and ha hb) fun σ H Q h => by
  obtain ⟨m, S, ρ, d, S', R, E, e, q⟩ := rdE_bool h
  refine ⟨m, S, ρ, _, S', R, E, e, fun m1 H1 v1 X1 r1 => ⟨d, r1, ?_⟩⟩
  have := q m1 H1 X1
  cases d with
  | true => exact this
  | false => exact rdC this fun _ _ _ => rfl
theorem pev_or (ha : PE X a (rdE fa)) (hb : PE X (.BoolOp .Or (b :: rest) pos) (rdE fb)) : PE X (.BoolOp .Or (a :: b :: rest) pos) (rdE (evOr fa fb)) := PE.of (pe_or ha hb) fun σ H Q h => by
  obtain ⟨m, S, ρ, d, S', R, E, e, q⟩ := rdE_bool h
  refine ⟨m, S, ρ, _, S', R, E, e, fun m1 H1 v1 X1 r1 => ⟨d, r1, ?_⟩⟩
  have := q m1 H1 X1
  cases d with
  | true => exact rdC this fun _ _ _ => rfl
  | false => exact this
theorem pwv_and1 (h : PT X a (rdT fa)) : PW X (.BoolOp .And [a] pos) (rdT fa) := pw_and1 h
theorem pwv_or1 (h : PT X a (rdT fa)) : PW X (.BoolOp .Or [a] pos) (rdT fa) := pw_or1 h
theorem pwv_and (ha : PT X a (rdT fa)) (hb : PW X (.BoolOp .And (b :: rest) pos) (rdT fb)) : PW X (.BoolOp .And (a :: b :: rest) pos) (rdT (evAnd fa fb)) := PW.of (pw_and ha hb) fun σ H Q h => by
  obtain ⟨m, S, ρ, d, S', R, E, e, q⟩ := rdT_bool h
  refine ⟨m, S, ρ, d, S', R, E, e, fun m1 H1 X1 => ?_⟩
  have := q m1 H1 X1
  cases d with
  | true => exact this
  | false => exact rdT_C this
theorem pwv_or (ha : PT X a (rdT fa)) (hb : PW X (.BoolOp .Or (b :: rest) pos) (rdT fb)) : PW X (.BoolOp .Or (a :: b :: rest) pos) (rdT (evOr fa fb)) := PW.of (pw_or ha hb) fun σ H Q h => by
  obtain ⟨m, S, ρ, d, S', R, E, e, q⟩ := rdT_bool h
  refine ⟨m, S, ρ, d, S', R, E, e, fun m1 H1 X1 => ?_⟩
  have := q m1 H1 X1
  cases d with
  | true => exact rdT_C this
  | false => exact this
theorem pev_not (ha : PE X a (rdE fa)) : PE X (.UnaryOp .Not a pos) (rdE (ev1 notD fa)) := PE.of (pe_not ha) fun σ H Q h => by
  obtain ⟨m, S, ρ, d, S', R, E, e, q⟩ := rd1_seq h
  refine ⟨m, S, ρ, d, S', R, E, e, fun m1 H1 v1 X1 r1 => ?_⟩
  obtain ⟨m2, S2, d1, d2, S3, R2, r2, e2, q2⟩ := q m1 H1 v1 X1 r1
  unfold notD at e2
  split at e2
  · rename_i bb
    cases e2
    exact ⟨bb, r2, rdPure R2 q2 rfl⟩
  · cases e2
theorem ptv_not (ha : PT X a (rdT fa)) : PT X (.UnaryOp .Not a pos) (rdT (ev1 notD fa)) := PT.of (pt_not ha) fun σ H Q h => by
  obtain ⟨m, S, ρ, b, S', R, E, e, q⟩ := h
  obtain ⟨x, S1, h1, h2⟩ := ev1_ok e
  unfold notD at h2
  split at h2
  · rename_i bb
    cases h2
    exact ⟨m, S, ρ, bb, _, R, E, h1, fun m1 H1 X1 => q m1 H1 X1⟩
  · cases h2
theorem pev_if (hc : PT X c (rdT fc)) (ha : PE X a (rdE fa)) (hb : PE X b (rdE fb)) : PE X (.IfExp c a b pos) (rdE (evIf fc fa fb)) := PE.of (pe_ifExp hc ha hb) fun σ H Q h => by
  obtain ⟨m, S, ρ, d, S', R, E, e, q⟩ := rdE_bool h
  refine ⟨m, S, ρ, d, S', R, E, e, fun m1 H1 X1 => ?_⟩
  have := q m1 H1 X1
  cases d with
  | true => exact this
  | false => exact this

/-! ### chains -/
def evChain (g h : D → D → Sto → Res D) (fa fb fc : Ev) : Ev := fun ρ S => match fa ρ S with
  | .ok x S1 => match fb ρ S1 with
    | .ok y S2 => match g x y S2 with
      | .ok (.bl true) S3 => match fc ρ S3 with
        | .ok z S4 => h y z S4
        | .bad => .bad
      | .ok (.bl false) S3 => .ok (.bl false) S3
      | _ => .bad
    | .bad => .bad
  | .bad => .bad
theorem rd_chain {gg hh : D → D → Sto → Res D} {σ : L2.St} {H : Hp} {Q : VK} (h : rdE (evChain gg hh fa fb fc) σ H Q) : tChain (rd2 gg) (rd2 hh) (rdE fa) (rdE fb) (rdE fc) σ H Q := by
  obtain ⟨m, S, ρ, d, S', R, E, e, q⟩ := h
  unfold evChain at e
  split at e
  · rename_i x S1 h1
    split at e
    · rename_i y S2 h2
      refine ⟨m, S, ρ, x, S1, R, E, h1, fun m1 H1 v1 X1 r1 => ⟨m1, S1, ρ, y, S2, X1.rel, E.ext X1, h2, fun m2 H2 v2 X2 r2 => ?_⟩⟩
      split at e
      · rename_i S3 h3
        refine ⟨m2, S2, x, y, _, S3, X2.rel, r1.ext X2, r2, h3, fun m3 H3 v3 X3 r3 => ⟨true, r3, ?_⟩⟩
        rw [if_pos rfl]
        split at e
        · rename_i z S4 h4
          exact ⟨m3, S3, ρ, z, S4, X3.rel, (E.ext (X1.trans (X2.trans X3))), h4, fun m4 H4 v4 X4 r4 => ⟨m4, S4, y, z, d, S', X4.rel, r2.ext (X3.trans X4), r4, e, fun m5 H5 v5 X5 r5 => q m5 H5 v5 (X1.trans (X2.trans (X3.trans (X4.trans X5)))) r5⟩⟩
        · cases e
      · rename_i S3 h3
        cases e
        refine ⟨m2, S2, x, y, _, S', X2.rel, r1.ext X2, r2, h3, fun m3 H3 v3 X3 r3 => ⟨false, r3, ?_⟩⟩
        rw [if_neg Bool.false_ne_true]
        exact q m3 H3 _ (X1.trans (X2.trans X3)) rfl
      · cases e
    · cases e
  · cases e
theorem pev_chain {op op' : CmpOp} {gg hh : D → D → Sto → Res D} (ho : OpR X (compareOp op) (rd2 gg)) (ho' : OpR X (compareOp op') (rd2 hh)) (ha : PE X a (rdE fa)) (hb : PE X b (rdE fb)) (hc : PE X c (rdE fc)) (hm : lastMarks [op, op'] [b, c] = false) :
    PE X (.Compare a [op, op'] [b, c] pos) (rdE (evChain gg hh fa fb fc)) := PE.of (pe_chain ho ho' ha hb hc hm) fun _ _ _ h => rd_chain h
theorem ptv_chain {op op' : CmpOp} {gg hh : D → D → Sto → Res D} (ho : OpR X (compareOp op) (rd2 gg)) (ho' : OpR X (compareOp op') (rd2 hh)) (ha : PE X a (rdE fa)) (hb : PE X b (rdE fb)) (hc : PE X c (rdE fc)) (hm : lastMarks [op, op'] [b, c] = false) :
    PT X (.Compare a [op, op'] [b, c] pos) (rdT (evChain gg hh fa fb fc)) := PT.of (pt_chain ho ho' ha hb hc hm) fun _ _ _ h => rd_chain (rdT_of h)

/-! ### -x -/
def negD : D → Sto → Res D
  | .int i, S => .ok (.int (-i)) S
  | _, _ => .bad
theorem pev_neg (ha : PE X a (rdE fa)) : PE X (.UnaryOp .USub a pos) (rdE (ev1 negD fa)) := PE.of (pe_un un_neg ha) fun σ H Q h => by
  obtain ⟨m, S, ρ, d, S', R, E, e, q⟩ := rd1_seq h
  refine ⟨m, S, ρ, d, S', R, E, e, fun m1 H1 v1 X1 r1 => ?_⟩
  obtain ⟨m2, S2, d1, d2, S3, R2, r2, e2, q2⟩ := q m1 H1 v1 X1 r1
  unfold negD at e2
  split at e2
  · cases e2; exact ⟨_, r2, rdPure R2 q2 rfl⟩
  · cases e2

/-! ### slices -/
def cutL {α : Type} (xs : List α) (lo hi : Option Int) : List α := (xs.drop (HT.sIx xs.length 0 lo)).take (HT.sIx xs.length xs.length hi - HT.sIx xs.length 0 lo)
def slD (x : D) (lo hi : Option Int) (S : Sto) : Res D := match x with
  | .tup xs => .ok (.tup (cutL xs lo hi)) S
  | .str z => match fits z.length with
    | true => .ok (.str (cutS z lo hi)) S
    | false => .bad
  | .ref n => match S.list? n with
    | some xs => newL S (cutL xs lo hi)
    | none => .bad
  | _ => .bad
/-- a part of a slice -/
def evPart : Option Ev → En → Sto → Res (Option Int)
  | none, _, S => .ok none S
  | some f, ρ, S => match f ρ S with
    | .ok (.int i) S1 => .ok (some i) S1
    | _ => .bad
def evSl (f : Ev) (lo hi : Option Ev) : Ev := fun ρ S => match f ρ S with
  | .ok x S1 => match evPart lo ρ S1 with
    | .ok l S2 => match evPart hi ρ S2 with
      | .ok h S3 => slD x l h S3
      | .bad => .bad
    | .bad => .bad
  | .bad => .bad
theorem RDs.cut {m : Nat → Addr} {k : Nat} {H : Hp} {ds : List D} {vs : List V} (h : RDs m k H ds vs) (lo hi : Option Int) : RDs m k H (cutL ds lo hi) (cutV vs lo hi) := by
  unfold cutL cutV
  rw [h.length]
  exact (h.drop _).take _
theorem cut_whole {α : Type} {xs : List α} {lo hi : Option Int} (h : HT.sIx xs.length 0 lo = 0 ∧ HT.sIx xs.length xs.length hi = xs.length) : cutL xs lo hi = xs := by
  unfold cutL
  rw [h.1, h.2]
  simp
def rdSl : V → Option Int → Option Int → Hp → VK → Prop := fun x lo hi H Q => ∃ m S d1 d S', Rel m S H ∧ RD m S.len H d1 x ∧ slD d1 lo hi S = .ok d S' ∧ ∀ m' H' v, Ext m m' S S' H H' → RD m' S'.len H' d v → Q v H'
theorem slv : SlR X rdSl := by
  intro pins s σ H x v vl vu lo hi sl Q I rx hs pl pu h
  refine (SlR.or sl_list (SlR.or sl_tupA sl_str)) pins s σ H x v vl vu lo hi sl Q I rx hs pl pu ?_
  obtain ⟨m, S, d1, d, S', R, r1, e, q⟩ := h
  unfold slD at e
  split at e
  · rename_i xs
    cases e
    obtain ⟨a, vs, rfl, ha, qs⟩ := r1
    refine .inr (.inl ⟨a, vs, rfl, .of ha, fun hw => ?_, fun hw => goTup R (qs.cut lo hi) q⟩)
    rw [← qs.length] at hw
    rw [cut_whole hw] at q
    exact rdPure R q ⟨a, vs, rfl, ha, qs⟩
  · rename_i z
    split at e
    · rename_i hf
      cases e
      exact .inr (.inr ⟨z, r1, fits_le hf, rdPure R q rfl⟩)
    · cases e
  · rename_i n
    split at e
    · rename_i xs hl
      cases e
      obtain ⟨vs, hsq, qs, _⟩ := R.sqL (K := X.K) hl
      exact .inl ⟨_, vs, r1.2, hsq, goLst R (qs.cut lo hi) q⟩
    · cases e
  · cases e
def rdO (f : Option Ev) : TO := fun σ H Q => ∃ m S ρ d S', Rel m S H ∧ REnv m S.len H ρ σ ∧ evPart f ρ S = .ok d S' ∧ ∀ m' H', Ext m m' S S' H H' → Q d H'
theorem PO.of {lo : Option Expr} {t t' : TO} (h : PO X lo t) (i : ∀ σ H Q, t' σ H Q → t σ H Q) : PO X lo t' := ⟨fun pins s σ H Q I q => h.run pins s σ H Q I (i σ H Q q)⟩
theorem pov_none : PO X none (rdO none) := PO.of po_none fun σ H Q h => by
  obtain ⟨m, S, ρ, d, S', R, E, e, q⟩ := h
  cases e
  exact q m H (Ext.refl R)
theorem pov_some (h : PE X e (rdE f)) : PO X (some e) (rdO (some f)) := PO.of (po_some h) fun σ H Q h => by
  obtain ⟨m, S, ρ, d, S', R, E, e, q⟩ := h
  simp only [evPart] at e
  split at e
  · rename_i i S1 h1
    cases e
    exact ⟨m, S, ρ, _, _, R, E, h1, fun m1 H1 v1 X1 r1 => ⟨i, r1, q m1 H1 X1⟩⟩
  · cases e
theorem pev_slice {lo hi : Option Expr} {fl fh : Option Ev} {p2 : Pos} (he : PE X e (rdE f)) (hl : PO X lo (rdO fl)) (hh : PO X hi (rdO fh)) : PE X (.Subscript e (.Slice lo hi none p2) pos) (rdE (evSl f fl fh)) := PE.of (pe_slice slv he hl hh) fun σ H Q h => by
  obtain ⟨m, S, ρ, d, S', R, E, e, q⟩ := h
  unfold evSl at e
  split at e
  · rename_i x S1 h1
    split at e
    · rename_i l S2 h2
      split at e
      · rename_i hh S3 h3
        exact ⟨m, S, ρ, x, S1, R, E, h1, fun m1 H1 v1 X1 r1 => ⟨m1, S1, ρ, l, S2, X1.rel, E.ext X1, h2, fun m2 H2 X2 => ⟨m2, S2, ρ, hh, S3, X2.rel, E.ext (X1.trans X2), h3, fun m3 H3 X3 => ⟨m3, S3, x, d, S', X3.rel, r1.ext (X2.trans X3), e, fun m4 H4 v4 X4 r4 => q m4 H4 v4 (X1.trans (X2.trans (X3.trans X4))) r4⟩⟩⟩⟩
      · cases e
    · cases e
  · cases e
end
end Sw

/-! Eng5: built-ins and methods. -/
namespace Sw
open PySem PySem.Spec PyProof.Rows L2

theorem CallR.or2 {X : Cx} {f : Value} {r r' : List V → Hp → VK → Prop} (h : CallR X f r) (h' : CallR X f r') : CallR X f (fun xs H Q => r xs H Q ∨ r' xs H Q) := by
  intro pins s σ H xs us Q I rx q
  rcases q with q | q
  · exact h pins s σ H xs us Q I rx q
  · exact h' pins s σ H xs us Q I rx q
theorem RDs.one1 {m : Nat → Addr} {k : Nat} {H : Hp} {d : D} {vs : List V} (h : RDs m k H [d] vs) : ∃ v, vs = [v] ∧ RD m k H d v := by
  obtain ⟨v, r, h1, h2, h3⟩ := h
  rw [show r = [] from h3] at h1
  exact ⟨v, h1, h2⟩
theorem RDs.two {m : Nat → Addr} {k : Nat} {H : Hp} {d e : D} {vs : List V} (h : RDs m k H [d, e] vs) : ∃ v w, vs = [v, w] ∧ RD m k H d v ∧ RD m k H e w := by
  obtain ⟨v, r, h1, h2, h3⟩ := h
  obtain ⟨w, rfl, h5⟩ := h3.one1
  exact ⟨v, w, h1, h2, h5⟩

/-! ### len -/
def lenN : List D → Sto → Res D
  | [.tup xs], S => .ok (.int xs.length) S
  | [.str z], S => match fits z.length with
    | true => .ok (.int z.length) S
    | false => .bad
  | [.ref n], S => match S.objs[n]? with
    | some (.lst xs) => .ok (.int xs.length) S
    | some (.frz xs) => .ok (.int xs.length) S
    | some (.dct kvs) => .ok (.int kvs.length) S
    | some (.dctT kvs) => .ok (.int kvs.length) S
    | _ => .bad
  | _, _ => .bad
section
variable {X : Cx}
theorem crv_len : CallR X (.builtin "len") (rdN lenN) := CallR.of (CallR.or2 call_len_seq (CallR.or2 call_len_str (CallR.or2 call_lenD call_len_dT))) fun xs H Q h => by
  obtain ⟨m, S, ds, d, S', R, r, e, q⟩ := h
  unfold lenN at e
  split at e
  · cases e
    obtain ⟨v, rfl, a, vs, rfl, ha, qs⟩ := r.one1
    exact .inl ⟨a, vs, rfl, .inr (.of ha), by rw [← qs.length]; exact rdPure R q rfl⟩
  · split at e
    · rename_i hf
      cases e
      obtain ⟨v, rfl, hv⟩ := r.one1
      exact .inr (.inl ⟨_, by rw [show v = _ from hv], fits_le hf, rdPure R q rfl⟩)
    · cases e
  · rename_i n S
    obtain ⟨v, rfl, hn, rfl⟩ := r.one1
    split at e
    · rename_i ys ho
      cases e
      obtain ⟨vs, h1, h2⟩ := R.obj _ _ ho
      exact .inl ⟨_, vs, rfl, .inl (.of h1), by rw [← h2.length]; exact rdPure R q rfl⟩
    · rename_i ys ho
      cases e
      obtain ⟨vs, o, h1, h2⟩ := R.obj _ _ ho
      exact .inl ⟨_, vs, rfl, .inl (.inl (.inr ⟨o, h1⟩)), by rw [← h2.length]; exact rdPure R q rfl⟩
    · rename_i ys ho
      cases e
      obtain ⟨vs, h1, h2⟩ := R.obj _ _ ho
      exact .inr (.inr (.inl ⟨_, vs, rfl, h1, by rw [← h2.length]; exact rdPure R q rfl⟩))
    · rename_i ys ho
      cases e
      obtain ⟨vs, h1, h2⟩ := R.obj _ _ ho
      exact .inr (.inr (.inr ⟨_, vs, rfl, h1, by rw [← h2.length]; exact rdPure R q rfl⟩))
    · cases e
  · cases e

/-! ### int, min, max -/
def intN : List D → Sto → Res D
  | [.int i], S => .ok (.int i) S
  | [.bl b], S => .ok (.int (if b then 1 else 0)) S
  | _, _ => .bad
theorem crv_int : CallR X (.type "int") (rdN intN) := CallR.of call_int1 fun xs H Q h => by
  obtain ⟨m, S, ds, d, S', R, r, e, q⟩ := h
  unfold intN at e
  split at e
  · cases e
    obtain ⟨v, rfl, hv⟩ := r.one1
    exact .inl ⟨_, by rw [show v = _ from hv], rdPure R q rfl⟩
  · cases e
    obtain ⟨v, rfl, hv⟩ := r.one1
    exact .inr ⟨_, by rw [show v = _ from hv], rdPure R q rfl⟩
  · cases e
def minN : List D → Sto → Res D
  | [.int i, .int j], S => .ok (.int (if j < i then j else i)) S
  | _, _ => .bad
def maxN : List D → Sto → Res D
  | [.int i, .int j], S => .ok (.int (if j > i then j else i)) S
  | _, _ => .bad
theorem crv_min (hc : X.calm = true) : CallR X (.builtin "min") (rdN minN) := CallR.of (call_min2 hc) fun xs H Q h => by
  obtain ⟨m, S, ds, d, S', R, r, e, q⟩ := h
  unfold minN at e
  split at e
  · cases e
    obtain ⟨v, w, rfl, hv, hw⟩ := r.two
    exact ⟨_, _, by rw [show v = _ from hv, show w = _ from hw], rdPure R q rfl⟩
  · cases e
theorem crv_max (hc : X.calm = true) : CallR X (.builtin "max") (rdN maxN) := CallR.of (call_max2 hc) fun xs H Q h => by
  obtain ⟨m, S, ds, d, S', R, r, e, q⟩ := h
  unfold maxN at e
  split at e
  · cases e
    obtain ⟨v, w, rfl, hv, hw⟩ := r.two
    exact ⟨_, _, by rw [show v = _ from hv, show w = _ from hw], rdPure R q rfl⟩
  · cases e

/-! ### all, any, sum -/
def blsOf : List D → Option (List Bool)
  | [] => some []
  | .bl b :: r => match blsOf r with
    | some bs => some (b :: bs)
    | none => none
  | _ :: _ => none
def intsOf : List D → Option (List Int)
  | [] => some []
  | .int b :: r => match intsOf r with
    | some bs => some (b :: bs)
    | none => none
  | _ :: _ => none
theorem blsOf_ok {m : Nat → Addr} {k : Nat} {H : Hp} : ∀ {ds : List D} {vs : List V} {bs : List Bool}, RDs m k H ds vs → blsOf ds = some bs → vs = bs.map V.bl
  | [], vs, bs, h, e => by simp only [blsOf] at e; cases e; exact h
  | d :: ds, vs, bs, h, e => by
    obtain ⟨v, r, rfl, h2, h3⟩ := h
    cases d <;> simp only [blsOf] at e <;> try cases e
    rename_i b
    cases e1 : blsOf ds with
    | none => rw [e1] at e; cases e
    | some cs =>
      rw [e1] at e
      cases e
      rw [show v = _ from h2, blsOf_ok h3 e1]
      rfl
theorem intsOf_ok {m : Nat → Addr} {k : Nat} {H : Hp} : ∀ {ds : List D} {vs : List V} {bs : List Int}, RDs m k H ds vs → intsOf ds = some bs → vs = bs.map V.int
  | [], vs, bs, h, e => by simp only [intsOf] at e; cases e; exact h
  | d :: ds, vs, bs, h, e => by
    obtain ⟨v, r, rfl, h2, h3⟩ := h
    cases d <;> simp only [intsOf] at e <;> try cases e
    rename_i b
    cases e1 : intsOf ds with
    | none => rw [e1] at e; cases e
    | some cs =>
      rw [e1] at e
      cases e
      rw [show v = _ from h2, intsOf_ok h3 e1]
      rfl
/-- a fold over a list's truths -/
def blN (p : List Bool → Bool) : List D → Sto → Res D
  | [.ref n], S => match S.list? n with
    | some xs => match blsOf xs with
      | some bs => .ok (.bl (p bs)) S
      | none => .bad
    | none => .bad
  | _, _ => .bad
def sumN : List D → Sto → Res D
  | [.ref n], S => match S.list? n with
    | some xs => match intsOf xs with
      | some ns => .ok (.int ns.sum) S
      | none => .bad
    | none => .bad
  | _, _ => .bad
theorem crv_bl {id : String} {p : List Bool → Bool} (hr : CallR X (.builtin id) (fun vs H Q => ∃ (a : Addr) (bs : List Bool), vs = [V.ref a] ∧ SqL X.K H a (bs.map V.bl) ∧ Q (.bl (p bs)) H)) : CallR X (.builtin id) (rdN (blN p)) := CallR.of hr fun xs H Q h => by
  obtain ⟨m, S, ds, d, S', R, r, e, q⟩ := h
  unfold blN at e
  split at e
  · obtain ⟨v, rfl, hn, rfl⟩ := r.one1
    split at e
    · rename_i ys hl
      split at e
      · rename_i bs hb
        cases e
        obtain ⟨vs, h1, h2, _⟩ := R.sqL (K := X.K) hl
        rw [blsOf_ok h2 hb] at h1
        exact ⟨_, bs, rfl, h1, rdPure R q rfl⟩
      · cases e
    · cases e
  · cases e
theorem crv_all (hc : X.calm = true) : CallR X (.builtin "all") (rdN (blN fun bs => bs.all id)) := crv_bl (cr_all hc)
theorem crv_any (hc : X.calm = true) : CallR X (.builtin "any") (rdN (blN fun bs => bs.any id)) := crv_bl (cr_any hc)
theorem crv_sum (hc : X.calm = true) : CallR X (.builtin "sum") (rdN sumN) := CallR.of (cr_sum hc) fun xs H Q h => by
  obtain ⟨m, S, ds, d, S', R, r, e, q⟩ := h
  unfold sumN at e
  split at e
  · obtain ⟨v, rfl, hn, rfl⟩ := r.one1
    split at e
    · rename_i ys hl
      split at e
      · rename_i bs hb
        cases e
        obtain ⟨vs, h1, h2, _⟩ := R.sqL (K := X.K) hl
        rw [intsOf_ok h2 hb] at h1
        exact ⟨_, bs, rfl, h1, rdPure R q rfl⟩
      · cases e
    · cases e
  · cases e

/-! ### tuple, list -/
def tupleN : List D → Sto → Res D
  | [.tup xs], S => .ok (.tup xs) S
  | [.ref n], S => match S.list? n with
    | some xs => .ok (.tup xs) S
    | none => .bad
  | _, _ => .bad
def listN : List D → Sto → Res D
  | [.tup xs], S => newL S xs
  | [.ref n], S => match S.list? n with
    | some xs => newL S xs
    | none => .bad
  | _, _ => .bad
theorem crv_tuple : CallR X (.type "tuple") (rdN tupleN) := CallR.of call_tuple_of fun xs H Q h => by
  obtain ⟨m, S, ds, d, S', R, r, e, q⟩ := h
  unfold tupleN at e
  split at e
  · cases e
    obtain ⟨v, rfl, a, vs, rfl, ha, qs⟩ := r.one1
    exact ⟨a, vs, rfl, .inr ⟨.of ha, rdPure R q ⟨a, vs, rfl, ha, qs⟩⟩⟩
  · obtain ⟨v, rfl, hn, rfl⟩ := r.one1
    split at e
    · rename_i ys hl
      cases e
      obtain ⟨vs, h1, h2, _⟩ := R.sqL (K := X.K) hl
      exact ⟨_, vs, rfl, .inl ⟨h1, goTup R h2 q⟩⟩
    · cases e
  · cases e
theorem crv_list : CallR X (.type "list") (rdN listN) := CallR.of call_list_of fun xs H Q h => by
  obtain ⟨m, S, ds, d, S', R, r, e, q⟩ := h
  unfold listN at e
  split at e
  · cases e
    obtain ⟨v, rfl, a, vs, rfl, ha, qs⟩ := r.one1
    exact ⟨a, vs, rfl, .inr (.of ha), goLst R qs q⟩
  · obtain ⟨v, rfl, hn, rfl⟩ := r.one1
    split at e
    · rename_i ys hl
      cases e
      obtain ⟨vs, h1, h2, _⟩ := R.sqL (K := X.K) hl
      exact ⟨_, vs, rfl, .inl h1, goLst R h2 q⟩
    · cases e
  · cases e

/-! ### isinstance -/
inductive Tn where
  | non | bool | int | str | tuple | list | dict
def Tn.name : Tn → String
  | .non => "NoneType"
  | .bool => "bool"
  | .int => "int"
  | .str => "str"
  | .tuple => "tuple"
  | .list => "list"
  | .dict => "dict"
/-- the type of a thing -/
def tyOf (S : Sto) : D → Option Tn
  | .non => some .non
  | .bl _ => some .bool
  | .int _ => some .int
  | .str _ => some .str
  | .tup _ => some .tuple
  | .ref n => match S.objs[n]? with
    | some (.lst _) => some .list
    | some (.frz _) => some .list
    | some (.dct _) => some .dict
    | some (.dctT _) => some .dict
    | _ => none
def isSub : Tn → Tn → Bool
  | .non, .non => true
  | .bool, .bool => true
  | .bool, .int => true
  | .int, .int => true
  | .str, .str => true
  | .tuple, .tuple => true
  | .list, .list => true
  | .dict, .dict => true
  | _, _ => false
theorem kit_sub (t T : Tn) : kitB t.name T.name = some (isSub t T) := by
  cases t <;> cases T <;> decide +kernel
def isiD (Ts : List Tn) (x : D) (S : Sto) : Res D := match tyOf S x with
  | some t => .ok (.bl (Ts.any fun T => isSub t T)) S
  | none => .bad
theorem tyOf_ok {K : Frg} {m : Nat → Addr} {S : Sto} {H : Hp} (R : Rel m S H) {d : D} {v : V} {t : Tn} (h : RD m S.len H d v) (e : tyOf S d = some t) : TyX K H v (.type t.name) := by
  cases d with
  | non => cases e; rw [show v = _ from h]; exact .base .non
  | bl b => cases e; rw [show v = _ from h]; exact .base (.bl b)
  | int b => cases e; rw [show v = _ from h]; exact .base (.int b)
  | str b => cases e; rw [show v = _ from h]; exact .base (.str b)
  | tup xs => cases e; obtain ⟨a, vs, rfl, ha, _⟩ := h; exact .base (.tup ha)
  | ref n =>
    simp only [tyOf] at e
    rw [h.2]
    split at e
    · rename_i ho; cases e; obtain ⟨vs, h1, _⟩ := R.obj _ _ ho; exact .base (.lst h1)
    · rename_i ho; cases e; obtain ⟨vs, o, h1, _⟩ := R.obj _ _ ho; exact .base (.frz h1)
    · rename_i ho; cases e; obtain ⟨vs, h1, _⟩ := R.obj _ _ ho; exact .base (.dK h1)
    · rename_i ho; cases e; obtain ⟨vs, h1, _⟩ := R.obj _ _ ho; exact .base (.dT h1)
    · cases e
end
end Sw

/-! Eng6: calls of built-ins, isinstance, methods. -/
namespace Sw
open PySem PySem.Spec PyProof.Rows L2
section
variable {X : Cx} {e o a : Expr} {es : List Expr} {f fo fa : Ev} {g : EvA} {pos p apos cpos : Pos} {x : Str} {gg : List D → Sto → Res D}
theorem pev_callB {id : String} (hc : CallR X (.builtin id) (rdN gg)) (hg : Gl X x) (hm : X.mg x = none) (hv : bootBuiltins x = some (.builtin id)) (ha : PA X (e :: es) (rdA g)) (hn : x ≠ "__name__") (hdb : (x == ("__debug__" : Str)) = false)
    (he : starEach (e :: es) X.env = (false, eval e X.env) :: starEach es X.env) (hpl : (backTo pos (starEach es X.env)).any (·.1) = false) : PE X (.Call (.Name x p) (e :: es) [] pos) (rdE (evN gg g)) :=
  PE.of (pe_callB hc hg hm hv ha hn hdb he hpl) fun _ _ _ h => rdN_seq h
theorem pev_callTy {T : String} (hc : CallR X (.type T) (rdN gg)) (hg : Gl X x) (hm : X.mg x = none) (hv : bootBuiltins x = some (.type T)) (ha : PA X (e :: es) (rdA g)) (hn : x ≠ "__name__") (hdb : (x == ("__debug__" : Str)) = false)
    (he : starEach (e :: es) X.env = (false, eval e X.env) :: starEach es X.env) (hpl : (backTo pos (starEach es X.env)).any (·.1) = false) : PE X (.Call (.Name x p) (e :: es) [] pos) (rdE (evN gg g)) :=
  PE.of (pe_callTy hc hg hm hv ha hn hdb he hpl) fun _ _ _ h => rdN_seq h

/-! ### isinstance(a, T), isinstance(a, (T, U)) -/
theorem pev_isi {T : Tn} {y : Str} {p1 p2 : Pos} (ha : PE X a (rdE fa)) (hg : Gl X "isinstance") (hm : X.mg "isinstance" = none) (hg1 : Gl X y) (hm1 : X.mg y = none) (hv1 : bootBuiltins y = some (.type T.name)) (hn1 : y ≠ "__name__") (hd1 : (y == ("__debug__" : Str)) = false)
    (hs : starEach [a, .Name y p1] X.env = (false, eval a X.env) :: starEach [.Name y p1] X.env) : PE X (.Call (.Name "isinstance" p) [a, .Name y p1] [] pos) (rdE (ev1 (isiD [T]) fa)) :=
  PE.of (pe_callB call_isi hg hm boot_isinstance (pa_cons ha (pa_cons (pe_bltn (v := .ty T.name) hg1 hm1 hv1 rfl hn1 hd1) pa_nil) hs) (by decide) (by decide) hs (by rfl)) fun σ H Q h => by
    obtain ⟨m, S, ρ, d, S', R, E, e, q⟩ := rd1_seq h
    refine ⟨m, S, ρ, d, S', R, E, e, fun m1 H1 v1 X1 r1 => ?_⟩
    obtain ⟨m2, S2, d1, d2, S3, R2, r2, e2, q2⟩ := q m1 H1 v1 X1 r1
    unfold isiD at e2
    split at e2
    · rename_i t ht
      cases e2
      exact ⟨v1, .ty T.name, _, _, isSub t T, rfl, .ty _, tyOf_ok R2 r2 ht, kit_ty (kit_sub t T), by simpa using rdPure R2 q2 rfl⟩
    · cases e2
theorem pev_isi2 {T U : Tn} {y z : Str} {p1 p2 p3 : Pos} {k : Nat} (ha : PE X a (rdE fa)) (hg : Gl X "isinstance") (hm : X.mg "isinstance" = none) (hg1 : Gl X y) (hm1 : X.mg y = none) (hv1 : bootBuiltins y = some (.type T.name)) (hn1 : y ≠ "__name__") (hd1 : (y == ("__debug__" : Str)) = false)
    (hg2 : Gl X z) (hm2 : X.mg z = none) (hv2 : bootBuiltins z = some (.type U.name)) (hn2 : z ≠ "__name__") (hd2 : (z == ("__debug__" : Str)) = false)
    (hs : ∀ es, starEach (a :: es) X.env = (false, eval a X.env) :: starEach es X.env) : PE X (.Call (.Name "isinstance" p) [a, .Tuple [.Name y p1, .Name z p2] k p3] [] pos) (rdE (ev1 (isiD [T, U]) fa)) :=
  PE.of (pe_callB call_isiT hg hm boot_isinstance (pa_cons ha (pa_cons (pe_tup (pa_cons (pe_bltn (v := .ty T.name) hg1 hm1 hv1 rfl hn1 hd1) (pa_cons (pe_bltn (v := .ty U.name) hg2 hm2 hv2 rfl hn2 hd2) pa_nil))) pa_nil) (hs _)) (by decide) (by decide) (hs _) (by rfl)) fun σ H Q h => by
    obtain ⟨m, S, ρ, d, S', R, E, e, q⟩ := rd1_seq h
    refine ⟨m, S, ρ, d, S', R, E, e, fun m1 H1 v1 X1 r1 => ?_⟩
    obtain ⟨m2, S2, d1, d2, S3, R2, r2, e2, q2⟩ := q m1 H1 v1 X1 r1
    unfold isiD at e2
    split at e2
    · rename_i t ht
      cases e2
      refine ⟨by show 2 ≤ sizeLine; decide, fun tp htp => ?_⟩
      have X2 := Ext.tup (o := .tup [.ty T.name, .ty U.name]) R2 htp
      refine ⟨v1, tp, _, _, [.type T.name, .type U.name], isSub t T || isSub t U, rfl, upd_same, .cons (.ty _) (.cons (.ty _) .nil), tyOf_ok X2.rel (r2.ext X2) ht, ?_, q2 m2 _ _ X2 (by simp [RD])⟩
      unfold PySem.W.kitAny
      rw [kit_ty (kit_sub t T)]
      cases isSub t T with
      | true => rfl
      | false =>
        unfold PySem.W.kitAny
        rw [kit_ty (kit_sub t U)]
        cases isSub t U <;> rfl
    · cases e2

/-! ### methods -/
def evM (k : O → Bool) (gg : Nat → List D → Sto → Res D) (fo : Ev) (fa : EvA) : Ev := fun ρ S => match fo ρ S with
  | .ok (.ref n) S1 => match S1.objs[n]? with
    | some ob => match k ob with
      | true => match fa ρ S1 with
        | .ok xs S2 => gg n xs S2
        | .bad => .bad
      | false => .bad
    | none => .bad
  | _ => .bad
def isLst : O → Bool
  | .lst _ => true
  | .frz _ => true
  | _ => false
def isDct : O → Bool
  | .dct _ => true
  | .dctT _ => true
  | _ => false
def rdM (gg : Nat → List D → Sto → Res D) : V → List V → Hp → VK → Prop := fun x xs H Q => ∃ m S n ds d S', Rel m S H ∧ RD m S.len H (.ref n) x ∧ RDs m S.len H ds xs ∧ gg n ds S = .ok d S' ∧ ∀ m' H' v, Ext m m' S S' H H' → RD m' S'.len H' d v → Q v H'
theorem evM_ok {k : O → Bool} {gm : Nat → List D → Sto → Res D} {ρ : En} {S S' : Sto} {d : D} (h : evM k gm fo g ρ S = .ok d S') : ∃ n S1 ob xs S2, fo ρ S = .ok (.ref n) S1 ∧ S1.objs[n]? = some ob ∧ k ob = true ∧ g ρ S1 = .ok xs S2 ∧ gm n xs S2 = .ok d S' := by
  unfold evM at h
  split at h
  · rename_i n S1 h1
    split at h
    · rename_i ob h2
      split at h
      · rename_i h3
        split at h
        · rename_i xs S2 h4
          exact ⟨n, S1, ob, xs, S2, h1, h2, h3, h4, h⟩
        · cases h
      · cases h
    · cases h
  · cases h
theorem rdM_seq {K : Frg} {k : O → Bool} {T : String} {gm : Nat → List D → Sto → Res D} {σ : L2.St} {H : Hp} {Q : VK} (hT : ∀ m S H n ob, Rel m S H → S.objs[n]? = some ob → k ob = true → tyV K T (.ref (m n)) H) (h : rdE (evM k gm fo g) σ H Q) :
    rdE fo σ H fun x H1 => tyV K T x H1 ∧ rdA g σ H1 fun xs H2 => rdM gm x xs H2 Q := by
  obtain ⟨m, S, ρ, d, S', R, E, e, q⟩ := h
  obtain ⟨n, S1, ob, xs, S2, h1, h2, h3, h4, h5⟩ := evM_ok e
  refine ⟨m, S, ρ, _, S1, R, E, h1, fun m1 H1 v1 X1 r1 => ⟨by rw [r1.2]; exact hT m1 S1 H1 n ob X1.rel h2 h3, ?_⟩⟩
  exact ⟨m1, S1, ρ, xs, S2, X1.rel, E.ext X1, h4, fun m2 H2 v2 X2 r2 => ⟨m2, S2, n, xs, d, S', X2.rel, RD.ext r1 X2, r2, h5, fun m3 H3 v3 X3 r3 => q m3 H3 v3 (X1.trans (X2.trans X3)) r3⟩⟩
theorem tyV_lst {K : Frg} (m : Nat → Addr) (S : Sto) (H : Hp) (n : Nat) (ob : O) (R : Rel m S H) (h : S.objs[n]? = some ob) (k : isLst ob = true) : tyV K "list" (.ref (m n)) H := by
  have q := R.obj n ob h
  cases ob with
  | lst xs => obtain ⟨vs, h1, _⟩ := q; exact .inl ⟨rfl, vs, .of h1⟩
  | frz xs => obtain ⟨vs, o, h1, _⟩ := q; exact .inl ⟨rfl, vs, .inl (.inr ⟨o, h1⟩)⟩
  | dct _ => cases k
  | dctT _ => cases k
  | set _ => cases k
theorem MtR.of {id : String} {r r' : V → List V → Hp → VK → Prop} (h : MtR X id r) (i : ∀ x xs H Q, r' x xs H Q → r x xs H Q) : MtR X id r' := fun pins s σ H x xs v us Q I rx rs q => h pins s σ H x xs v us Q I rx rs (i x xs H Q q)

/-! the operations -/
def appM (n : Nat) : List D → Sto → Res D
  | [d], S => match S.objs[n]? with
    | some (.lst xs) => match fits (xs.length + 1) with
      | true => .ok .non (S.put n (.lst (xs ++ [d])) (d.blw 0))
      | false => .bad
    | _ => .bad
  | _, _ => .bad
def popM (n : Nat) : List D → Sto → Res D
  | [], S => match S.objs[n]? with
    | some (.lst xs) => match xs[xs.length - 1]? with
      | some y => .ok y (S.put n (.lst xs.dropLast) true)
      | none => .bad
    | _ => .bad
  | [.int i], S => match S.objs[n]? with
    | some (.lst xs) => match decide (-(2 ^ 63) ≤ i) && decide (i < 2 ^ 63) with
      | true => match seqIndex? i xs.length with
        | some k => match xs[k]? with
          | some y => .ok y (S.put n (.lst (xs.eraseIdx k)) true)
          | none => .bad
        | none => .bad
      | false => .bad
    | _ => .bad
  | _, _ => .bad
theorem blws_append {k : Nat} : ∀ {xs ys : List D}, D.blws k (xs ++ ys) = (D.blws k xs && D.blws k ys)
  | [], ys => by simp [D.blws]
  | x :: xs, ys => by simp only [List.cons_append, D.blws, blws_append (xs := xs), Bool.and_assoc]
theorem blws_erase {k : Nat} : ∀ (xs : List D) (i : Nat), D.blws k xs = true → D.blws k (xs.eraseIdx i) = true
  | [], i, h => h
  | x :: xs, 0, h => by
    simp only [D.blws, Bool.and_eq_true] at h
    exact h.2
  | x :: xs, i + 1, h => by
    simp only [D.blws, Bool.and_eq_true, List.eraseIdx_cons_succ] at h ⊢
    exact ⟨h.1, blws_erase xs i h.2⟩
theorem RDs.erase {m : Nat → Addr} {k : Nat} {H : Hp} : ∀ {ds : List D} {vs : List V} (i : Nat), RDs m k H ds vs → RDs m k H (ds.eraseIdx i) (vs.eraseIdx i)
  | [], vs, i, h => by rw [show vs = [] from h]; rfl
  | d :: ds, vs, 0, h => by
    obtain ⟨v, r, rfl, h2, h3⟩ := h
    exact h3
  | d :: ds, vs, i + 1, h => by
    obtain ⟨v, r, rfl, h2, h3⟩ := h
    exact ⟨v, r.eraseIdx i, rfl, h2, h3.erase i⟩
theorem dropLast_erase {α : Type} : ∀ xs : List α, xs.dropLast = xs.eraseIdx (xs.length - 1)
  | [] => rfl
  | [x] => rfl
  | x :: y :: r => by
    have := dropLast_erase (y :: r)
    simp only [List.dropLast_cons₂, this, List.length_cons]
    rfl
/-- behind a list's change -/
theorem goPut {m : Nat → Addr} {S : Sto} {H : Hp} (R : Rel m S H) {n : Nat} {xs ys : List D} {vs ws : List V} {ok : Bool} (ho : S.objs[n]? = some (.lst xs)) (h1 : H (m n) = some (.lst vs)) (hy : RDs m S.len H ys ws) (hb : ok = true → ∀ b, D.blws b xs = true → D.blws b ys = true) :
    Ext m m S (S.put n (.lst ys) ok) H (upd H (m n) (.lst ws)) := by
  have kp : Keep H (upd H (m n) (.lst ws)) := ⟨fun a zs e => (by
      rw [upd_ne]
      · exact e
      · rintro rfl; rw [h1] at e; cases e), fun a o' u e => (by
      rw [upd_ne]
      · exact e
      · rintro rfl; rw [h1] at e; cases e)⟩
  exact Ext.put R ho h1 True.intro ⟨ws, upd_same, RDs.mono' (Nat.le_refl _) (fun _ _ => rfl) kp _ _ hy⟩ hb
theorem mtv_app : MtR X "list.append" (rdM appM) := MtR.of mt_append fun x xs H Q h => by
  obtain ⟨m, S, n, ds, d, S', R, r, rs, e, q⟩ := h
  unfold appM at e
  split at e
  · rename_i d0
    obtain ⟨v, rfl, hv⟩ := rs.one1
    split at e
    · rename_i ys ho
      split at e
      · rename_i hf
        cases e
        obtain ⟨vs, h1, h2⟩ := R.obj _ _ ho
        have X1 := goPut (ok := d0.blw 0) R ho h1 (h2.append (.one hv)) (fun z b hb => by rw [blws_append, hb]; simp only [D.blws, below_mono (Nat.zero_le b) _ z, Bool.and_self])
        refine ⟨m n, vs, v, r.2, rfl, h1, ?_, q m _ _ X1 rfl⟩
        have := fits_le hf
        rw [h2.length] at this
        omega
      · cases e
    · cases e
  · cases e
theorem mtv_pop : MtR X "list.pop" (rdM popM) := MtR.of (MtR.or mt_pop mt_popAt) fun x xs H Q h => by
  obtain ⟨m, S, n, ds, d, S', R, r, rs, e, q⟩ := h
  unfold popM at e
  split at e
  · split at e
    · rename_i ys ho
      split at e
      · rename_i y hy
        cases e
        obtain ⟨vs, h1, h2⟩ := R.obj _ _ ho
        have X1 := goPut (ok := true) R ho h1 (h2.erase (ys.length - 1)) (fun z b hb => blws_erase _ _ hb)
        rw [← dropLast_erase, h2.length, ← dropLast_erase] at X1
        rw [h2.length] at hy
        obtain ⟨w, hw, rw'⟩ := h2.get hy
        exact .inl ⟨m n, vs, w, r.2, rs, h1, hw, q m _ _ X1 (RD.ext rw' X1)⟩
      · cases e
    · cases e
  · rename_i i
    obtain ⟨v, rfl, hv⟩ := rs.one1
    split at e
    · rename_i ys ho
      split at e
      · rename_i hb
        split at e
        · rename_i k hk
          split at e
          · rename_i y hy
            cases e
            simp only [Bool.and_eq_true, decide_eq_true_eq] at hb
            obtain ⟨vs, h1, h2⟩ := R.obj _ _ ho
            have X1 := goPut (ok := true) R ho h1 (h2.erase k) (fun z b hb => blws_erase _ _ hb)
            obtain ⟨w, hw, rw'⟩ := h2.get hy
            exact .inr ⟨m n, vs, i, k, w, r.2, by rw [show v = _ from hv], h1, hb.1, hb.2, by rw [← h2.length]; exact hk, hw, q m _ _ X1 (RD.ext rw' X1)⟩
          · cases e
        · cases e
      · cases e
    · cases e
  · cases e
end
end Sw

/-! Eng7: statements. -/
namespace Sw
open PySem PySem.Spec PyProof.Rows L2

inductive SR where
  | nx (ρ : En) (S : Sto)
  | rt (d : D) (S : Sto)
  | bk (ρ : En) (S : Sto)
  | ct (ρ : En) (S : Sto)
  | bad
abbrev Sv := En → Sto → SR
def SPost (m : Nat → Addr) (S : Sto) (H : Hp) (D : Ends) : SR → Prop
  | .nx ρ' S' => ∀ m' H' σ', Ext m m' S S' H H' → REnv m' S'.len H' ρ' σ' → D.nx σ' H'
  | .rt d S' => ∀ m' H' v, Ext m m' S S' H H' → RD m' S'.len H' d v → D.rt v H'
  | .bk ρ' S' => ∀ m' H' σ', Ext m m' S S' H H' → REnv m' S'.len H' ρ' σ' → D.bk σ' H'
  | .ct ρ' S' => ∀ m' H' σ', Ext m m' S S' H H' → REnv m' S'.len H' ρ' σ' → D.ct σ' H'
  | .bad => False
theorem SPost.ext {m m1 : Nat → Addr} {S S1 : Sto} {H H1 : Hp} {D : Ends} (X1 : Ext m m1 S S1 H H1) : ∀ {r : SR}, SPost m S H D r → SPost m1 S1 H1 D r
  | .nx _ _, h => fun m' H' σ' X2 e => h m' H' σ' (X1.trans X2) e
  | .rt _ _, h => fun m' H' σ' X2 e => h m' H' σ' (X1.trans X2) e
  | .bk _ _, h => fun m' H' σ' X2 e => h m' H' σ' (X1.trans X2) e
  | .ct _ _, h => fun m' H' σ' X2 e => h m' H' σ' (X1.trans X2) e
  | .bad, h => h
def rdS (f : Sv) : TS := fun D σ H => ∃ m S ρ, Rel m S H ∧ REnv m S.len H ρ σ ∧ SPost m S H D (f ρ S)
section
variable {X : Cx} {st : Stmt} {rest : List Stmt} {f g : Sv} {e a b c : Expr} {fe fc : Ev} {pos : Pos}
theorem PS.of {t t' : TS} (h : PS X st t) (i : ∀ D σ H, t' D σ H → t D σ H) : PS X st t' := ⟨fun pins s σ H D I q => h.run pins s σ H D I (i D σ H q)⟩
theorem PSs.of {t t' : TS} (h : PSs X rest t) (i : ∀ D σ H, t' D σ H → t D σ H) : PSs X rest t' := ⟨fun pins s σ H D I q => h.run pins s σ H D I (i D σ H q)⟩
def svNext : Sv := fun ρ S => .nx ρ S
def svSeq (f g : Sv) : Sv := fun ρ S => match f ρ S with
  | .nx ρ1 S1 => g ρ1 S1
  | r => r
theorem psv_nil : PSs X [] (rdS svNext) := PSs.of pss_nil fun D σ H h => by
  obtain ⟨m, S, ρ, R, E, q⟩ := h
  exact q m H σ (Ext.refl R) E
theorem psv_cons (h1 : PS X st (rdS f)) (h2 : PSs X rest (rdS g)) : PSs X (st :: rest) (rdS (svSeq f g)) := PSs.of (pss_cons h1 h2) fun D σ H h => by
  obtain ⟨m, S, ρ, R, E, q⟩ := h
  refine ⟨m, S, ρ, R, E, ?_⟩
  unfold svSeq at q
  cases e : f ρ S with
  | nx ρ1 S1 =>
    rw [e] at q
    exact fun m1 H1 σ1 X1 E1 => ⟨m1, S1, ρ1, X1.rel, E1, SPost.ext X1 q⟩
  | rt d S1 => rw [e] at q; exact q
  | bk ρ1 S1 => rw [e] at q; exact q
  | ct ρ1 S1 => rw [e] at q; exact q
  | bad => rw [e] at q; exact q
theorem psv_pass : PS X (.Pass pos) (rdS svNext) := PS.of ps_pass fun D σ H h => by
  obtain ⟨m, S, ρ, R, E, q⟩ := h
  exact q m H σ (Ext.refl R) E
theorem psv_break : PS X (.Break pos) (rdS fun ρ S => .bk ρ S) := PS.of ps_break fun D σ H h => by
  obtain ⟨m, S, ρ, R, E, q⟩ := h
  exact q m H σ (Ext.refl R) E
theorem psv_cont : PS X (.Continue pos) (rdS fun ρ S => .ct ρ S) := PS.of ps_continue fun D σ H h => by
  obtain ⟨m, S, ρ, R, E, q⟩ := h
  exact q m H σ (Ext.refl R) E
/-- what cannot be taken -/
theorem psv_bad : PS X st (rdS fun _ _ => .bad) := PS.of ps_never fun D σ H h => by
  obtain ⟨m, S, ρ, R, E, q⟩ := h
  exact q
def svExpr (f : Ev) : Sv := fun ρ S => match f ρ S with
  | .ok _ S1 => .nx ρ S1
  | .bad => .bad
def svRet (f : Ev) : Sv := fun ρ S => match f ρ S with
  | .ok d S1 => .rt d S1
  | .bad => .bad
theorem psv_expr (he : PE X e (rdE fe)) (hs : swapsWith e none pos.line X.env = pure false) : PS X (.Expr e pos) (rdS (svExpr fe)) := PS.of (ps_expr he hs) fun D σ H h => by
  obtain ⟨m, S, ρ, R, E, q⟩ := h
  unfold svExpr at q
  cases h1 : fe ρ S with
  | bad => rw [h1] at q; exact q.elim
  | ok d S1 =>
    rw [h1] at q
    exact ⟨m, S, ρ, d, S1, R, E, h1, fun m1 H1 v1 X1 r1 => q m1 H1 σ X1 (E.ext X1)⟩
theorem psv_ret (he : PE X e (rdE fe)) : PS X (.Return (some e) pos) (rdS (svRet fe)) := PS.of (ps_ret he) fun D σ H h => by
  obtain ⟨m, S, ρ, R, E, q⟩ := h
  unfold svRet at q
  cases h1 : fe ρ S with
  | bad => rw [h1] at q; exact q.elim
  | ok d S1 =>
    rw [h1] at q
    exact ⟨m, S, ρ, d, S1, R, E, h1, fun m1 H1 v1 X1 r1 => q m1 H1 v1 X1 r1⟩
def svIf (c : Ev) (f g : Sv) : Sv := fun ρ S => match c ρ S with
  | .ok (.bl b) S1 => match b with
    | true => f ρ S1
    | false => g ρ S1
  | _ => .bad
theorem psv_if {A B : List Stmt} (hc : PT X c (rdT fc)) (ha : PSs X A (rdS f)) (hb : PSs X B (rdS g)) : PS X (.If c A B pos) (rdS (svIf fc f g)) := PS.of (ps_if hc ha hb) fun D σ H h => by
  obtain ⟨m, S, ρ, R, E, q⟩ := h
  unfold svIf at q
  split at q
  · rename_i bb S1 h1
    refine ⟨m, S, ρ, bb, S1, R, E, h1, fun m1 H1 X1 => ?_⟩
    cases bb with
    | true => exact ⟨m1, S1, ρ, X1.rel, E.ext X1, SPost.ext X1 q⟩
    | false => exact ⟨m1, S1, ρ, X1.rel, E.ext X1, SPost.ext X1 q⟩
  · exact q.elim

/-! ### targets -/
abbrev Gv := D → En → Sto → Res En
abbrev Gvs := List D → En → Sto → Res En
/-- only some slots are changed -/
structure Chg (vs : List Nat) (σ σ' : L2.St) : Prop where
  len : σ'.length = σ.length
  get : ∀ i, i ∉ vs → σ'[i]? = σ[i]?
theorem Chg.refl (vs : List Nat) (σ : L2.St) : Chg vs σ σ := ⟨rfl, fun _ _ => rfl⟩
theorem Chg.trans {vs : List Nat} {σ σ1 σ2 : L2.St} (a : Chg vs σ σ1) (b : Chg vs σ1 σ2) : Chg vs σ σ2 := ⟨b.len.trans a.len, fun i h => (b.get i h).trans (a.get i h)⟩
theorem Chg.set {vs : List Nat} {σ : L2.St} {i : Nat} (h : i ∈ vs) (o : Option V) : Chg vs σ (σ.set i o) := ⟨by simp, fun j hj => List.getElem?_set_ne (show i ≠ j from fun e => hj (by rw [← e]; exact h))⟩
def rdG (vs : List Nat) (g : Gv) : TG := fun v σ H Q => ∃ m S ρ d ρ' S', Rel m S H ∧ REnv m S.len H ρ σ ∧ RD m S.len H d v ∧ g d ρ S = .ok ρ' S' ∧ ∀ m' H' σ', Ext m m' S S' H H' → REnv m' S'.len H' ρ' σ' → Chg vs σ σ' → Q σ' H'
def rdGs (sl : List Nat) (g : Gvs) : TGs := fun vs σ H Q => ∃ m S ρ ds ρ' S', Rel m S H ∧ REnv m S.len H ρ σ ∧ RDs m S.len H ds vs ∧ g ds ρ S = .ok ρ' S' ∧ ∀ m' H' σ', Ext m m' S S' H H' → REnv m' S'.len H' ρ' σ' → Chg sl σ σ' → Q σ' H'
theorem PG.of {tg : Expr} {t t' : TG} (h : PG X tg t) (i : ∀ v σ H Q, t' v σ H Q → t v σ H Q) : PG X tg t' := ⟨fun pins s σ H v u Q I r q => h.run pins s σ H v u Q I r (i v σ H Q q)⟩
theorem PGs.of {ts : List Expr} {t t' : TGs} (h : PGs X ts t) (i : ∀ v σ H Q, t' v σ H Q → t v σ H Q) : PGs X ts t' := ⟨fun pins s σ H v u Q I r q => h.run pins s σ H v u Q I r (i v σ H Q q)⟩
def gvName (i : Nat) : Gv := fun d ρ S => .ok (ρ.set i (some d)) S
theorem REnv.set {m : Nat → Addr} {k : Nat} {H : Hp} {ρ : En} {σ : L2.St} {d : D} {v : V} (E : REnv m k H ρ σ) (i : Nat) (h : RD m k H d v) : REnv m k H (ρ.set i (some d)) (σ.set i (some v)) := by
  refine ⟨by simp [E.len], fun j d' e => ?_⟩
  by_cases hj : j = i
  · subst hj
    have hl : j < ρ.length := by
      have := (List.getElem?_eq_some_iff.mp e).1
      simpa using this
    rw [List.getElem?_set_self hl] at e
    cases e
    exact ⟨v, by rw [List.getElem?_set_self (by rw [← E.len]; exact hl)], h⟩
  · rw [List.getElem?_set_ne (Ne.symm hj)] at e
    obtain ⟨w, h1, h2⟩ := E.get j d' e
    exact ⟨w, by rw [List.getElem?_set_ne (Ne.symm hj)]; exact h1, h2⟩
theorem pgv_name {sl : List Nat} {i : Nat} {x : Str} (hsl : i ∈ sl) (hN : X.N.Nodup) (hi : X.N[i]? = some x) (hx : Loc X.env.scope x) (hf : X.fn x = true ∨ X.env.scope.names.lookup x = some .local) : PG X (.Name x pos) (rdG sl (gvName i)) := PG.of (pg_name hN hi hx hf) fun v σ H Q h => by
  obtain ⟨m, S, ρ, d, ρ', S', R, E, r, e, q⟩ := h
  cases e
  exact q m H _ (Ext.refl R) (E.set i r) (Chg.set hsl _)
def gvNil : Gvs := fun ds ρ S => match ds with
  | [] => .ok ρ S
  | _ => .bad
def gvCons (g : Gv) (gs : Gvs) : Gvs := fun ds ρ S => match ds with
  | d :: r => match g d ρ S with
    | .ok ρ1 S1 => gs r ρ1 S1
    | .bad => .bad
  | [] => .bad
theorem pgvs_nil {sl : List Nat} : PGs X [] (rdGs sl gvNil) := PGs.of pgs_nil fun v σ H Q h => by
  obtain ⟨m, S, ρ, d, ρ', S', R, E, r, e, q⟩ := h
  unfold gvNil at e
  split at e
  · cases e; exact ⟨r, q m H σ (Ext.refl R) E (Chg.refl _ _)⟩
  · cases e
theorem pgvs_cons {sl : List Nat} {es : List Expr} {gv : Gv} {gs : Gvs} (h1 : PG X e (rdG sl gv)) (h2 : PGs X es (rdGs sl gs)) (hs : (assignEach (e :: es) X.env).map (·.2) = assign e X.env :: (assignEach es X.env).map (·.2)) : PGs X (e :: es) (rdGs sl (gvCons gv gs)) := PGs.of (pgs_cons h1 h2 hs) fun v σ H Q h => by
  obtain ⟨m, S, ρ, ds, ρ', S', R, E, r, e, q⟩ := h
  unfold gvCons at e
  split at e
  · rename_i d ds
    obtain ⟨w, ws, rfl, r1, r2⟩ := r
    split at e
    · rename_i ρ1 S1 h1
      exact ⟨w, ws, rfl, m, S, ρ, d, ρ1, S1, R, E, r1, h1, fun m1 H1 σ1 X1 E1 C1 => ⟨m1, S1, ρ1, ds, ρ', S', X1.rel, E1, r2.ext X1, e, fun m2 H2 σ2 X2 E2 C2 => q m2 H2 σ2 (X1.trans X2) E2 (C1.trans C2)⟩⟩
    · cases e
  · cases e
def gvTup (n : Nat) (gs : Gvs) : Gv := fun d ρ S => match d with
  | .tup ds => match Nat.beq ds.length n with
    | true => gs ds ρ S
    | false => .bad
  | _ => .bad
theorem pgv_tup {sl : List Nat} {es : List Expr} {k n : Nat} {gs : Gvs} (hc : X.calm = true) (h : PGs X es (rdGs sl gs)) (hn : (assignEach es X.env).length = n) (hst : (assignEach es X.env).findIdx? (·.1) = none) : PG X (.Tuple es k pos) (rdG sl (gvTup n gs)) := PG.of (pg_tup hc h hn hst) fun v σ H Q h => by
  obtain ⟨m, S, ρ, d, ρ', S', R, E, r, e, q⟩ := h
  unfold gvTup at e
  split at e
  · rename_i ds
    obtain ⟨a, vs, rfl, ha, qs⟩ := r
    split at e
    · rename_i hl
      refine ⟨a, vs, rfl, .of ha, ?_, m, S, ρ, ds, ρ', S', R, E, qs, e, q⟩
      rw [← qs.length]
      exact Nat.eq_of_beq_eq_true hl
    · cases e
  · cases e
/-- target = value -/
def svAsg (f : Ev) (g : Gv) : Sv := fun ρ S => match f ρ S with
  | .ok d S1 => match g d ρ S1 with
    | .ok ρ1 S2 => .nx ρ1 S2
    | .bad => .bad
  | .bad => .bad
theorem rd_asg {sl : List Nat} {gv : Gv} {D : Ends} {σ : L2.St} {H : Hp} (h : rdS (svAsg fe gv) D σ H) : tAsg (rdE fe) (rdG sl gv) D σ H := by
  obtain ⟨m, S, ρ, R, E, q⟩ := h
  unfold svAsg at q
  cases h1 : fe ρ S with
  | bad => rw [h1] at q; exact q.elim
  | ok d S1 =>
    rw [h1] at q
    dsimp only at q
    refine ⟨m, S, ρ, d, S1, R, E, h1, fun m1 H1 v1 X1 r1 => ?_⟩
    cases h2 : gv d ρ S1 with
    | bad => rw [h2] at q; exact q.elim
    | ok ρ1 S2 =>
      rw [h2] at q
      exact ⟨m1, S1, ρ, d, ρ1, S2, X1.rel, E.ext X1, r1, h2, fun m2 H2 σ2 X2 E2 _ => q m2 H2 σ2 (X1.trans X2) E2⟩
theorem psv_asg {sl : List Nat} {tg : Expr} {gv : Gv} (he : PE X e (rdE fe)) (hg : PG X tg (rdG sl gv)) (hs : swapsWithSole [tg] e pos.line X.env = pure false) (hw : swappedStores [tg] e X.env = pure none) (h1 : (assignEach [tg] X.env).map (·.2) = [assign tg X.env]) : PS X (.Assign [tg] e pos) (rdS (svAsg fe gv)) :=
  PS.of (ps_asg he hg hs hw h1) fun _ _ _ h => rd_asg h
theorem psv_set {i : Nat} {x : Str} {pos' : Pos} (hN : X.N.Nodup) (hi : X.N[i]? = some x) (hx : Loc X.env.scope x) (he : PE X e (rdE fe)) (hs : swapsWith e (some (.Name x pos')) pos.line X.env = pure false) (hf : X.fn x = true ∨ X.env.scope.names.lookup x = some .local) :
    PS X (.Assign [.Name x pos'] e pos) (rdS (svAsg fe (gvName i))) := PS.of (ps_set hN hi hx he hs hf) fun D σ H h => by
  obtain ⟨m, S, ρ, d, S1, R, E, h1, q⟩ := rd_asg (sl := [i]) h
  refine ⟨m, S, ρ, d, S1, R, E, h1, fun m1 H1 v1 X1 r1 => ?_⟩
  obtain ⟨m2, S2, ρ2, d2, ρ', S', R2, E2, r2, e2, q2⟩ := q m1 H1 v1 X1 r1
  cases e2
  exact q2 m2 H1 _ (Ext.refl R2) (E2.set i r2) (Chg.set (List.mem_singleton.mpr rfl) _)
/-- a, b = x, y -/
theorem psv_par {i j : Nat} {x y : Str} {ga : EvA} {px py pt : Pos} {kt k2 : Nat} {pt2 : Pos} (hc : X.calm = true) (hN : X.N.Nodup) (hi : X.N[i]? = some x) (hj : X.N[j]? = some y) (hij : i ≠ j)
    (hx : X.env.scope.names.lookup x = some .local) (hy : X.env.scope.names.lookup y = some .local) (ha : PA X [a, b] (rdA ga))
    (hw : swappedStores [.Tuple [.Name x px, .Name y py] kt pt] (.Tuple [a, b] k2 pt2) X.env = pure (some [x, y])) :
    PS X (.Assign [.Tuple [.Name x px, .Name y py] kt pt] (.Tuple [a, b] k2 pt2) pos) (rdS (svAsg (evN tupN ga) (gvTup 2 (gvCons (gvName i) (gvCons (gvName j) gvNil))))) := PS.of (ps_par hc hN hi hj hij hx hy ha hw rfl) fun D σ H h => by
  obtain ⟨m, S, ρ, R, E, q⟩ := h
  unfold svAsg evN at q
  cases h1 : ga ρ S with
  | bad => rw [h1] at q; exact q.elim
  | ok ds S1 =>
    rw [h1] at q
    refine ⟨m, S, ρ, ds, S1, R, E, h1, fun m1 H1 v1 X1 r1 => ?_⟩
    dsimp only [tupN] at q
    split at q
    · rename_i d S2 h2
      split at h2
      · cases h2
        simp only [gvTup] at q
        split at q
        · rename_i ρ' S' h3
          split at h3
          · rename_i hl
            have hl := Nat.eq_of_beq_eq_true hl
            obtain ⟨d1, d2, rfl⟩ : ∃ d1 d2, ds = [d1, d2] := by
              match ds, hl with
              | [d1, d2], _ => exact ⟨d1, d2, rfl⟩
            obtain ⟨v, w, rfl, hv, hw⟩ := r1.two
            simp only [gvCons, gvName, gvNil] at h3
            cases h3
            exact ⟨v, w, rfl, q m1 H1 _ X1 (((E.ext X1).set i hv).set j hw)⟩
          · cases h3
        · exact q.elim
      · cases h2
    · exact q.elim
theorem psv_par3 {i j l : Nat} {x y z : Str} {ga : EvA} {px py pz pt : Pos} {kt k2 : Nat} {pt2 : Pos} (hc : X.calm = true) (hN : X.N.Nodup) (hi : X.N[i]? = some x) (hj : X.N[j]? = some y) (hl : X.N[l]? = some z) (hij : i ≠ j) (hil : i ≠ l) (hjl : j ≠ l)
    (hx : X.env.scope.names.lookup x = some .local) (hy : X.env.scope.names.lookup y = some .local) (hz : X.env.scope.names.lookup z = some .local) (ha : PA X [a, b, c] (rdA ga))
    (hw : swappedStores [.Tuple [.Name x px, .Name y py, .Name z pz] kt pt] (.Tuple [a, b, c] k2 pt2) X.env = pure (some [x, y, z])) :
    PS X (.Assign [.Tuple [.Name x px, .Name y py, .Name z pz] kt pt] (.Tuple [a, b, c] k2 pt2) pos) (rdS (svAsg (evN tupN ga) (gvTup 3 (gvCons (gvName i) (gvCons (gvName j) (gvCons (gvName l) gvNil)))))) := PS.of (ps_par3 hc hN hi hj hl hij hil hjl hx hy hz ha hw rfl) fun D σ H h => by
  obtain ⟨m, S, ρ, R, E, q⟩ := h
  unfold svAsg evN at q
  cases h1 : ga ρ S with
  | bad => rw [h1] at q; exact q.elim
  | ok ds S1 =>
    rw [h1] at q
    refine ⟨m, S, ρ, ds, S1, R, E, h1, fun m1 H1 v1 X1 r1 => ?_⟩
    dsimp only [tupN] at q
    split at q
    · rename_i d S2 h2
      split at h2
      · cases h2
        simp only [gvTup] at q
        split at q
        · rename_i ρ' S' h3
          split at h3
          · rename_i hl
            have hl := Nat.eq_of_beq_eq_true hl
            obtain ⟨d1, d2, d3, rfl⟩ : ∃ d1 d2 d3, ds = [d1, d2, d3] := by
              match ds, hl with
              | [d1, d2, d3], _ => exact ⟨d1, d2, d3, rfl⟩
            obtain ⟨u, ws, rfl, hu, hws⟩ := r1
            obtain ⟨v, w, rfl, hv, hw⟩ := hws.two
            simp only [gvCons, gvName, gvNil] at h3
            cases h3
            exact ⟨u, v, w, rfl, q m1 H1 _ X1 ((((E.ext X1).set i hu).set j hv).set l hw)⟩
          · cases h3
        · exact q.elim
      · cases h2
    · exact q.elim
end
end Sw

/-! Eng8a: enumerate over a tuple. -/
namespace PySem
open Sem (wp)
open AutoSeq1 (wpAny_loadPart')
set_option maxHeartbeats 1000000 in
theorem Sw_enumerate_newT (l : Addr) (items : Array Value) (n : Nat) (dct : Option Addr) (sl : Array (Option Value)) :
    Meets (Builtin.«enumerate.__new__» ⟨[.type "enumerate", .ref l], []⟩) (fun _ R s => s.heap.get? l = some { cls := .type "tuple", dict := dct, data := .seq items n, slots := sl } ∧
      R (.ok (.ret (.ref (s.heap.push { cls := .type "tuple_iterator", data := .fields #[.ref l, .int 0 0] }).objs.size)))
        { s with heap := (s.heap.push { cls := .type "tuple_iterator", data := .fields #[.ref l, .int 0 0] }).push { cls := .type "enumerate", data := .fields #[.none, .bool false, .ref s.heap.objs.size, rawInt 0, .none, .none] } }) :=
  .of_wp fun prog w A R s h => by
    obtain ⟨hp, g, d, tk, os⟩ := s; obtain ⟨hl, h⟩ := h
    have hsub := sub_enumerate
    have hL : Heap.IsTuple (Shared.heap ⟨hp, g, d, tk, os⟩) l items := ⟨_, hl, rfl, n, rfl⟩
    wp_walk using wpAny_loadPart' hl
    refine wpAny_stack_any fun st => wpAny_pure ?_
    split
    · rename_i c _ _ _ _ _
      cases (c == Value.type "enumerate")
      · wp_walk using wpAny_loadPart' hl, wpAny_pyIter_tuple hL
        exact ⟨_, rfl, h⟩
      · wp_walk using wpAny_loadPart' hl, wpAny_pyIter_tuple hL
        exact ⟨_, rfl, h⟩
    · wp_walk using wpAny_loadPart' hl, wpAny_pyIter_tuple hL
      exact ⟨_, rfl, h⟩
theorem Sw_enumerate_tuple {prog : Program} {w : World} {A : Around} {E : Value → Shared → Prop} {s : Shared} {l : Addr} {items : Array Value} {Q : Value → Shared → Prop} (hL : s.heap.IsTuple l items)
    (h : ∀ h', IsEnum h' (s.heap.objs.size + 1) s.heap.objs.size 0 .none → h'.IsTupleIter s.heap.objs.size l 0 → h'.objs.size = s.heap.objs.size + 2 →
      (∀ b o, s.heap.get? b = some o → h'.get? b = some o) → Q (.ref (s.heap.objs.size + 1)) { s with heap := h' }) :
    wpAny (model prog w) A (call (.type "enumerate") [.ref l]) Q E s := by
  obtain ⟨⟨c, dct, dt, sl⟩, hl, hc, n, hd⟩ := hL
  replace hc : c = .type "tuple" := hc
  replace hd : dt = .seq items n := hd
  subst hc hd
  refine callType_new F.called_enumerate (by decide) (F.typeCall_enumerate_1 _) (F.newCall_enumerate_1 _) (fun obj => F.args_object_init_2 obj _) F.entry_enumerate_new
    (Sw_enumerate_newT l items n dct sl) ⟨hl, ?_⟩
  have hz : (s.heap.push { cls := .type "tuple_iterator", data := .fields #[.ref l, .int 0 0] }).objs.size = s.heap.objs.size + 1 := Heap.size_push ..
  show _ ∧ _
  rw [hz]
  have he : IsEnum ((s.heap.push { cls := .type "tuple_iterator", data := .fields #[.ref l, .int 0 0] }).push { cls := .type "enumerate", data := .fields #[.none, .bool false, .ref s.heap.objs.size, rawInt 0, .none, .none] }) (s.heap.objs.size + 1) s.heap.objs.size 0 .none := by
    have := Heap.get?_push_size (s.heap.push { cls := .type "tuple_iterator", data := .fields #[.ref l, .int 0 0] }) (o := { cls := .type "enumerate", data := .fields #[.none, .bool false, .ref s.heap.objs.size, rawInt 0, .none, .none] }) rfl
    rw [hz] at this; exact this
  refine ⟨⟨_, he, rfl⟩, h _ he ⟨_, Heap.get?_push_of_some _ (Heap.get?_push_size _ rfl), rfl, rfl⟩ (by rw [Heap.size_push, hz]) fun b o x => Heap.get?_push_of_some _ (Heap.get?_push_of_some _ x)⟩
end PySem
namespace Sw
open PySem PySem.Spec PyProof.Rows L2
def IteT (K : PySem.W.Frag) (a : Addr) : It :=
  ⟨fun i H => ∃ (xs : List V) (x : V), H a = some (.tup xs) ∧ xs[i]? = some x, fun i H v H' => ∃ T x, v = .ref T ∧ H T = none ∧ H' = upd H T (.tup [.int (i : Nat), x]) ∧ ∀ xs, H a = some (.tup xs) → xs[i]? = some x, fun i H => ∃ xs : List V, H a = some (.tup xs) ∧ xs.length = i⟩
theorem turn_enumT {P : Program} {w : World} {K : PySem.W.Frag} {elts : List Expr} {kk : Nat} {tpos : Pos} (a e it : Addr) :
    Turn P w K (.Tuple elts kk tpos) (IteT K a) [e, it] e (fun i h => (∃ old, IsEnum h e it ((i : Nat) : Int) old) ∧ h.IsTupleIter it a i ∧ e ≠ it ∧ a ≠ it ∧ e ≠ a) where
  mem := by simp
  obj := fun i h st b hb => by
    obtain ⟨⟨old, he⟩, ⟨o, ho, hc, hd⟩, _⟩ := st
    have e' : b = e ∨ b = it := by simpa using hb
    rcases e' with z | z
    · rw [z]; exact ⟨_, he, fun v q => nomatch q⟩
    · rw [z]; exact ⟨o, ho, fun v q => by rw [hd] at q; cases q⟩
  keep := fun i h h' st k => let ⟨⟨old, he⟩, hi, hne⟩ := st; ⟨⟨old, k e (by simp) _ he⟩, hi.at fun o q => k it (by simp) o q, hne⟩
  item := by
    intro X hP hw hK hc i pins s σ H E I hf st hg
    subst hP hw hK
    obtain ⟨⟨old, he⟩, hit, hne, hai, hea⟩ := st
    obtain ⟨xs, x, hq, hx⟩ := hg
    obtain ⟨its, rv, p, hz⟩ := I.tuple (.of hq)
    obtain ⟨u, hu, ru⟩ := rv.get hx
    have hel : e < s.heap.objs.size := Heap.lt_size he
    have hil : it < s.heap.objs.size := by obtain ⟨_, q, _⟩ := hit; exact Heap.lt_size q
    have hlt : i < its.toArray.size := by
      have := (List.getElem?_eq_some_iff.mp hu).1
      simpa using this
    refine wpAny_pyNext_enum_itemD (Draws.tuple (A := X.A.in1) (show X.A.in1.handled = none from I.ok.hd hc) it a hai its.toArray) he ⟨hit, p⟩ hlt hne (by simp [hne, hea]) fun y h' tk hy ho hit' hT hsz hk => ?_
    have : y = u := by
      have e1 : its[i]? = some y := by simpa using hy
      rw [hu] at e1
      exact (Option.some.inj e1).symm
    subst this
    refine ⟨_, rfl, wpAny_letOwnedTupleGo_enum (s := { s with heap := h', toks := tk + 1 }) ho fun h'' he' sb => ?_⟩
    have hT2 : h''.get? s.heap.objs.size = some { cls := .type "tuple", data := .seq #[.int i tk, y] } := (sb.2 _ (Nat.ne_of_gt hel)).trans hT
    have new : ObjOk X.prog X.w (upd H s.heap.objs.size (.tup [.int (i : Nat), x])) h'' s.heap.objs.size (.tup [.int (i : Nat), x]) :=
      ⟨by show 2 ≤ sizeLine; decide, [.int i tk, y], .cons ⟨_, rfl⟩ (.cons ru .nil), ⟨_, hT2, rfl, _, rfl⟩⟩
    have I1 : Inv X pins σ (upd H s.heap.objs.size (.tup [.int (i : Nat), x])) { s with heap := h'', toks := tk + 1 } :=
      I.turnedNew (ch := [e, it]) (fun b ob hb q => (sb.2 b (fun z => hb (by simp [z]))).trans (hk b ob (fun z => hb (by simp [z])) (fun z => hb (by simp [z])) q)) hf (Nat.le_refl _) new
    refine ⟨.ref s.heap.objs.size, _, I1, rfl, ⟨_, x, rfl, I.hok.fresh (Nat.le_refl _), rfl, fun ys hy => by rw [hq] at hy; cases hy; exact hx⟩, ⟨⟨y, ?_⟩, hit'.1.at fun o q => (sb.2 it (Ne.symm hne)).trans q, hne, hai, hea⟩, fun b hb => ?_⟩
    · have e1 : ((i + 1 : Nat) : Int) = (i : Int) + 1 := by omega
      rw [e1]; exact he'
    · have hb' : b < s.heap.objs.size := by
        have e' : b = e ∨ b = it := by simpa using hb
        rcases e' with z | z
        · rw [z]; exact hel
        · rw [z]; exact hil
      rw [upd_ne (Nat.ne_of_lt hb')]
      exact (hf b hb).1
  done := by
    intro X hP hw hK hc i pins s σ H E I hf st hg
    subst hP hw hK
    obtain ⟨⟨old, he⟩, hit, hne, hai, hea⟩ := st
    obtain ⟨xs, hq, hx⟩ := hg
    obtain ⟨its, rv, p, hz⟩ := I.tuple (.of hq)
    obtain ⟨f0, f1, f2, f3, f4, f5⟩ := hf it (by simp)
    have hl : its.toArray.size = i := by
      have := rv.length
      simp
      omega
    subst hl
    exact wpAny_pyNext_enum_endD (Draws.tuple (A := X.A.in1) (show X.A.in1.handled = none from I.ok.hd hc) it a hai its.toArray) he ⟨hit, p⟩ fun h' eb => ⟨rfl, I.turned (t' := s.toks) (fun b o hb q => eb b o hb q) f0 f1 f3 f4 f5⟩
  self := fun A i s Q E st h => let ⟨⟨_, he⟩, _⟩ := st; wpAny_pyIter_enum he h
def iEnumT (K : PySem.W.Frag) (ta : TA) : TI := fun σ H R => ta σ H fun vs H1 => ∃ a xs, vs = [.ref a] ∧ H1 a = some (.tup xs) ∧ R (IteT K a) H1
theorem pi_enumT {X : Cx} {e : Expr} {ta : TA} {p pos tpos : Pos} {elts : List Expr} {kk : Nat} (hg : Gl X "enumerate") (hm : X.mg "enumerate" = none) (ha : PA X [e] ta) (hs : starEach [e] X.env = [(false, eval e X.env)]) :
    PI X (.Tuple elts kk tpos) (.Call (.Name "enumerate" p) [e] [] pos) (iEnumT X.K ta) := by
  refine ⟨fun pins s σ H R I h => ?_⟩
  refine Call_ (ld_blt I hg hm boot_enumerate (PyProof.Rows.callWith_type1 (thn (ha.run pos pins s σ H _ I h) fun us s1 ⟨vs, H1, I1, r1, q1⟩ => ?_) hs rfl))
  obtain ⟨a, xs, ex, hq, q⟩ := q1
  subst ex
  cases r1 with
  | cons r rr =>
    cases rr
    cases r
    obtain ⟨its, rv, p', hz⟩ := I1.tuple (.of hq)
    have hal : a < s1.heap.objs.size := I1.hok.lt hq
    refine Sw_enumerate_tuple (show s1.heap.IsTuple a its.toArray from p') fun h' he hit hsz hk => wpAny_pyIter_enum he ?_
    have I2 : Inv X pins σ H1 { s1 with heap := h' } := I1.kept (t' := s1.toks) hk
    refine ⟨s1.heap.objs.size + 1, [s1.heap.objs.size + 1, s1.heap.objs.size], _, _, H1, rfl, I2, turn_enumT a (s1.heap.objs.size + 1) s1.heap.objs.size, ⟨⟨.none, he⟩, hit, Nat.succ_ne_self _, Nat.ne_of_lt hal, fun z => absurd hal (by rw [← z]; exact Nat.not_lt_of_le (Nat.le_succ _))⟩, fun b hb => ?_, q⟩
    have e' : b = s1.heap.objs.size + 1 ∨ b = s1.heap.objs.size := by simpa using hb
    have hle : s1.heap.objs.size ≤ b := by
      rcases e' with z | z
      · rw [z]; exact Nat.le_add_right _ _
      · rw [z]; exact Nat.le_refl _
    exact I1.fpOk hle (I1.hok.fresh hle)
end Sw

/-! Eng9: loops. -/
namespace Sw
open PySem PySem.Spec PyProof.Rows L2

/-! ### while -/
def svWhile (c : Ev) (f : Sv) : Nat → Sv
  | 0, _, _ => .bad
  | n + 1, ρ, S => match c ρ S with
    | .ok (.bl b) S1 => match b with
      | true => match f ρ S1 with
        | .nx ρ1 S2 => svWhile c f n ρ1 S2
        | .ct ρ1 S2 => svWhile c f n ρ1 S2
        | .bk ρ1 S2 => .nx ρ1 S2
        | .rt d S2 => .rt d S2
        | .bad => .bad
      | false => .nx ρ S1
    | _ => .bad
section
variable {X : Cx} {st : Stmt} {f : Sv} {e c tg iter : Expr} {fc fe : Ev} {pos : Pos} {body : List Stmt}
theorem psv_while {n : Nat} (hp : PassesOwn (model X.prog X.w) X.A X.env X.xe) (hc : PT X c (rdT fc)) (hb : PSs X body (rdS f)) : PS X (.While c body [] pos) (rdS (svWhile fc f n)) := PS.of (ps_while hp hc hb) fun D σ H h => by
  obtain ⟨m, S, ρ, R, E, q⟩ := h
  refine ⟨fun k σ H => ∃ m S ρ, Rel m S H ∧ REnv m S.len H ρ σ ∧ SPost m S H D (svWhile fc f k ρ S), ⟨n, m, S, ρ, R, E, q⟩, ?_⟩
  rintro k σ H ⟨m, S, ρ, R, E, q⟩
  cases k with
  | zero => exact q.elim
  | succ k =>
    simp only [svWhile] at q
    split at q
    · rename_i b S1 h1
      refine ⟨m, S, ρ, b, S1, R, E, h1, fun m1 H1 X1 => ?_⟩
      cases b with
      | false =>
        rw [if_neg Bool.false_ne_true]
        exact q m1 H1 σ X1 (E.ext X1)
      | true =>
        rw [if_pos rfl]
        dsimp only at q
        refine ⟨fun σ H => ∃ m S ρ, Rel m S H ∧ REnv m S.len H ρ σ ∧ SPost m S H D (svWhile fc f k ρ S), fun σ' H' z => ⟨k, Nat.lt_succ_self k, z⟩, m1, S1, ρ, X1.rel, E.ext X1, ?_⟩
        cases h2 : f ρ S1 with
        | nx ρ1 S2 => rw [h2] at q; exact fun m2 H2 σ2 X2 E2 => ⟨m2, S2, ρ1, X2.rel, E2, SPost.ext (X1.trans X2) q⟩
        | ct ρ1 S2 => rw [h2] at q; exact fun m2 H2 σ2 X2 E2 => ⟨m2, S2, ρ1, X2.rel, E2, SPost.ext (X1.trans X2) q⟩
        | bk ρ1 S2 => rw [h2] at q; exact fun m2 H2 σ2 X2 E2 => q m2 H2 σ2 (X1.trans X2) E2
        | rt d S2 => rw [h2] at q; exact fun m2 H2 v2 X2 r2 => q m2 H2 v2 (X1.trans X2) r2
        | bad => rw [h2] at q; exact q
    · exact q.elim

/-! ### what is walked -/
inductive Src where
  | items (ds : List D)
  | live (n : Nat)
  | range (lo : Int) (n : Nat)
  | enumI (ds : List D)
  | enumL (n : Nat)
  | zipI (xs ys : List D)
  | zipL (n k : Nat)
/-- the item of a turn: none: it is no more known; some none: the end -/
def Src.next (S : Sto) (i : Nat) : Src → Option (Option D)
  | .items ds => some ds[i]?
  | .live n => match S.list? n with
    | some xs => some xs[i]?
    | none => none
  | .range lo n => match Nat.blt i n with
    | true => some (some (.int (lo + i)))
    | false => some none
  | .enumI ds => match ds[i]? with
    | some d => some (some (.tup [.int (i : Nat), d]))
    | none => match Nat.beq ds.length i with
      | true => some none
      | false => none
  | .enumL n => match S.list? n with
    | some xs => match xs[i]? with
      | some d => some (some (.tup [.int (i : Nat), d]))
      | none => some none
    | none => none
  | .zipI xs ys => match xs[i]?, ys[i]? with
    | some a, some b => some (some (.tup [a, b]))
    | _, _ => some none
  | .zipL n k => match S.list? n, S.list? k with
    | some xs, some ys => match xs[i]?, ys[i]? with
      | some a, some b => some (some (.tup [a, b]))
      | _, _ => some none
    | _, _ => none
/-- how many turns at most -/
def Src.turns (S : Sto) : Src → Nat
  | .items ds => ds.length
  | .live n => match S.list? n with
    | some xs => xs.length
    | none => 0
  | .range _ n => n
  | .enumI ds => ds.length
  | .enumL n => match S.list? n with
    | some xs => xs.length
    | none => 0
  | .zipI xs _ => xs.length
  | .zipL n _ => match S.list? n with
    | some xs => xs.length
    | none => 0
def ItOk (m0 : Nat → Addr) (S0 : Sto) (H0 : Hp) (src : Src) (J : It) : Prop := ∀ m S H i, Ext m0 m S0 S H0 H →
  (∀ d, src.next S i = some (some d) → J.go i H ∧ ∀ x H', J.yld i H x H' → Ext m m S S H H' ∧ RD m S.len H' d x) ∧ (src.next S i = some none → J.stop i H)
abbrev Iv := En → Sto → Res Src
def rdI (f : Iv) : TI := fun σ H R => ∃ m S ρ src S', Rel m S H ∧ REnv m S.len H ρ σ ∧ f ρ S = .ok src S' ∧ ∀ m' H' J, Ext m m' S S' H H' → ItOk m' S' H' src J → R J H'
theorem PI.of {wi wi' : TI} (h : PI X tg iter wi) (i : ∀ σ H R, wi' σ H R → wi σ H R) : PI X tg iter wi' := ⟨fun pins s σ H R I q => h.run pins s σ H R I (i σ H R q)⟩
theorem PI.or {w1 w2 : TI} (h1 : PI X tg iter w1) (h2 : PI X tg iter w2) : PI X tg iter (fun σ H R => w1 σ H R ∨ w2 σ H R) := ⟨fun pins s σ H R I q => q.elim (h1.run pins s σ H R I) (h2.run pins s σ H R I)⟩

def svFor (src : Src) (g : Gv) (f : Sv) : Nat → Nat → Sv
  | 0, _, _, _ => .bad
  | k + 1, i, ρ, S => match src.next S i with
    | some (some d) => match g d ρ S with
      | .ok ρ1 S1 => match f ρ1 S1 with
        | .nx ρ2 S2 => svFor src g f k (i + 1) ρ2 S2
        | .ct ρ2 S2 => svFor src g f k (i + 1) ρ2 S2
        | .bk ρ2 S2 => .nx ρ2 S2
        | .rt d S2 => .rt d S2
        | .bad => .bad
      | .bad => .bad
    | some none => .nx ρ S
    | none => .bad
def svForI (fi : Iv) (g : Gv) (f : Sv) : Sv := fun ρ S => match fi ρ S with
  | .ok src S1 => svFor src g f (src.turns S1 + 1) 0 ρ S1
  | .bad => .bad
theorem psv_for {sl : List Nat} {fi : Iv} {g : Gv} (hp : PassesOwn (model X.prog X.w) X.A X.env X.xe) (hc : X.calm = true) (hi : PI X tg iter (rdI fi)) (hg : PG X tg (rdG sl g)) (hb : PSs X body (rdS f)) (hs : ∀ x, foldedSetIterable iter X.env x = pure x) : PS X (.For tg iter body [] pos) (rdS (svForI fi g f)) := PS.of (ps_for hp hc hi hg hb hs) fun D σ H h => by
  obtain ⟨m, S, ρ, R, E, q⟩ := h
  unfold svForI at q
  cases h0 : fi ρ S with
  | bad => rw [h0] at q; exact q.elim
  | ok src S0 =>
    rw [h0] at q
    dsimp only at q
    refine ⟨m, S, ρ, src, S0, R, E, h0, fun m0 H0 J X0 OK => ?_⟩
    refine ⟨fun i k σ H => ∃ m S ρ, Ext m0 m S0 S H0 H ∧ REnv m S.len H ρ σ ∧ SPost m S H D (svFor src g f k i ρ S), ⟨_, m0, S0, ρ, Ext.refl X0.rel, E.ext X0, SPost.ext X0 q⟩, ?_⟩
    rintro i k σ H ⟨m, S, ρ, X1, E, q⟩
    cases k with
    | zero => exact q.elim
    | succ k =>
      simp only [svFor] at q
      obtain ⟨ok1, ok2⟩ := OK m S H i X1
      split at q
      · rename_i d hd
        obtain ⟨go, yl⟩ := ok1 d hd
        refine .inr ⟨go, fun σ H => ∃ m S ρ, Ext m0 m S0 S H0 H ∧ REnv m S.len H ρ σ ∧ SPost m S H D (svFor src g f k (i + 1) ρ S), fun σ' H' z => ⟨k, Nat.lt_succ_self k, z⟩, fun x H' y => ?_⟩
        obtain ⟨X2, rx⟩ := yl x H' y
        split at q
        · rename_i ρ1 S1 hg1
          refine ⟨m, S, ρ, d, ρ1, S1, X2.rel, E.ext X2, rx, hg1, fun m3 H3 σ3 X3 E3 _ => ⟨m3, S1, ρ1, X3.rel, E3, ?_⟩⟩
          have X23 := X2.trans X3
          cases h2 : f ρ1 S1 with
          | nx ρ2 S2 => rw [h2] at q; exact fun m4 H4 σ4 X4 E4 => ⟨m4, S2, ρ2, X1.trans (X23.trans X4), E4, SPost.ext (X23.trans X4) q⟩
          | ct ρ2 S2 => rw [h2] at q; exact fun m4 H4 σ4 X4 E4 => ⟨m4, S2, ρ2, X1.trans (X23.trans X4), E4, SPost.ext (X23.trans X4) q⟩
          | bk ρ2 S2 => rw [h2] at q; exact fun m4 H4 σ4 X4 E4 => q m4 H4 σ4 (X23.trans X4) E4
          | rt d S2 => rw [h2] at q; exact fun m4 H4 v4 X4 r4 => q m4 H4 v4 (X23.trans X4) r4
          | bad => rw [h2] at q; exact q
        · exact q.elim
      · rename_i hd
        exact .inl ⟨ok2 hd, q m H σ (Ext.refl X1.rel) E⟩
      · exact q.elim

/-! ### the walked things -/
def ivE (fe : Ev) : Iv := fun ρ S => match fe ρ S with
  | .ok (.tup ds) S1 => .ok (.items ds) S1
  | .ok (.ref n) S1 => match S1.list? n with
    | some _ => .ok (.live n) S1
    | none => .bad
  | _ => .bad
theorem live_sq {K : Frg} {m0 m : Nat → Addr} {S0 S : Sto} {H0 H : Hp} {n : Nat} {xs : List D} (X : Ext m0 m S0 S H0 H) (hn : n < S0.len) (h : S.list? n = some xs) : ∃ vs, SqL K H (m0 n) vs ∧ RDs m S.len H xs vs := by
  obtain ⟨vs, h1, h2, _⟩ := X.rel.sqL (K := K) h
  rw [X.ag n hn] at h1
  exact ⟨vs, h1, h2⟩
theorem itOk_live {K : Frg} {m0 : Nat → Addr} {S0 : Sto} {H0 : Hp} {n : Nat} (hn : n < S0.len) : ItOk m0 S0 H0 (.live n) (Itl K (m0 n)) := fun m S H i X1 => by
  refine ⟨fun d hd => ?_, fun hd => ?_⟩
  · simp only [Src.next] at hd
    split at hd
    · rename_i xs hl
      have hd : xs[i]? = some d := Option.some.inj hd
      obtain ⟨vs, h1, h2⟩ := live_sq (K := K) X1 hn hl
      obtain ⟨v, h3, h4⟩ := h2.get hd
      exact ⟨⟨vs, v, h1, h3⟩, fun x H' y => by
        obtain ⟨rfl, y⟩ := y
        have := y vs h1
        rw [h3] at this
        cases this
        exact ⟨Ext.refl X1.rel, h4⟩⟩
    · cases hd
  · simp only [Src.next] at hd
    split at hd
    · rename_i xs hl
      have hd : xs[i]? = none := Option.some.inj hd
      obtain ⟨vs, h1, h2⟩ := live_sq (K := K) X1 hn hl
      exact ⟨vs, h1, by rw [← h2.length]; exact List.getElem?_eq_none_iff.mp hd⟩
    · cases hd
theorem itOk_items {K : Frg} {m0 : Nat → Addr} {S0 : Sto} {H0 : Hp} {ds : List D} {a : Addr} {vs : List V} (ha : H0 a = some (.tup vs)) (hs : RDs m0 S0.len H0 ds vs) : ItOk m0 S0 H0 (.items ds) (Itt K a) := fun m S H i X1 => by
  have ha1 := X1.keep.tup _ _ ha
  have hs1 := hs.ext X1
  refine ⟨fun d hd => ?_, fun hd => ?_⟩
  · have hd : ds[i]? = some d := Option.some.inj hd
    obtain ⟨v, h3, h4⟩ := hs1.get hd
    exact ⟨⟨vs, v, .of ha1, h3⟩, fun x H' y => by
      obtain ⟨rfl, y⟩ := y
      have := y vs (.of ha1)
      rw [h3] at this
      cases this
      exact ⟨Ext.refl X1.rel, h4⟩⟩
  · have hd : ds[i]? = none := Option.some.inj hd
    exact ⟨vs, .of ha1, by rw [← hs1.length]; exact List.getElem?_eq_none_iff.mp hd⟩
theorem piv_e (he : PE X e (rdE fe)) : PI X tg e (rdI (ivE fe)) := PI.of (PI.or (pi_list he) (pi_tup he)) fun σ H Rr h => by
  obtain ⟨m, S, ρ, src, S', R, E, e0, q⟩ := h
  unfold ivE at e0
  split at e0
  · rename_i ds S1 h1
    cases e0
    exact .inr ⟨m, S, ρ, _, _, R, E, h1, fun m1 H1 v1 X1 r1 => by
      obtain ⟨a, vs, rfl, ha, qs⟩ := r1
      exact ⟨a, rfl, ⟨vs, .of ha⟩, q m1 H1 _ X1 (itOk_items ha qs)⟩⟩
  · rename_i n S1 h1
    split at e0
    · rename_i xs hl
      cases e0
      exact .inl ⟨m, S, ρ, _, _, R, E, h1, fun m1 H1 v1 X1 r1 => by
        obtain ⟨vs, h2, _⟩ := X1.rel.sqL (K := X.K) hl
        exact ⟨_, r1.2, ⟨vs, h2⟩, q m1 H1 _ X1 (itOk_live r1.1)⟩⟩
    · cases e0
  · cases e0
def okR (i : Int) : Bool := decide (-(2 ^ 62) ≤ i) && decide (i < 2 ^ 62)
def ivR1 (g : EvA) : Iv := fun ρ S => match g ρ S with
  | .ok [.int j] S1 => match okR j with
    | true => .ok (.range 0 j.toNat) S1
    | false => .bad
  | _ => .bad
def ivR2 (g : EvA) : Iv := fun ρ S => match g ρ S with
  | .ok [.int i, .int j] S1 => match okR i && okR j with
    | true => .ok (.range i (j - i).toNat) S1
    | false => .bad
  | _ => .bad
theorem itOk_range {m0 : Nat → Addr} {S0 : Sto} {H0 : Hp} {lo : Int} {n : Nat} : ItOk m0 S0 H0 (.range lo n) (Itr lo n) := fun m S H i X1 => by
  refine ⟨fun d hd => ?_, fun hd => ?_⟩
  · simp only [Src.next] at hd
    split at hd
    · rename_i h
      cases hd
      exact ⟨Nat.le_of_ble_eq_true h, fun x H' y => by
        obtain ⟨rfl, rfl⟩ := y
        exact ⟨Ext.refl X1.rel, rfl⟩⟩
    · cases hd
  · simp only [Src.next] at hd
    split at hd
    · cases hd
    · rename_i h
      show n ≤ i
      by_cases z : i < n
      · rw [show Nat.blt i n = true from Nat.ble_eq_true_of_le z] at h; cases h
      · omega
theorem okR_ok {i : Int} (h : okR i = true) : -(2 ^ 62) ≤ i ∧ i < 2 ^ 62 := by
  unfold okR at h
  simp only [Bool.and_eq_true, decide_eq_true_eq] at h
  exact h
theorem piv_range1 {a : Expr} {g : EvA} {p : Pos} (hg : Gl X "range") (hm : X.mg "range" = none) (ha : PA X [a] (rdA g)) (hs : starEach [a] X.env = [(false, eval a X.env)]) : PI X tg (.Call (.Name "range" p) [a] [] pos) (rdI (ivR1 g)) := PI.of (pi_range1 hg hm ha hs) fun σ H Rr h => by
  obtain ⟨m, S, ρ, src, S', R, E, e0, q⟩ := h
  unfold ivR1 at e0
  split at e0
  · rename_i j S1 h1
    split at e0
    · rename_i hj
      cases e0
      exact ⟨m, S, ρ, _, _, R, E, h1, fun m1 H1 v1 X1 r1 => by
        obtain ⟨v, rfl, hv⟩ := r1.one1
        exact ⟨j, by rw [show v = _ from hv], (okR_ok hj).1, (okR_ok hj).2, q m1 H1 _ X1 itOk_range⟩⟩
    · cases e0
  · cases e0
theorem piv_range2 {a b : Expr} {g : EvA} {p : Pos} (hg : Gl X "range") (hm : X.mg "range" = none) (ha : PA X [a, b] (rdA g)) (hs : starEach [a, b] X.env = [(false, eval a X.env), (false, eval b X.env)]) (hs2 : starEach [b] X.env = [(false, eval b X.env)]) : PI X tg (.Call (.Name "range" p) [a, b] [] pos) (rdI (ivR2 g)) := PI.of (pi_range2 hg hm ha hs hs2) fun σ H Rr h => by
  obtain ⟨m, S, ρ, src, S', R, E, e0, q⟩ := h
  unfold ivR2 at e0
  split at e0
  · rename_i i j S1 h1
    split at e0
    · rename_i hj
      cases e0
      obtain ⟨hj1, hj2⟩ := Bool.and_eq_true_iff.mp hj
      exact ⟨m, S, ρ, _, _, R, E, h1, fun m1 H1 v1 X1 r1 => by
        obtain ⟨v, w, rfl, hv, hw⟩ := r1.two
        exact ⟨i, j, by rw [show v = _ from hv, show w = _ from hw], ⟨(okR_ok hj1).1, (okR_ok hj1).2, (okR_ok hj2).1, (okR_ok hj2).2⟩, q m1 H1 _ X1 itOk_range⟩⟩
    · cases e0
  · cases e0
def ivEnum (g : EvA) : Iv := fun ρ S => match g ρ S with
  | .ok [.tup ds] S1 => .ok (.enumI ds) S1
  | .ok [.ref n] S1 => match S1.list? n with
    | some _ => .ok (.enumL n) S1
    | none => .bad
  | _ => .bad
theorem pairRD {m : Nat → Addr} {S : Sto} {H : Hp} (R : Rel m S H) {T : Addr} {d d' : D} {x y : V} (hT : H T = none) (h : RD m S.len H d x) (h' : RD m S.len H d' y) : Ext m m S S H (upd H T (.tup [x, y])) ∧ RD m S.len (upd H T (.tup [x, y])) (.tup [d, d']) (.ref T) :=
  ⟨Ext.tup R hT, RD.newTup R hT ⟨x, [y], rfl, h, y, [], rfl, h', rfl⟩⟩
theorem itOk_enumL {K : Frg} {m0 : Nat → Addr} {S0 : Sto} {H0 : Hp} {n : Nat} (hn : n < S0.len) : ItOk m0 S0 H0 (.enumL n) (Ite K (m0 n)) := fun m S H i X1 => by
  refine ⟨fun d hd => ?_, fun hd => ?_⟩
  · simp only [Src.next] at hd
    split at hd
    · rename_i xs hl
      split at hd
      · rename_i d0 h0
        cases hd
        obtain ⟨vs, h1, h2⟩ := live_sq (K := K) X1 hn hl
        obtain ⟨v, h3, h4⟩ := h2.get h0
        exact ⟨⟨vs, v, h1, h3⟩, fun x H' y => by
          obtain ⟨T, x0, rfl, hT, rfl, y⟩ := y
          have := y vs h1
          rw [h3] at this
          cases this
          exact pairRD X1.rel hT rfl h4⟩
      · cases hd
    · cases hd
  · simp only [Src.next] at hd
    split at hd
    · rename_i xs hl
      split at hd
      · cases hd
      · rename_i h0
        obtain ⟨vs, h1, h2⟩ := live_sq (K := K) X1 hn hl
        exact ⟨vs, h1, by rw [← h2.length]; exact List.getElem?_eq_none_iff.mp h0⟩
    · cases hd
theorem itOk_enumI {K : Frg} {m0 : Nat → Addr} {S0 : Sto} {H0 : Hp} {ds : List D} {a : Addr} {vs : List V} (ha : H0 a = some (.tup vs)) (hs : RDs m0 S0.len H0 ds vs) : ItOk m0 S0 H0 (.enumI ds) (IteT K a) := fun m S H i X1 => by
  have ha1 := X1.keep.tup _ _ ha
  have hs1 := hs.ext X1
  refine ⟨fun d hd => ?_, fun hd => ?_⟩
  · simp only [Src.next] at hd
    split at hd
    · rename_i d0 h0
      cases hd
      obtain ⟨v, h3, h4⟩ := hs1.get h0
      exact ⟨⟨vs, v, ha1, h3⟩, fun x H' y => by
        obtain ⟨T, x0, rfl, hT, rfl, y⟩ := y
        have := y vs ha1
        rw [h3] at this
        cases this
        exact pairRD X1.rel hT rfl h4⟩
    · split at hd
      · cases hd
      · cases hd
  · simp only [Src.next] at hd
    split at hd
    · cases hd
    · split at hd
      · rename_i hb
        exact ⟨vs, ha1, by rw [← hs1.length]; exact Nat.eq_of_beq_eq_true hb⟩
      · cases hd
theorem piv_enum {a : Expr} {g : EvA} {p tpos : Pos} {elts : List Expr} {kk : Nat} (hg : Gl X "enumerate") (hm : X.mg "enumerate" = none) (ha : PA X [a] (rdA g)) (hs : starEach [a] X.env = [(false, eval a X.env)]) : PI X (.Tuple elts kk tpos) (.Call (.Name "enumerate" p) [a] [] pos) (rdI (ivEnum g)) := PI.of (PI.or (pi_enum hg hm ha hs) (pi_enumT hg hm ha hs)) fun σ H Rr h => by
  obtain ⟨m, S, ρ, src, S', R, E, e0, q⟩ := h
  unfold ivEnum at e0
  split at e0
  · rename_i ds S1 h1
    cases e0
    exact .inr ⟨m, S, ρ, _, _, R, E, h1, fun m1 H1 v1 X1 r1 => by
      obtain ⟨v, rfl, a, vs, rfl, ha, qs⟩ := r1.one1
      exact ⟨a, vs, rfl, ha, q m1 H1 _ X1 (itOk_enumI ha qs)⟩⟩
  · rename_i n S1 h1
    split at e0
    · rename_i xs hl
      cases e0
      exact .inl ⟨m, S, ρ, _, _, R, E, h1, fun m1 H1 v1 X1 r1 => by
        obtain ⟨v, rfl, hn, rfl⟩ := r1.one1
        obtain ⟨vs, h2, _⟩ := X1.rel.sqL (K := X.K) hl
        exact ⟨_, vs, rfl, h2, q m1 H1 _ X1 (itOk_enumL hn)⟩⟩
    · cases e0
  · cases e0
def ivZip (g : EvA) : Iv := fun ρ S => match g ρ S with
  | .ok [.tup xs, .tup ys] S1 => .ok (.zipI xs ys) S1
  | .ok [.ref n, .ref k] S1 => match S1.list? n, S1.list? k with
    | some _, some _ => .ok (.zipL n k) S1
    | _, _ => .bad
  | _ => .bad
theorem itOk_zipL {K : Frg} {m0 : Nat → Addr} {S0 : Sto} {H0 : Hp} {n k : Nat} (hn : n < S0.len) (hk : k < S0.len) : ItOk m0 S0 H0 (.zipL n k) (Itz K (m0 n) (m0 k)) := fun m S H i X1 => by
  refine ⟨fun d hd => ?_, fun hd => ?_⟩
  · simp only [Src.next] at hd
    split at hd
    · rename_i xs ys hl hl'
      split at hd
      · rename_i a b h0 h0'
        cases hd
        obtain ⟨vs, h1, h2⟩ := live_sq (K := K) X1 hn hl
        obtain ⟨ws, g1, g2⟩ := live_sq (K := K) X1 hk hl'
        obtain ⟨v, h3, h4⟩ := h2.get h0
        obtain ⟨w, g3, g4⟩ := g2.get h0'
        exact ⟨⟨vs, ws, v, w, h1, g1, h3, g3⟩, fun x H' y => by
          obtain ⟨T, x0, y0, rfl, hT, rfl, y1, y2⟩ := y
          have := y1 vs h1
          rw [h3] at this
          cases this
          have := y2 ws g1
          rw [g3] at this
          cases this
          exact pairRD X1.rel hT h4 g4⟩
      · cases hd
    · cases hd
  · simp only [Src.next] at hd
    split at hd
    · rename_i xs ys hl hl'
      split at hd
      · cases hd
      · rename_i hno
        obtain ⟨vs, h1, h2⟩ := live_sq (K := K) X1 hn hl
        obtain ⟨ws, g1, g2⟩ := live_sq (K := K) X1 hk hl'
        refine ⟨vs, ws, h1, g1, ?_⟩
        rw [← h2.length, ← g2.length]
        by_cases z : i < xs.length
        · by_cases z' : i < ys.length
          · exact (hno _ _ (List.getElem?_eq_getElem z) (List.getElem?_eq_getElem z')).elim
          · exact .inr (by omega)
        · exact .inl (by omega)
    · cases hd
theorem itOk_zipI {K : Frg} {m0 : Nat → Addr} {S0 : Sto} {H0 : Hp} {xs ys : List D} {a b : Addr} {vs ws : List V} (ha : H0 a = some (.tup vs)) (hs : RDs m0 S0.len H0 xs vs) (hb : H0 b = some (.tup ws)) (hs' : RDs m0 S0.len H0 ys ws) : ItOk m0 S0 H0 (.zipI xs ys) (RZ.ItzT K a b) := fun m S H i X1 => by
  have ha1 := X1.keep.tup _ _ ha
  have hs1 := hs.ext X1
  have hb1 := X1.keep.tup _ _ hb
  have hs2 := hs'.ext X1
  refine ⟨fun d hd => ?_, fun hd => ?_⟩
  · simp only [Src.next] at hd
    split at hd
    · rename_i a0 b0 h0 h0'
      cases hd
      obtain ⟨v, h3, h4⟩ := hs1.get h0
      obtain ⟨w, g3, g4⟩ := hs2.get h0'
      exact ⟨⟨vs, ws, v, w, .of ha1, .of hb1, h3, g3⟩, fun x H' y => by
        obtain ⟨T, x0, y0, rfl, hT, rfl, y1, y2⟩ := y
        have := y1 vs (.of ha1)
        rw [h3] at this
        cases this
        have := y2 ws (.of hb1)
        rw [g3] at this
        cases this
        exact pairRD X1.rel hT h4 g4⟩
    · cases hd
  · simp only [Src.next] at hd
    split at hd
    · cases hd
    · rename_i hno
      refine ⟨vs, ws, .of ha1, .of hb1, ?_⟩
      rw [← hs1.length, ← hs2.length]
      by_cases z : i < xs.length
      · by_cases z' : i < ys.length
        · exact (hno _ _ (List.getElem?_eq_getElem z) (List.getElem?_eq_getElem z')).elim
        · exact .inr (by omega)
      · exact .inl (by omega)
theorem piv_zip {a b : Expr} {g : EvA} {p tpos : Pos} {elts : List Expr} {kk : Nat} (hg : Gl X "zip") (hm : X.mg "zip" = none) (ha : PA X [a, b] (rdA g)) (hs : starEach [a, b] X.env = [(false, eval a X.env), (false, eval b X.env)]) (hs2 : starEach [b] X.env = [(false, eval b X.env)]) : PI X (.Tuple elts kk tpos) (.Call (.Name "zip" p) [a, b] [] pos) (rdI (ivZip g)) := PI.of (RZ.pi_zipA hg hm ha (by rw [hs, hs2]) (by rw [hs2]; rfl)) fun σ H Rr h => by
  obtain ⟨m, S, ρ, src, S', R, E, e0, q⟩ := h
  unfold ivZip at e0
  split at e0
  · rename_i xs ys S1 h1
    cases e0
    exact ⟨m, S, ρ, _, _, R, E, h1, fun m1 H1 v1 X1 r1 => by
      obtain ⟨v, w, rfl, ⟨a, vs, rfl, ha, qs⟩, b, ws, rfl, hb, qs'⟩ := r1.two
      exact ⟨a, b, vs, ws, rfl, .inr ⟨.of ha, .of hb, q m1 H1 _ X1 (itOk_zipI ha qs hb qs')⟩⟩⟩
  · rename_i n k S1 h1
    split at e0
    · rename_i xs ys hl hl'
      cases e0
      exact ⟨m, S, ρ, _, _, R, E, h1, fun m1 H1 v1 X1 r1 => by
        obtain ⟨v, w, rfl, ⟨hn, rfl⟩, hk, rfl⟩ := r1.two
        obtain ⟨vs, h2, _⟩ := X1.rel.sqL (K := X.K) hl
        obtain ⟨ws, h3, _⟩ := X1.rel.sqL (K := X.K) hl'
        exact ⟨_, _, vs, ws, rfl, .inl ⟨h2, h3, q m1 H1 _ X1 (itOk_zipL hn hk)⟩⟩⟩
    · cases e0
  · cases e0
end
end Sw

/-! Eng10: list comprehensions. -/
namespace Sw
open PySem PySem.Spec PyProof.Rows L2
def wipeE (ρ : En) : List Nat → En
  | [] => ρ
  | v :: vs => (wipeE ρ vs).set v none
theorem wipeE_length (ρ : En) : ∀ vs : List Nat, (wipeE ρ vs).length = ρ.length
  | [] => rfl
  | v :: vs => by unfold wipeE; rw [List.length_set, wipeE_length ρ vs]
theorem wipeE_some {ρ : En} {i : Nat} {x : D} : ∀ {vs : List Nat}, (wipeE ρ vs)[i]? = some (some x) → ρ[i]? = some (some x) ∧ i ∉ vs
  | [], h => ⟨h, by simp⟩
  | v :: vs, h => by
    unfold wipeE at h
    by_cases hi : v = i
    · subst hi
      by_cases hv : v < (wipeE ρ vs).length
      · rw [List.getElem?_set_self hv] at h; cases h
      · rw [List.getElem?_eq_none (by simpa using hv)] at h; cases h
    · rw [List.getElem?_set_ne hi] at h
      obtain ⟨h1, h2⟩ := wipeE_some h
      exact ⟨h1, by simp only [List.mem_cons, not_or]; exact ⟨fun e => hi e.symm, h2⟩⟩
theorem wipe_get {σ : L2.St} : ∀ {vs : List Nat} {i : Nat}, (wipe σ vs)[i]? = if i ∈ vs then (if i < σ.length then some none else none) else σ[i]?
  | [], i => by simp [wipe]
  | v :: vs, i => by
    unfold wipe
    by_cases hi : v = i
    · subst hi
      by_cases hv : v < σ.length
      · rw [List.getElem?_set_self (by rw [wipe_length]; exact hv)]
        simp [hv]
      · rw [List.getElem?_eq_none (by simp [wipe_length]; omega)]
        simp [hv]
    · rw [List.getElem?_set_ne hi, wipe_get]
      have : (i ∈ v :: vs) ↔ i ∈ vs := by simp [Ne.symm hi]
      simp only [this]
theorem wipe_chg {vs : List Nat} {σ σ' : L2.St} (c : Chg vs (wipe σ vs) σ') : wipe σ' vs = wipe σ vs := by
  apply List.ext_getElem?
  intro i
  rw [wipe_get, wipe_get]
  have hl : σ'.length = σ.length := by rw [c.len, wipe_length]
  by_cases h : i ∈ vs
  · rw [if_pos h, if_pos h, hl]
  · rw [if_neg h, if_neg h, c.get i h, wipe_get, if_neg h]
theorem REnv.wipe {m : Nat → Addr} {k : Nat} {H : Hp} {ρ : En} {σ : L2.St} (E : REnv m k H ρ σ) (vs : List Nat) : REnv m k H (wipeE ρ vs) (L2.wipe σ vs) := by
  refine ⟨by rw [wipeE_length, wipe_length]; exact E.len, fun i d h => ?_⟩
  obtain ⟨h1, h2⟩ := wipeE_some h
  obtain ⟨v, h3, h4⟩ := E.get i d h1
  exact ⟨v, by rw [wipe_get, if_neg h2]; exact h3, h4⟩
/-- the turns of a comprehension whose list has the number n -/
def compL (src : Src) (n : Nat) (g : Gv) (ft fe : Ev) (ρ : En) : Nat → Nat → Sto → Res D
  | 0, _, _ => .bad
  | k + 1, i, S => match src.next S i with
    | some (some d) => match g d ρ S with
      | .ok ρ1 S1 => match ft ρ1 S1 with
        | .ok (.bl b) S2 => match b with
          | true => match fe ρ1 S2 with
            | .ok y S3 => match S3.objs[n]? with
              | some (.lst acc) => match fits (acc.length + 1) with
                | true => compL src n g ft fe ρ k (i + 1) (S3.put n (.lst (acc ++ [y])) (y.blw 0))
                | false => .bad
              | _ => .bad
            | .bad => .bad
          | false => compL src n g ft fe ρ k (i + 1) S2
        | _ => .bad
      | .bad => .bad
    | some none => .ok (.ref n) S
    | none => .bad
def evComp (fi : Iv) (vs : List Nat) (g : Gv) (ft fe : Ev) : Ev := fun ρ S => match fi ρ S with
  | .ok src S1 => compL src S1.len g ft fe (wipeE ρ vs) (src.turns S1 + 1) 0 (S1.add (.lst []))
  | .bad => .bad
section
variable {X : Cx}
theorem ptsv_nil : PTs X [] (rdT (evC (.bl true))) := ⟨fun pins s σ H Q I h => pts_nil.run pins s σ H Q I (rdT_C h)⟩
theorem ptsv_one {c : Expr} {fc : Ev} (h : PT X c (rdT fc)) : PTs X [c] (rdT fc) := pts_one h
theorem rd_comp {fi : Iv} {vs : List Nat} {g : Gv} {ft fe : Ev} {σ : L2.St} {H : Hp} {Q : VK} (h : rdE (evComp fi vs g ft fe) σ H Q) : tLc (rdI fi) (rdG vs g) (rdT ft) (rdE fe) vs σ H Q := by
  obtain ⟨m, S, ρ, d, S', R, E, e, q⟩ := h
  unfold evComp at e
  cases h0 : fi ρ S with
  | bad => rw [h0] at e; cases e
  | ok src S1 =>
    rw [h0] at e
    dsimp only at e
    refine ⟨m, S, ρ, src, S1, R, E, h0, fun m0 H0 J X0 OK L hL => ?_⟩
    have XA : Ext m0 (withAt m0 S1.len L) S1 (S1.add (.lst [])) H0 (upd H0 L (.lst [])) := Ext.add X0.rel hL ⟨[], upd_same, rfl⟩
    have hml : withAt m0 S1.len L S1.len = L := withAt_same ..
    have hln : S1.len < (S1.add (.lst [])).len := by rw [Sto.add_len]; exact Nat.lt_succ_self _
    generalize withAt m0 S1.len L = mA at XA hml
    generalize S1.add (.lst []) = SA at e XA hln
    generalize upd H0 L (.lst []) = HA at XA
    generalize S1.len = n at e hml hln
    refine ⟨fun i k H => ∃ m2 S2, Ext mA m2 SA S2 HA H ∧ ∃ d S', compL src n g ft fe (wipeE ρ vs) k i S2 = .ok d S' ∧ ∀ m' H' v, Ext m2 m' S2 S' H H' → RD m' S'.len H' d v → Q v H', ⟨_, mA, SA, Ext.refl XA.rel, d, S', e, fun m' H' v X' r' => q m' H' v (X0.trans (XA.trans X')) r'⟩, ?_⟩
    rintro i k H ⟨m2, S2, X2, d, S', e, q⟩
    have hm2 : m2 n = L := by rw [X2.ag n hln]; exact hml
    have X02 := X0.trans (XA.trans X2)
    have E2 := E.ext X02
    cases k with
    | zero => cases e
    | succ k =>
      simp only [compL] at e
      obtain ⟨ok1, ok2⟩ := OK m2 S2 H i (XA.trans X2)
      split at e
      · rename_i d0 hd
        obtain ⟨go, yl⟩ := ok1 d0 hd
        refine .inr ⟨go, fun H => ∃ m2 S2, Ext mA m2 SA S2 HA H ∧ ∃ d S', compL src n g ft fe (wipeE ρ vs) k (i + 1) S2 = .ok d S' ∧ ∀ m' H' v, Ext m2 m' S2 S' H H' → RD m' S'.len H' d v → Q v H', fun H' z => ⟨k, Nat.lt_succ_self k, z⟩, fun x H' y => ?_⟩
        obtain ⟨XY, rx⟩ := yl x H' y
        split at e
        · rename_i ρ1 S3 h3
          refine ⟨m2, S2, wipeE ρ vs, d0, ρ1, S3, XY.rel, (E2.ext XY).wipe vs, rx, h3, fun m3 H3 σ3 X3 E3 C3 => ⟨wipe_chg C3, ?_⟩⟩
          split at e
          · rename_i b S4 h4
            refine ⟨m3, S3, ρ1, b, S4, X3.rel, E3, h4, fun m4 H4 X4 => ?_⟩
            have X24 := XY.trans (X3.trans X4)
            cases b with
            | false =>
              dsimp only
              rw [if_neg Bool.false_ne_true]
              exact ⟨m4, S4, X2.trans X24, d, S', e, fun m' H' v X' r' => q m' H' v (X24.trans X') r'⟩
            | true =>
              dsimp only at e ⊢
              rw [if_pos rfl]
              split at e
              · rename_i y0 S5 h5
                refine ⟨m4, S4, ρ1, y0, S5, X4.rel, E3.ext X4, h5, fun m5 H5 v5 X5 r5 => ?_⟩
                split at e
                · rename_i acc ha
                  split at e
                  · rename_i hf
                    have X25 := X24.trans X5
                    have hm5 : m5 n = L := by rw [X25.ag n (Nat.lt_of_lt_of_le hln X2.len)]; exact hm2
                    obtain ⟨ws, hw1, hw2⟩ := X5.rel.obj _ _ ha
                    have X6 := goPut (ok := y0.blw 0) X5.rel ha hw1 (hw2.append (.one r5)) (fun z b hb => by rw [blws_append, hb]; simp only [D.blws, below_mono (Nat.zero_le b) _ z, Bool.and_self])
                    rw [hm5] at hw1 X6
                    refine ⟨ws, hw1, ?_, m5, _, X2.trans (X25.trans X6), d, S', e, fun m' H' v X' r' => q m' H' v (X25.trans (X6.trans X')) r'⟩
                    have := fits_le hf
                    rw [hw2.length] at this
                    omega
                  · cases e
                · cases e
              · cases e
          · cases e
        · cases e
      · rename_i hd
        cases e
        exact .inl ⟨ok2 hd, q m2 H _ (Ext.refl X2.rel) ⟨Nat.lt_of_lt_of_le hln X2.len, by rw [hm2]⟩⟩
      · cases e
variable {elt tg iter : Expr} {ifs : List Expr} {scope : Scope} {own : List (Str × Nat)} {pos : Pos} {fi : Iv} {g : Gv} {ft fe : Ev}
theorem pev_comp (hc : X.calm = true) (hN : X.N.Nodup) (hi : PI X tg iter (rdI fi)) (ok : BlkOk X.N X.env.scope scope own)
    (hg : ∀ (s : Shared) (H : Hp) (C : Addr) (cl : List (Str × Addr)) (fp : List Addr), PG (X.blk s H scope (compEnvC scope cl C X.env) fp) tg (rdG (own.map (·.2)) g)) (ht : ∀ (s : Shared) (H : Hp) (C : Addr) (cl : List (Str × Addr)) (fp : List Addr), PTs (X.blk s H scope (compEnvC scope cl C X.env) fp) ifs (rdT ft))
    (he : ∀ (s : Shared) (H : Hp) (C : Addr) (cl : List (Str × Addr)) (fp : List Addr), PE (X.blk s H scope (compEnvC scope cl C X.env) fp) elt (rdE fe)) (hs : ∀ x, foldedSetIterable iter X.env x = pure x) :
    PE X (.ListComp elt [⟨tg, iter, ifs, 0⟩] scope pos) (rdE (evComp fi (own.map (·.2)) g ft fe)) := PE.of (pe_lc hc hN hi ok hg ht he hs) fun _ _ _ h => rd_comp h
theorem psv_setComp {i : Nat} {y : Str} {py spos : Pos} (hc : X.calm = true) (hN : X.N.Nodup) (hy : X.N[i]? = some y) (hyl : X.env.scope.names.lookup y = some .local)
    (hsw : swapsWith (.ListComp elt [⟨tg, iter, ifs, 0⟩] scope pos) (some (.Name y py)) spos.line X.env = pure true) (hi : PI X tg iter (rdI fi)) (ok : BlkOk X.N X.env.scope scope own)
    (hg : ∀ (s : Shared) (H : Hp) (C : Addr) (cl : List (Str × Addr)) (fp : List Addr), PG (X.blk s H scope (compEnvC scope cl C X.env) fp) tg (rdG (own.map (·.2)) g)) (ht : ∀ (s : Shared) (H : Hp) (C : Addr) (cl : List (Str × Addr)) (fp : List Addr), PTs (X.blk s H scope (compEnvC scope cl C X.env) fp) ifs (rdT ft))
    (he : ∀ (s : Shared) (H : Hp) (C : Addr) (cl : List (Str × Addr)) (fp : List Addr), PE (X.blk s H scope (compEnvC scope cl C X.env) fp) elt (rdE fe)) (hs : ∀ x, foldedSetIterable iter X.env x = pure x) :
    PS X (.Assign [.Name y py] (.ListComp elt [⟨tg, iter, ifs, 0⟩] scope pos) spos) (rdS (svAsg (evComp fi (own.map (·.2)) g ft fe) (gvName i))) := PS.of (ps_setLc hc hN hy hyl hsw hi ok hg ht he hs) fun D σ H h => by
  obtain ⟨m, S, ρ, d, S1, R, E, h1, q⟩ := rd_asg (sl := [i]) h
  have h2 : rdE (evComp fi (own.map (·.2)) g ft fe) σ H (fun x H1 => gName i x σ H1 D.nx) := ⟨m, S, ρ, d, S1, R, E, h1, fun m1 H1 v1 X1 r1 => by
    obtain ⟨m2, S2, ρ2, d2, ρ', S', R2, E2, r2, e2, q2⟩ := q m1 H1 v1 X1 r1
    cases e2
    exact q2 m2 H1 _ (Ext.refl R2) (E2.set i r2) (Chg.set (List.mem_singleton.mpr rfl) _)⟩
  exact rd_comp h2
end
end Sw

/-! Eng11: calls of defs. -/
namespace Sw
open PySem PySem.Spec PyProof.Rows L2
section
variable {m : Nat → Addr} {H : Hp}
mutual
theorem RD.cut {k k' : Nat} : ∀ (d : D) (v : V), RD m k H d v → d.blw k' = true → RD m k' H d v
  | .non, _, h, _ => h
  | .bl _, _, h, _ => h
  | .int _, _, h, _ => h
  | .str _, _, h, _ => h
  | .tup ds, v, h, b => by
    obtain ⟨a, vs, h1, h2, h3⟩ := h
    simp only [D.blw] at b
    exact ⟨a, vs, h1, h2, RDs.cutk ds vs h3 b⟩
  | .ref n, v, h, b => by
    simp only [D.blw] at b
    exact ⟨Nat.le_of_ble_eq_true b, h.2⟩
theorem RDs.cutk {k k' : Nat} : ∀ (ds : List D) (vs : List V), RDs m k H ds vs → D.blws k' ds = true → RDs m k' H ds vs
  | [], _, h, _ => h
  | d :: ds, vs, h, b => by
    obtain ⟨v, r, h1, h2, h3⟩ := h
    simp only [D.blws, Bool.and_eq_true] at b
    exact ⟨v, r, h1, RD.cut d v h2 b.1, RDs.cutk ds r h3 b.2⟩
end
theorem RKv.cutk {κ : Type} {kd : κ → D} {k k' : Nat} : ∀ (kvs : List (D × D)) (ps : List (κ × V)), RKv m k H kd kvs ps → pairsBelow k' kvs = true → RKv m k' H kd kvs ps
  | [], _, h, _ => h
  | (a, d) :: r, ps, h, b => by
    obtain ⟨q, v, ps', h1, h2, h3, h4⟩ := h
    simp only [pairsBelow, Bool.and_eq_true] at b
    exact ⟨q, v, ps', h1, h2, RD.cut d v h3 b.1.2, RKv.cutk r ps' h4 b.2⟩
theorem OOk.cutk {k k' : Nat} {a : Addr} {o : O} (h : OOk m k H a o) (b : o.blw k' = true) : OOk m k' H a o := by
  cases o with
  | lst xs => obtain ⟨vs, h1, h2⟩ := h; exact ⟨vs, h1, RDs.cutk _ _ h2 b⟩
  | frz xs => obtain ⟨vs, o, h1, h2⟩ := h; exact ⟨vs, o, h1, RDs.cutk _ _ h2 b⟩
  | dct kvs => obtain ⟨vs, h1, h2⟩ := h; exact ⟨vs, h1, RKv.cutk _ _ h2 b⟩
  | dctT kvs => obtain ⟨vs, h1, h2⟩ := h; exact ⟨vs, h1, RKv.cutk _ _ h2 b⟩
  | set xs => exact h
end
abbrev Fn := List D → Sto → Res D
/-- the state at a def's entry -/
def Sto.enter (S : Sto) : Sto := ⟨S.objs, S.len :: S.bs, S.dirty⟩
/-- behind a def's end: what it made and nobody can reach is forgotten -/
def ret (S : Sto) (d : D) (S' : Sto) : Res D := match S'.dirty with
  | true => .ok d ⟨S'.objs, S.bs, true⟩
  | false => match d.blw S.len with
    | true => .ok d ⟨S'.objs.take S.len, S.bs, false⟩
    | false => match d with
      | .ref n => match S'.objs[n]? with
        | some o => match o.blw S.len with
          | true => .ok (.ref S.len) ⟨S'.objs.take S.len ++ [o], S.bs, false⟩
          | false => .ok d ⟨S'.objs, S.bs, false⟩
        | none => .bad
      | d => .ok d ⟨S'.objs, S.bs, false⟩
theorem Rel.enter {m : Nat → Addr} {S : Sto} {H : Hp} (R : Rel m S H) : Rel m S.enter H := by
  refine ⟨R.obj, R.inj, fun hd b hb n o hn e => ?_, fun b hb => ?_, fun b hb => ?_⟩
  · rcases List.mem_cons.mp hb with rfl | hb
    · exact (R.obj n o e).below
    · exact R.low hd b hb n o hn e
  · rcases List.mem_cons.mp hb with rfl | hb
    · exact Nat.le_refl _
    · exact R.lens b hb
  · rcases List.mem_cons.mp hb with rfl | hb
    · exact Nat.le_refl _
    · exact R.lens b hb
/-- behind a def's end -/
theorem ret_ok {m m' : Nat → Addr} {S S' S2 : Sto} {H H' : Hp} {d d2 : D} {v : V} (R : Rel m S H) (X : Ext m m' S.enter S' H H') (r : RD m' S'.len H' d v) (e : ret S d S' = .ok d2 S2) : ∃ m2, Ext m m2 S S2 H H' ∧ RD m2 S2.len H' d2 v := by
  have hlen : S.len ≤ S'.len := X.len
  have hbs : S'.bs = S.len :: S.bs := X.bs
  have big : ∀ db, (db = true ∨ S'.dirty = false) → Ext m m' S ⟨S'.objs, S.bs, db⟩ H H' := fun db hdb => by
    refine ⟨hlen, X.ag, X.keep, rfl, ⟨X.rel.obj, X.rel.inj, fun hd b hb n o hn e => ?_, R.top, fun b hb => Nat.le_trans (R.lens b hb) hlen⟩⟩
    have hd : db = false := hd
    rcases hdb with z | z
    · rw [z] at hd; cases hd
    · exact X.rel.low z b (by rw [hbs]; exact List.mem_cons_of_mem _ hb) n o hn e
  unfold ret at e
  split at e
  · cases e
    exact ⟨m', big true (.inl rfl), r⟩
  · rename_i hd
    have low : ∀ n o, n < S.len → S'.objs[n]? = some o → o.blw S.len = true := fun n o hn e => X.rel.low hd S.len (by rw [hbs]; exact List.mem_cons_self) n o hn e
    have tk : ∀ n o, (S'.objs.take S.len)[n]? = some o → n < S.len ∧ S'.objs[n]? = some o := fun n o e => by
      rw [List.getElem?_take] at e
      split at e
      · exact ⟨by assumption, e⟩
      · cases e
    have tl : (S'.objs.take S.len).length = S.len := by rw [List.length_take]; exact Nat.min_eq_left hlen
    split at e
    · rename_i hb
      cases e
      have l2 : (⟨S'.objs.take S.len, S.bs, false⟩ : Sto).len = S.len := tl
      refine ⟨m', ⟨by rw [l2]; exact Nat.le_refl _, X.ag, X.keep, rfl, ⟨fun n o e => ?_, fun i j hi hj e => ?_, fun _ b hbm n o hn e => ?_, R.top, fun b hb => by rw [l2]; exact R.lens b hb⟩⟩, ?_⟩
      · obtain ⟨h1, h2⟩ := tk n o e
        rw [l2]
        exact (X.rel.obj n o h2).cutk (low n o h1 h2)
      · rw [l2] at hi hj
        exact X.rel.inj i j (Nat.lt_of_lt_of_le hi hlen) (Nat.lt_of_lt_of_le hj hlen) e
      · obtain ⟨h1, h2⟩ := tk n o e
        exact X.rel.low hd b (by rw [hbs]; exact List.mem_cons_of_mem _ hbm) n o hn h2
      · rw [l2]; exact RD.cut _ _ r hb
    · rename_i hb
      split at e
      · rename_i n
        split at e
        · rename_i o ho
          split at e
          · rename_i hbo
            cases e
            have hn : S.len ≤ n := by
              by_cases z : n < S.len
              · simp only [D.blw] at hb
                rw [show Nat.blt n S.len = true from Nat.ble_eq_true_of_le z] at hb
                cases hb
              · omega
            have hnl : n < S'.len := (List.getElem?_eq_some_iff.mp ho).1
            have l2 : (⟨S'.objs.take S.len ++ [o], S.bs, false⟩ : Sto).len = S.len + 1 := by show (S'.objs.take S.len ++ [o]).length = _; rw [List.length_append, tl]; rfl
            have ag2 : ∀ i, i < S.len → withAt m' S.len (m' n) i = m' i := fun i hi => withAt_ne _ _ _ (Nat.ne_of_lt hi)
            have gt : ∀ i o', (S'.objs.take S.len ++ [o])[i]? = some o' → (i < S.len ∧ S'.objs[i]? = some o') ∨ (i = S.len ∧ o' = o) := fun i o' e => by
              by_cases hi : i < S.len
              · rw [List.getElem?_append_left (by rw [tl]; exact hi)] at e
                exact .inl (tk i o' e)
              · rw [List.getElem?_append_right (by rw [tl]; omega), tl] at e
                have hi2 : i - S.len = 0 := by
                  have := (List.getElem?_eq_some_iff.mp e).1
                  simp at this
                  omega
                rw [hi2] at e
                exact .inr ⟨by omega, by simpa using e.symm⟩
            refine ⟨withAt m' S.len (m' n), ⟨by rw [l2]; exact Nat.le_succ _, fun i hi => (ag2 i hi).trans (X.ag i hi), X.keep, rfl, ⟨fun i o' e => ?_, fun i j hi hj e => ?_, fun _ b hbm i o' hi e => ?_, R.top, fun b hb => by rw [l2]; exact Nat.le_succ_of_le (R.lens b hb)⟩⟩, ?_⟩
            · rw [l2]
              rcases gt i o' e with ⟨h1, h2⟩ | ⟨rfl, rfl⟩
              · rw [ag2 i h1]
                exact ((X.rel.obj i o' h2).cutk (low i o' h1 h2)).mono' (Nat.le_succ _) ag2 (Keep.refl _) rfl
              · rw [withAt_same]
                exact ((X.rel.obj n _ ho).cutk hbo).mono' (Nat.le_succ _) ag2 (Keep.refl _) rfl
            · rw [l2] at hi hj
              by_cases h1 : i < S.len
              · by_cases h2 : j < S.len
                · rw [ag2 i h1, ag2 j h2] at e
                  exact X.rel.inj i j (Nat.lt_of_lt_of_le h1 hlen) (Nat.lt_of_lt_of_le h2 hlen) e
                · have : j = S.len := by omega
                  subst this
                  rw [ag2 i h1, withAt_same] at e
                  have := X.rel.inj i n (Nat.lt_of_lt_of_le h1 hlen) hnl e
                  omega
              · have : i = S.len := by omega
                subst this
                by_cases h2 : j < S.len
                · rw [ag2 j h2, withAt_same] at e
                  have := X.rel.inj n j hnl (Nat.lt_of_lt_of_le h2 hlen) e
                  omega
                · omega
            · have hi' : i < S.len := Nat.lt_of_lt_of_le hi (R.lens b hbm)
              rcases gt i o' e with ⟨h1, h2⟩ | ⟨h1, _⟩
              · exact X.rel.low hd b (by rw [hbs]; exact List.mem_cons_of_mem _ hbm) i o' hi h2
              · omega
            · exact ⟨by rw [l2]; exact Nat.lt_succ_self _, by rw [withAt_same]; exact r.2⟩
          · cases e
            exact ⟨m', big false (.inr hd), r⟩
        · cases e
      · cases e
        exact ⟨m', big false (.inr hd), r⟩

/-! ### a def -/
def fnSem (n ar : Nat) (f : Sv) : Fn := fun ds S => match Nat.beq ds.length ar with
  | true => match f (ds.map some ++ List.replicate (n - ar) none) S.enter with
    | .nx _ S' => ret S .non S'
    | .rt d S' => ret S d S'
    | _ => .bad
  | false => .bad
/-- the promise of a def -/
def spF (ar : Nat) (f : Fn) : Sp := fun vs H Q _ => vs.length = ar ∧ rdN f vs H Q
theorem fn_len {n ar : Nat} {f : Sv} {ds : List D} {S S' : Sto} {d : D} (h : fnSem n ar f ds S = .ok d S') : ds.length = ar := by
  unfold fnSem at h
  split at h
  · rename_i hl; exact Nat.eq_of_beq_eq_true hl
  · cases h
theorem rd_fn {n ar : Nat} {f : Sv} {N : List Str} {vs : List V} {H : Hp} {Q : VK} (hN : N.length = n) (h : rdN (fnSem n ar f) vs H Q) : rdS f { nx := fun _ H' => Q .non H', rt := Q } (L2.start N vs) H := by
  obtain ⟨m, S, ds, d, S2, R, r, e, q⟩ := h
  have hl := fn_len e
  have E : REnv m S.enter.len H (ds.map some ++ List.replicate (n - ar) none) (L2.start N vs) := by
    refine ⟨by simp [L2.start, hN, ← r.length, hl], fun i d0 h0 => ?_⟩
    by_cases hi : i < ds.length
    · rw [List.getElem?_append_left (by simpa using hi)] at h0
      have h0' : ds[i]? = some d0 := by
        rw [List.getElem?_map] at h0
        cases e1 : ds[i]? with
        | none => rw [e1] at h0; cases h0
        | some d1 => rw [e1] at h0; simp at h0; rw [h0]
      obtain ⟨v, h1, h2⟩ := r.get h0'
      refine ⟨v, ?_, h2⟩
      unfold L2.start
      rw [List.getElem?_append_left (by rw [List.length_map, ← r.length]; exact hi), List.getElem?_map, h1]
      rfl
    · rw [List.getElem?_append_right (by simpa using hi)] at h0
      rw [List.getElem?_replicate] at h0
      split at h0 <;> cases h0
  refine ⟨m, S.enter, _, R.enter, E, ?_⟩
  unfold fnSem at e
  rw [show Nat.beq ds.length ar = true by rw [hl]; exact Nat.beq_refl ar] at e
  dsimp only at e
  split at e
  · rename_i ρ' S' h1
    rw [h1]
    intro m' H' σ' X' E'
    obtain ⟨m2, X2, r2⟩ := ret_ok (d := .non) (v := .non) R X' rfl e
    exact q m2 H' _ X2 r2
  · rename_i d0 S' h1
    rw [h1]
    intro m' H' v X' r'
    obtain ⟨m2, X2, r2⟩ := ret_ok R X' r' e
    exact q m2 H' _ X2 r2
  · cases e
section
variable {X : Cx} {k : Nat} {f : Addr} {fd : FuncData} {ps : List Str} {x : Str} {p pos : Pos} {e : Expr} {es : List Expr} {g : EvA} {fn : Fn} {ar : Nat}
/-- a def as others see it -/
structure Def (P : Program) (w : World) (K : Frg) (mg : Str → Option Value) (base : Heap) (k : Nat) (x : Str) (ar : Nat) (fn : Fn) : Prop where
  ex : ∃ (f : Addr) (fd : FuncData) (ps : List Str), FnOk P w K mg base CX0 k f fd ps (spF ar fn) ∧ mg x = some (.ref f) ∧ PySem.W.keepIn K (.ref f) = true ∧ Binds K fd ps []
  len : ∀ ds S d S', fn ds S = .ok d S' → ds.length = ar
theorem pev_call (F : Def X.prog X.w X.K X.mg X.base k x ar fn) (hr : Room k X.A) (hg : Gl X x) (ha : PA X (e :: es) (rdA g)) (hdb : (x == ("__debug__" : Str)) = false)
    (he : starEach (e :: es) X.env = (false, eval e X.env) :: starEach es X.env) (hpl : (backTo pos (starEach es X.env)).any (·.1) = false) : PE X (.Call (.Name x p) (e :: es) [] pos) (rdE (evN fn g)) := by
  obtain ⟨f, fd, ps, F1, hm, hk, hb⟩ := F.ex
  refine PE.of (pe_call (E := E0) F1 hr hg hm hk hb .nil pass0 ha hdb he hpl) fun σ H Q h => ?_
  obtain ⟨m, S, ρ, d, S', R, E, e, q⟩ := rdN_seq h
  refine ⟨m, S, ρ, d, S', R, E, e, fun m1 H1 v1 X1 r1 => ?_⟩
  show spF ar fn (v1 ++ []) H1 Q E0
  rw [List.append_nil]
  have h2 := q m1 H1 v1 X1 r1
  obtain ⟨m2, S2, ds, d2, S3, R2, r2, e2, q2⟩ := id h2
  exact ⟨by rw [← r2.length]; exact F.len _ _ _ _ e2, h2⟩
theorem pev_call0 (F : Def X.prog X.w X.K X.mg X.base k x ar fn) (hr : Room k X.A) (hg : Gl X x) (hdb : (x == ("__debug__" : Str)) = false) : PE X (.Call (.Name x p) [] [] pos) (rdE (evN fn evNil)) := by
  obtain ⟨f, fd, ps, F1, hm, hk, hb⟩ := F.ex
  refine PE.of (pe_call0 (E := E0) F1 hr hg hm hk hb .nil pass0 hdb) fun σ H Q h => ?_
  obtain ⟨m, S, ρ, d, S', R, E, e, q⟩ := rdN_seq h
  cases e
  have h2 := q m H [] (Ext.refl R) rfl
  obtain ⟨m2, S2, ds, d2, S3, R2, r2, e2, q2⟩ := id h2
  exact ⟨by show ([] : List V).length = ar; rw [← r2.length]; exact F.len _ _ _ _ e2, h2⟩
end
end Sw

/-! Eng12: op=, d[k] = v, methods as expressions, facts of the syntax. -/
namespace Sw
open PySem PySem.Spec PyProof.Rows L2
section
variable {X : Cx} {e o a b i v : Expr} {es : List Expr} {f fe fo fi fv : Ev} {g : EvA} {pos pos' apos cpos : Pos} {x : Str}
/-! ### x op= e -/
def svAug (i : Nat) (g : D → D → Sto → Res D) (fe : Ev) : Sv := fun ρ S => match ρ[i]? with
  | some (some x) => match fe ρ S with
    | .ok y S1 => match g x y S1 with
      | .ok z S2 => .nx (ρ.set i (some z)) S2
      | .bad => .bad
    | .bad => .bad
  | _ => .bad
theorem psv_aug {k : Nat} {op : Operator} {gg : D → D → Sto → Res D} (hN : X.N.Nodup) (hi : X.N[k]? = some x) (hx : Loc X.env.scope x) (he : PE X e (rdE fe)) (ho : OpR X (inplaceOp op) (rd2 gg)) (hf : X.fn x = true ∨ X.env.scope.names.lookup x = some .local) :
    PS X (.AugAssign (.Name x pos') op e pos) (rdS (svAug k gg fe)) := PS.of (ps_aug (ti := rd2 gg) hN hi hx he ho hf) fun D σ H h => by
  obtain ⟨m, S, ρ, R, E, q⟩ := h
  unfold svAug at q
  split at q
  · rename_i d hd
    obtain ⟨w, h1, h2⟩ := E.get _ _ hd
    refine ⟨w, h1, ?_⟩
    split at q
    · rename_i y S1 he1
      split at q
      · rename_i z S2 hg1
        exact ⟨m, S, ρ, y, S1, R, E, he1, fun m1 H1 v1 X1 r1 => ⟨m1, S1, d, y, z, S2, X1.rel, h2.ext X1, r1, hg1, fun m2 H2 v2 X2 r2 => q m2 H2 _ (X1.trans X2) ((E.ext (X1.trans X2)).set k r2)⟩⟩
      · exact q.elim
    · exact q.elim
  · exact q.elim
def iaddD : D → D → Sto → Res D
  | .int i, .int j, S => .ok (.int (i + j)) S
  | .ref n, .ref k, S => match S.objs[n]?, S.objs[k]? with
    | some (.lst xs), some (.lst ys) => match fits (xs.length + ys.length) with
      | true => .ok (.ref n) (S.put n (.lst (xs ++ ys)) (D.blws 0 ys))
      | false => .bad
    | _, _ => .bad
  | _, _, _ => .bad
theorem opv_iadd : OpR X (inplaceOp .Add) (rd2 iaddD) := OpR.of (OpR.or iop_add iop_ext) fun x y H Q h => by
  obtain ⟨m, S, d1, d2, d, S', R, r1, r2, e, q⟩ := h
  unfold iaddD at e
  split at e
  · cases e; exact .inl ⟨_, _, r1, r2, rdPure R q rfl⟩
  · rename_i n k
    split at e
    · rename_i xs ys h1 h2
      split at e
      · rename_i hs
        cases e
        obtain ⟨vs, a1, q1⟩ := R.obj _ _ h1
        obtain ⟨ws, a2, q2⟩ := R.obj _ _ h2
        have X1 := goPut (ok := D.blws 0 ys) R h1 a1 (q1.append q2) (fun z b hb => by rw [blws_append, hb, belows_mono (Nat.zero_le b) _ z]; rfl)
        refine .inr ⟨_, _, vs, ws, r1.2, r2.2, a1, a2, ?_, q m _ _ X1 (by rw [Sto.put_len]; exact ⟨r1.1, rfl⟩)⟩
        rw [← q1.length, ← q2.length]; exact fits_le hs
      · cases e
    · cases e
  · cases e
def isubD : D → D → Sto → Res D
  | .int i, .int j, S => .ok (.int (i - j)) S
  | _, _, _ => .bad
theorem opv_isub : OpR X (inplaceOp .Sub) (rd2 isubD) := OpR.of iop_sub fun x y H Q h => by
  obtain ⟨m, S, d1, d2, d, S', R, r1, r2, e, q⟩ := h
  unfold isubD at e
  split at e
  · cases e; exact ⟨_, _, r1, r2, rdPure R q rfl⟩
  · cases e

/-! ### d[k] = v -/
def Sto.dput (S : Sto) (n : Nat) (k v : D) : Option Sto := match S.objs[n]? with
  | some (.dct kvs) => match keyOf k with
    | some q => match fits (kvs.length + 1) with
      | true => some (S.put n (.dct (dPut keyOf kvs q k v)) (v.blw 0))
      | false => none
    | none => none
  | some (.dctT kvs) => match tkeyOf k with
    | some q => match fits (kvs.length + 1) with
      | true => some (S.put n (.dctT (dPut tkeyOf kvs q k v)) (v.blw 0))
      | false => none
    | none => none
  | _ => none
theorem pairs_append {k : Nat} : ∀ {xs ys : List (D × D)}, pairsBelow k (xs ++ ys) = (pairsBelow k xs && pairsBelow k ys)
  | [], ys => by simp [pairsBelow]
  | (a, b) :: xs, ys => by simp only [List.cons_append, pairsBelow, pairs_append (xs := xs), Bool.and_assoc]
theorem dRep_below {κ : Type} [DecidableEq κ] {ko : D → Option κ} {q : κ} {v : D} {k : Nat} (hv : v.blw k = true) : ∀ {kvs : List (D × D)}, pairsBelow k kvs = true → pairsBelow k (dRep ko q v kvs) = true
  | [], h => h
  | (a, d) :: r, h => by
    simp only [pairsBelow, Bool.and_eq_true] at h
    have ih := dRep_below (ko := ko) (q := q) hv h.2
    simp only [dRep]
    split
    · split
      · simp only [pairsBelow, Bool.and_eq_true]; exact ⟨⟨h.1.1, hv⟩, ih⟩
      · simp only [pairsBelow, Bool.and_eq_true]; exact ⟨h.1, ih⟩
    · simp only [pairsBelow, Bool.and_eq_true]; exact ⟨h.1, ih⟩
theorem dPut_below {κ : Type} [DecidableEq κ] {ko : D → Option κ} {q : κ} {kd v : D} {k : Nat} {kvs : List (D × D)} (hv : v.blw k = true) (hk : kd.blw k = true) (h : pairsBelow k kvs = true) : pairsBelow k (dPut ko kvs q kd v) = true := by
  unfold dPut
  split
  · exact dRep_below hv h
  · rw [pairs_append, h]; simp only [pairsBelow, hv, hk, Bool.and_self]
theorem dput_ok {m : Nat → Addr} {S S' : Sto} {H : Hp} {n : Nat} {k v : D} {kv vv : V} (R : Rel m S H) (hk : RD m S.len H k kv) (hv : RD m S.len H v vv) (h : S.dput n k v = some S') : ∃ H', DPut H (m n) kv vv H' ∧ Ext m m S S' H H' := by
  unfold Sto.dput at h
  cases e : S.objs[n]? with
  | none => rw [e] at h; cases h
  | some ob =>
    rw [e] at h
    have q := R.obj n ob e
    cases ob with
    | lst _ => cases h
    | frz _ => cases h
    | set _ => cases h
    | dct kvs =>
      obtain ⟨ps, h1, h2⟩ := q
      dsimp only at h
      cases ek : keyOf k with
      | none => rw [ek] at h; cases h
      | some q =>
        rw [ek] at h
        dsimp only at h
        split at h
        · rename_i hf
          cases h
          have hkd := keyOf_ok ek
          subst hkd
          rw [RD.kD hk]
          have hl : ps.length < sizeLine := by have := fits_le hf; rw [h2.length] at this; omega
          have kp : Keep H (upd H (m n) (.dK (putK ps q vv))) := ⟨fun a zs e => (by
            rw [upd_ne]
            · exact e
            · rintro rfl; rw [h1] at e; cases e), fun a o' u e => (by
            rw [upd_ne]
            · exact e
            · rintro rfl; rw [h1] at e; cases e)⟩
          exact ⟨_, DPut.k h1 hl, Ext.put R e h1 True.intro ⟨_, upd_same, RKv.mono' (Nat.le_refl _) (fun _ _ => rfl) kp _ _ (dPut_ok keyOf_kD h2 hv)⟩ fun z b hb => dPut_below (below_mono (Nat.zero_le b) _ z) (kD_below _ _) hb⟩
        · cases h
    | dctT kvs =>
      obtain ⟨ps, h1, h2⟩ := q
      dsimp only at h
      cases ek : tkeyOf k with
      | none => rw [ek] at h; cases h
      | some q =>
        rw [ek] at h
        dsimp only at h
        split at h
        · rename_i hf
          cases h
          have hkd := tkeyOf_ok ek
          subst hkd
          obtain ⟨b, rfl, hb⟩ := RD.kT hk
          have hl : ps.length < sizeLine := by have := fits_le hf; rw [h2.length] at this; omega
          have kp : Keep H (upd H (m n) (.dT (putK ps q vv))) := ⟨fun a zs e => (by
            rw [upd_ne]
            · exact e
            · rintro rfl; rw [h1] at e; cases e), fun a o' u e => (by
            rw [upd_ne]
            · exact e
            · rintro rfl; rw [h1] at e; cases e)⟩
          exact ⟨_, DPut.t h1 hb hl, Ext.put R e h1 True.intro ⟨_, upd_same, RKv.mono' (Nat.le_refl _) (fun _ _ => rfl) kp _ _ (dPut_ok tkeyOf_kT h2 hv)⟩ fun z b hb => dPut_below (below_mono (Nat.zero_le b) _ z) (kT_below _ _) hb⟩
        · cases h
def svPut (fo fi fv : Ev) : Sv := fun ρ S => match fv ρ S with
  | .ok v S1 => match fo ρ S1 with
    | .ok (.ref n) S2 => match fi ρ S2 with
      | .ok k S3 => match S3.dput n k v with
        | some S4 => .nx ρ S4
        | none => .bad
      | .bad => .bad
    | _ => .bad
  | .bad => .bad
theorem psv_put (hu : X.A.units + 1 < cLine) (ho : PE X o (rdE fo)) (hi : PE X i (rdE fi)) (hv : PE X v (rdE fv)) (hs : swapsWith v (some (.Subscript o i pos')) pos.line X.env = pure false) :
    PS X (.Assign [.Subscript o i pos'] v pos) (rdS (svPut fo fi fv)) := PS.of (ps_dput hu ho hi hv hs) fun D σ H h => by
  obtain ⟨m, S, ρ, R, E, q⟩ := h
  unfold svPut at q
  split at q
  · rename_i d S1 h1
    split at q
    · rename_i n S2 h2
      split at q
      · rename_i k S3 h3
        split at q
        · rename_i S4 h4
          refine ⟨m, S, ρ, d, S1, R, E, h1, fun m1 H1 v1 X1 r1 => ⟨m1, S1, ρ, _, S2, X1.rel, E.ext X1, h2, fun m2 H2 v2 X2 r2 => ⟨m2, S2, ρ, k, S3, X2.rel, E.ext (X1.trans X2), h3, fun m3 H3 v3 X3 r3 => ?_⟩⟩⟩
          obtain ⟨H4, g4, X4⟩ := dput_ok X3.rel r3 (r1.ext (X2.trans X3)) h4
          have r2' := RD.ext r2 X3
          rw [r2'.2]
          exact ⟨m3 n, H4, rfl, g4, q m3 H4 σ (X1.trans (X2.trans (X3.trans X4))) (E.ext (X1.trans (X2.trans (X3.trans X4))))⟩
        · exact q.elim
      · exact q.elim
    · exact q.elim
  · exact q.elim

/-! ### methods -/
theorem pev_bm {k : O → Bool} {T id : String} {name : Str} {gm : Nat → List D → Sto → Res D} (pa : PlainAttrs T) (slot : Slot T name id) (hty : typeOf (.builtin id) = pure (.type "method_descriptor")) (hm : MtR X id (rdM gm)) (hT : ∀ m S H n ob, Rel m S H → S.objs[n]? = some ob → k ob = true → tyV X.K T (.ref (m n)) H) (ho : PE X o (rdE fo)) (ha : PA X (e :: es) (rdA g))
    (hbase : attributeBase o name X.env (eval o X.env) = eval o X.env)
    (hfew : ((backTo cpos (starEach (e :: es) X.env)).all (fun x => !x.1) && (backToKw cpos (keywordEach [] X.env)).all (fun x => x.1.isSome)
      && decide ((e :: es).length + ([] : List Keyword).length + (if ([] : List Keyword).isEmpty then 0 else 1) < 30)) = true)
    (hline : (apos.endLine == cpos.line) = true) (hs : starEach (e :: es) X.env = (false, eval e X.env) :: starEach es X.env) (hplain : (backTo cpos (starEach es X.env)).any (·.1) = false) :
    PE X (.Call (.Attribute o name apos) (e :: es) [] cpos) (rdE (evM k gm fo g)) := PE.of (pe_bm pa slot hty hm ho ha hbase hfew hline hs hplain) fun _ _ _ h => rdM_seq hT h
theorem pev_bm0 {k : O → Bool} {T id : String} {name : Str} {gm : Nat → List D → Sto → Res D} (pa : PlainAttrs T) (slot : Slot T name id) (hty : typeOf (.builtin id) = pure (.type "method_descriptor")) (hm : MtR X id (rdM gm)) (hT : ∀ m S H n ob, Rel m S H → S.objs[n]? = some ob → k ob = true → tyV X.K T (.ref (m n)) H) (ho : PE X o (rdE fo))
    (hbase : attributeBase o name X.env (eval o X.env) = eval o X.env) (hline : (apos.endLine == cpos.line) = true) :
    PE X (.Call (.Attribute o name apos) [] [] cpos) (rdE (evM k gm fo evNil)) := PE.of (pe_bm0 pa slot hty hm ho hbase hline) fun σ H Q h => by
  obtain ⟨m, S, ρ, d, S', R, E, e, q⟩ := rdM_seq hT h
  refine ⟨m, S, ρ, d, S', R, E, e, fun m1 H1 v1 X1 r1 => ?_⟩
  obtain ⟨t, m2, S2, ρ2, d2, S3, R2, E2, e2, q2⟩ := q m1 H1 v1 X1 r1
  cases e2
  exact ⟨t, q2 m2 H1 [] (Ext.refl R2) rfl⟩
/-- d.get(k) -/
def getM (n : Nat) : List D → Sto → Res D
  | [k], S => match S.get? n k with
    | some (some d) => .ok d S
    | some none => .ok .non S
    | none => .bad
  | [k, z], S => match S.get? n k with
    | some (some d) => .ok d S
    | some none => .ok z S
    | none => .bad
  | _, _ => .bad
theorem isD_dct {m : Nat → Addr} {S : Sto} {H : Hp} {n : Nat} {ob : O} (R : Rel m S H) (h : S.objs[n]? = some ob) (k : isDct ob = true) : IsD H (m n) := by
  have q := R.obj n ob h
  cases ob with
  | lst xs => cases k
  | frz xs => cases k
  | set xs => cases k
  | dct kvs => obtain ⟨ps, h1, _⟩ := q; exact .inl ⟨ps, .inl h1⟩
  | dctT kvs => obtain ⟨ps, h1, _⟩ := q; exact .inr ⟨ps, .inl h1⟩
theorem pev_get1 (hu : X.A.units + 1 < cLine) (ho : PE X o (rdE fo)) (he : PE X e (rdE fe)) (mm : M1 X o "get" apos e cpos) : PE X (.Call (.Attribute o "get" apos) [e] [] cpos) (rdE (evM isDct getM fo (evCons fe evNil))) := PE.of (pe_dget1 hu ho he mm) fun σ H Q h => by
  obtain ⟨m, S, ρ, d, S', R, E, e, q⟩ := h
  obtain ⟨n, S1, ob, xs, S2, h1, h2, h3, h4, h5⟩ := evM_ok e
  refine ⟨m, S, ρ, _, S1, R, E, h1, fun m1 H1 v1 X1 r1 => ⟨m1 n, r1.2, isD_dct X1.rel h2 h3, ?_⟩⟩
  unfold evCons at h4
  split at h4
  · rename_i y S3 h6
    cases h4
    refine ⟨m1, S1, ρ, y, _, X1.rel, E.ext X1, h6, fun m2 H2 v2 X2 r2 => ?_⟩
    simp only [getM] at h5
    split at h5
    · rename_i d0 hd
      cases h5
      obtain ⟨w, g, g1, _⟩ := X2.rel.get r2 hd
      obtain ⟨z, rfl, hz⟩ := g1 _ rfl
      rw [X2.ag n r1.1] at g
      exact ⟨_, g, q m2 H2 _ (X1.trans X2) hz⟩
    · rename_i hd
      cases h5
      obtain ⟨w, g, _, g2⟩ := X2.rel.get r2 hd
      rw [g2 rfl] at g
      rw [X2.ag n r1.1] at g
      exact ⟨_, g, q m2 H2 _ (X1.trans X2) rfl⟩
    · cases h5
  · cases h4

/-! ### facts of the syntax -/
def noStar : Expr → Bool
  | .Starred _ _ => false
  | _ => true
theorem star_cons {env : Env} (h : noStar e = true) : starEach (e :: es) env = (false, eval e env) :: starEach es env := by
  cases e <;> first | rfl | cases h
theorem star_plain {env : Env} : ∀ {es : List Expr}, es.all noStar = true → (backTo pos (starEach es env)).any (·.1) = false
  | [], _ => rfl
  | e :: es, h => by
    simp only [List.all_cons, Bool.and_eq_true] at h
    rw [star_cons h.1]
    have ih := star_plain (env := env) h.2
    unfold backTo at ih ⊢
    rw [List.map_cons, List.any_cons, ih]
    rfl
theorem star_few {env : Env} : ∀ {es : List Expr}, es.all noStar = true → (backTo pos (starEach es env)).all (fun x => !x.1) = true
  | [], _ => rfl
  | e :: es, h => by
    simp only [List.all_cons, Bool.and_eq_true] at h
    rw [star_cons h.1]
    have ih := star_few (env := env) h.2
    unfold backTo at ih ⊢
    rw [List.map_cons, List.all_cons, ih]
    rfl
def noSlice : Expr → Bool
  | .Slice _ _ _ _ => false
  | _ => true
theorem plainIx_of (h : noSlice e = true) : PlainIx e := by
  intro o i
  cases e <;> first | rfl | cases h
def noSuper : Expr → Bool
  | .Call (.Name _ _) [] [] _ => false
  | _ => true
theorem base_of {env : Env} {w : Sem Value} (h : noSuper e = true) : attributeBase e x env w = w := by
  unfold attributeBase
  split
  · cases h
  · rfl
def noSet : Expr → Bool
  | .Set _ _ _ => false
  | _ => true
theorem behind_of {op : CmpOp} (h : noSet e = true) : behindInMarks op e = false := by
  cases e <;> first | rfl | cases h
theorem last_of {op op' : CmpOp} (h : noSet b = true) : lastMarks [op, op'] [a, b] = false := by
  show behindInMarks op' b = false
  exact behind_of h
theorem folded_of {env : Env} (h : noSet e = true) : ∀ y, foldedSetIterable e env y = pure y := by
  intro y
  cases e <;> first | rfl | cases h
/-- its test is its value's truth -/
def plainT : Expr → Bool
  | .UnaryOp .Not _ _ => false
  | .BoolOp _ _ _ => false
  | .IfExp _ _ _ _ => false
  | .Compare _ _ _ _ => false
  | _ => true
theorem true_of {env : Env} (h : plainT e = true) : ∀ whole, isTrue e env whole = (do let v ← whole; standAt e.pos; holding [v] (truthy v)) := by
  intro whole
  cases e with
  | UnaryOp op x p => cases op <;> first | rfl | cases h
  | BoolOp => cases h
  | IfExp => cases h
  | Compare => cases h
  | _ => rfl
def noComp : Expr → Bool
  | .ListComp _ _ _ _ => false
  | .SetComp _ _ _ _ => false
  | .DictComp _ _ _ _ _ => false
  | _ => true
theorem swap_of {t : Option Expr} {l : Nat} {env : Env} (h : noComp e = true) : swapsWith e t l env = pure false := by
  cases e <;> first | rfl | cases h
theorem swap_sub {o i : Expr} {l : Nat} {env : Env} : swapsWith e (some (.Subscript o i pos)) l env = pure false := by
  cases e <;> rfl
def noTup : Expr → Bool
  | .Tuple _ _ _ => false
  | _ => true
theorem sws_of {tg : Expr} {env : Env} (h : noTup e = true) : swappedStores [tg] e env = pure none := by
  unfold swappedStores
  cases e <;> first | (cases tg <;> rfl) | cases h
end
end Sw

/-! Eng12b: comprehensions of two loops, orders of tuples, sorted, repetition, sets that are only counted. -/
namespace Sw
open PySem PySem.Spec PyProof.Rows L2
/-- the inner turns -/
def comp1L (src : Src) (n : Nat) (g : Gv) (ft fe : Ev) (ρ : En) : Nat → Nat → Sto → Res Unit
  | 0, _, _ => .bad
  | k + 1, i, S => match src.next S i with
    | some (some d) => match g d ρ S with
      | .ok ρ1 S1 => match ft ρ1 S1 with
        | .ok (.bl b) S2 => match b with
          | true => match fe ρ1 S2 with
            | .ok y S3 => match S3.objs[n]? with
              | some (.lst acc) => match fits (acc.length + 1) with
                | true => comp1L src n g ft fe ρ k (i + 1) (S3.put n (.lst (acc ++ [y])) (y.blw 0))
                | false => .bad
              | _ => .bad
            | .bad => .bad
          | false => comp1L src n g ft fe ρ k (i + 1) S2
        | _ => .bad
      | .bad => .bad
    | some none => .ok () S
    | none => .bad
/-- the outer turns -/
def comp2L (src : Src) (n : Nat) (g : Gv) (ft : Ev) (fi1 : Iv) (vs1 : List Nat) (g1 : Gv) (ft1 fe : Ev) (ρ : En) : Nat → Nat → Sto → Res D
  | 0, _, _ => .bad
  | k + 1, i, S => match src.next S i with
    | some (some d) => match g d ρ S with
      | .ok ρ1 S1 => match ft ρ1 S1 with
        | .ok (.bl b) S2 => match b with
          | true => match fi1 ρ1 S2 with
            | .ok src1 S3 => match comp1L src1 n g1 ft1 fe (wipeE ρ1 vs1) (src1.turns S3 + 1) 0 S3 with
              | .ok _ S4 => comp2L src n g ft fi1 vs1 g1 ft1 fe ρ k (i + 1) S4
              | .bad => .bad
            | .bad => .bad
          | false => comp2L src n g ft fi1 vs1 g1 ft1 fe ρ k (i + 1) S2
        | _ => .bad
      | .bad => .bad
    | some none => .ok (.ref n) S
    | none => .bad
def evComp2 (fi : Iv) (vs : List Nat) (g : Gv) (ft : Ev) (fi1 : Iv) (vs1 : List Nat) (g1 : Gv) (ft1 fe : Ev) : Ev := fun ρ S => match fi ρ S with
  | .ok src S1 => comp2L src S1.len g ft fi1 vs1 g1 ft1 fe (wipeE ρ vs) (src.turns S1 + 1) 0 (S1.add (.lst []))
  | .bad => .bad
/-- {k: v}, k a tuple -/
def evDisp (fk fv : Ev) : Ev := fun ρ S => match fk ρ (S.add (.dctT [])) with
  | .ok k S1 => match fv ρ S1 with
    | .ok v S2 => match S2.objs[S.len]? with
      | some (.dctT []) => match S2.dput S.len k v with
        | some S3 => .ok (.ref S.len) S3
        | none => .bad
      | _ => .bad
    | .bad => .bad
  | .bad => .bad
/-- list(enumerate(x)) -/
def enumPairs : Nat → List D → List D
  | _, [] => []
  | i, d :: r => .tup [.int (i : Nat), d] :: enumPairs (i + 1) r
def lenumN : List D → Sto → Res D
  | [.tup xs], S => match fits xs.length with
    | true => newL S (enumPairs 0 xs)
    | false => .bad
  | _, _ => .bad
/-- an order of two data -/
def ord? (S : Sto) (x y : D) : Option (PyData × PyData) := match res S x with
  | some p => match res S y with
    | some q => match PySem.W.alike p q && Nat.ble p.depth 60 with
      | true => some (p, q)
      | false => none
    | none => none
  | none => none
/-- < > <= >= -/
def cmpD (pi : Int → Int → Bool) (pd : PyData → PyData → Bool) : D → D → Sto → Res D
  | .int i, .int j, S => .ok (.bl (pi i j)) S
  | .tup xs, .tup ys, S => match ord? S (.tup xs) (.tup ys) with
    | some (p, q) => .ok (.bl (pd p q)) S
    | none => .bad
  | _, _, _ => .bad
def ltD := cmpD (fun i j => decide (i < j)) PySem.W.dataLt
def gtD := cmpD (fun i j => decide (j < i)) fun p q => PySem.W.dataLt q p
def leD := cmpD (fun i j => decide (i ≤ j)) fun p q => !PySem.W.dataLt q p
def geD := cmpD (fun i j => decide (j ≤ i)) fun p q => !PySem.W.dataLt p q
def insD (x : PyData × D) : List (PyData × D) → List (PyData × D)
  | [] => [x]
  | y :: r => match PySem.W.dataLt y.1 x.1 with
    | true => y :: insD x r
    | false => x :: y :: r
def sortL : List (PyData × D) → List (PyData × D)
  | [] => []
  | x :: r => insD x (sortL r)
def resPairs (S : Sto) : List D → Option (List (PyData × D))
  | [] => some []
  | d :: r => match res S d with
    | some p => match resPairs S r with
      | some ps => some ((p, d) :: ps)
      | none => none
    | none => none
def isTupP : PyData → Bool
  | .tuple (_ :: _) => true
  | _ => false
def isFlatP : PyData → Bool
  | .int _ => true
  | .str _ => true
  | _ => false
def sortOk (ps : List (PyData × D)) : Bool := (ps.all fun p => ps.all fun q => PySem.W.alike p.1 q.1) && ((ps.all fun p => isTupP p.1) || ps.all fun p => isFlatP p.1) && (ps.all fun p => Nat.ble p.1.depth 60) && fits ps.length
def sortedN : List D → Sto → Res D
  | [.ref n], S => match S.list? n with
    | some xs => match resPairs S xs with
      | some ps => match sortOk ps with
        | true => newL S ((sortL ps).map (·.2))
        | false => .bad
      | none => .bad
    | none => .bad
  | _, _ => .bad
def repL (xs : List D) : Nat → List D
  | 0 => []
  | n + 1 => xs ++ repL xs n
def mulD2 : D → D → Sto → Res D
  | .tup (x :: xs), .int j, S => match decide (2 ≤ j) && decide (j ≤ 1000) && Nat.ble (xs.length + 1) 1000 with
    | true => .ok (.tup (repL (x :: xs) j.toNat)) S
    | false => .bad
  | x, y, S => mulD x y S
/-- the turns of a set's comprehension, the set of whole numbers has the number n -/
def scL (src : Src) (n : Nat) (g : Gv) (ft fe : Ev) (ρ : En) : Nat → Nat → Sto → Res D
  | 0, _, _ => .bad
  | k + 1, i, S => match src.next S i with
    | some (some d) => match g d ρ S with
      | .ok ρ1 S1 => match ft ρ1 S1 with
        | .ok (.bl b) S2 => match b with
          | true => match fe ρ1 S2 with
            | .ok (.int y) S3 => match S3.objs[n]? with
              | some (.set acc) => match Nat.ble (acc.length + 2) scanBound with
                | true => scL src n g ft fe ρ k (i + 1) (S3.put n (.set (match acc.contains y with | true => acc | false => y :: acc)) true)
                | false => .bad
              | _ => .bad
            | _ => .bad
          | false => scL src n g ft fe ρ k (i + 1) S2
        | _ => .bad
      | .bad => .bad
    | some none => .ok (.ref n) S
    | none => .bad
def evSc (fi : Iv) (vs : List Nat) (g : Gv) (ft fe : Ev) : Ev := fun ρ S => match fi ρ S with
  | .ok src S1 => scL src S1.len g ft fe (wipeE ρ vs) (src.turns S1 + 1) 0 (S1.add (.set []))
  | .bad => .bad
def lenSN : List D → Sto → Res D
  | [.ref n], S => match S.objs[n]? with
    | some (.set xs) => match Nat.ble (xs.length + 1) scanBound with
      | true => .ok (.int (xs.length : Nat)) S
      | false => .bad
    | _ => .bad
  | _, _ => .bad
end Sw

/-! Eng12c: orders of tuples, repetition, comprehensions of two loops: right. -/
namespace Sw
open PySem PySem.Spec PyProof.Rows L2
section
variable {X : Cx}
theorem ord_wit {pins : List (Addr × Obj)} {s : Shared} {σ : L2.St} {m : Nat → Addr} {S : Sto} {H : Hp} (I : Inv X pins σ H s) (R : Rel m S H) {x y : D} {xv yv : V} {u w : Value} {p q : PyData} (hx : RD m S.len H x xv) (hy : RD m S.len H y yv) (rx : RelV xv u) (ry : RelV yv w) (e : ord? S x y = some (p, q)) :
    res S x = some p ∧ ∃ as bs, Reads s.heap u p as ∧ Reads s.heap w q bs ∧ PySem.W.alike p q = true ∧ p.depth ≤ 60 := by
  unfold ord? at e
  split at e
  · rename_i p' hp
    split at e
    · rename_i q' hq
      split at e
      · rename_i hd
        cases e
        obtain ⟨h1, h2⟩ := Bool.and_eq_true_iff.mp hd
        obtain ⟨d1, p1⟩ := res_dp R hx hp
        obtain ⟨d2, p2⟩ := res_dp R hy hq
        obtain ⟨as, r1⟩ := Dp.reads I p xv u d1 rx
        obtain ⟨bs, r2⟩ := Dp.reads I q yv w d2 ry
        exact ⟨hp, as, bs, r1, r2, h1, Nat.le_of_ble_eq_true h2⟩
      · cases e
    · cases e
  · cases e
theorem res_tup {S : Sto} {xs : List D} {p : PyData} (e : res S (.tup xs) = some p) : p ≠ .none := by
  intro z
  subst z
  unfold res at e
  simp only [resW] at e
  split at e <;> cases e
theorem opv_ord {op : CmpOp} {pi : Int → Int → Bool} {pd : PyData → PyData → Bool} (hi : OpR X (compareOp op) (rI0 fun i j => .bl (pi i j)))
    (hd : ∀ {s : Shared} {a b : Value} {da db : PyData} {as bs : List Addr} {Q : Value → Shared → Prop}, Reads s.heap a da as → Reads s.heap b db bs → PySem.W.alike da db = true → da ≠ .none → X.A.units + min da.depth db.depth < cLine → Q (.bool (pd da db)) s → wpAny (model X.prog X.w) X.A (compareOp op a b) Q X.xe s)
    (hu : X.A.units + 64 < cLine) : OpR X (compareOp op) (rd2 (cmpD pi pd)) := by
  intro pins s σ H x y v u Q I rx ry h
  obtain ⟨m, S, d1, d2, d, S', R, r1, r2, e, q⟩ := h
  unfold cmpD at e
  split at e
  · cases e
    exact hi pins s σ H x y v u Q I rx ry ⟨_, _, r1, r2, rdPure R q rfl⟩
  · split at e
    · rename_i p' q' ho
      cases e
      obtain ⟨hr, as, bs, a1, a2, a3, a4⟩ := ord_wit I R r1 r2 rx ry ho
      refine hd a1 a2 a3 (res_tup hr) (by have := Nat.min_le_left p'.depth q'.depth; omega) ?_
      exact ⟨.bl _, H, I, rfl, rdPure R q rfl⟩
    · cases e
  · cases e
theorem repL_eq (xs : List D) : ∀ n, repL xs n = (List.replicate n xs).flatten
  | 0 => rfl
  | n + 1 => by unfold repL; rw [repL_eq xs n, List.replicate_succ, List.flatten_cons]
theorem RDs.rep {m : Nat → Addr} {k : Nat} {H : Hp} {xs : List D} {vs : List V} (h : RDs m k H xs vs) : ∀ n, RDs m k H (repL xs n) (List.replicate n vs).flatten
  | 0 => rfl
  | n + 1 => by
    unfold repL
    rw [List.replicate_succ, List.flatten_cons]
    exact h.append (RDs.rep h n)
theorem opv_mul2 : OpR X (binaryOp .Mult) (rd2 mulD2) := fun pins s σ H x y v u Q I rx ry h => by
  obtain ⟨m, S, d1, d2, d, S', R, r1, r2, e, q⟩ := h
  unfold mulD2 at e
  split at e
  · rename_i x0 xs j
    split at e
    · rename_i hb
      cases e
      simp only [Bool.and_eq_true, decide_eq_true_eq] at hb
      obtain ⟨a, vs, rfl, ha, qs⟩ := r1
      have hl : vs.length = xs.length + 1 := by rw [← qs.length]; rfl
      have h3 := Nat.le_of_ble_eq_true hb.2
      refine op_repT pins s σ H _ _ v u Q I rx ry ⟨a, j, vs, rfl, r2, .of ha, (by intro z; rw [z] at hl; cases hl), hb.1.1, hb.1.2, by omega, ?_⟩
      exact goTup R (RDs.rep qs j.toNat) q
    · cases e
  · exact opv_mul pins s σ H x y v u Q I rx ry ⟨m, S, _, _, d, S', R, r1, r2, e, q⟩
/-- the inner turns, as they are read -/
theorem rd_in {src : Src} {n : Nat} {g : Gv} {ft fe : Ev} {ρ1 : En} {vs1 : List Nat} {σ2 : L2.St} {H4 : Hp} {L : Addr} {J1 : It} {Nx : Hp → Prop} {m3 : Nat → Addr} {S3 S4 : Sto} {K : Nat}
    (hml : m3 n = L) (hln : n < S3.len) (E3 : REnv m3 S3.len H4 ρ1 σ2) (R3 : Rel m3 S3 H4) (OK : ItOk m3 S3 H4 src J1)
    (e : comp1L src n g ft fe (wipeE ρ1 vs1) K 0 S3 = .ok () S4) (q : ∀ m' H', Ext m3 m' S3 S4 H4 H' → Nx H') :
    ∃ W1 : Nat → Nat → Hp → Prop, (∃ m, W1 0 m H4) ∧ ∀ j k H, W1 j k H →
      (J1.stop j H ∧ Nx H) ∨ (J1.go j H ∧ ∃ Nx1 : Hp → Prop, (∀ H', Nx1 H' → ∃ k', k' < k ∧ W1 (j + 1) k' H') ∧ ∀ x H', J1.yld j H x H' → rdG vs1 g x (wipe σ2 vs1) H' fun σ3 H5 => wipe σ3 vs1 = wipe σ2 vs1 ∧ rdT ft σ3 H5 fun b H6 =>
        if b = true then rdE fe σ3 H6 fun y H7 => ∃ acc, H7 L = some (.lst acc) ∧ acc.length < sizeLine ∧ Nx1 (upd H7 L (.lst (acc ++ [y]))) else Nx1 H6) := by
  refine ⟨fun i k H => ∃ m2 S2, Ext m3 m2 S3 S2 H4 H ∧ ∃ S', comp1L src n g ft fe (wipeE ρ1 vs1) k i S2 = .ok () S' ∧ ∀ m' H', Ext m2 m' S2 S' H H' → Nx H', ⟨K, m3, S3, Ext.refl R3, S4, e, fun m' H' X' => q m' H' X'⟩, ?_⟩
  rintro i k H ⟨m2, S2, X2, S', e, q⟩
  have hm2 : m2 n = L := by rw [X2.ag n hln]; exact hml
  have E2 := E3.ext X2
  cases k with
  | zero => cases e
  | succ k =>
    simp only [comp1L] at e
    obtain ⟨ok1, ok2⟩ := OK m2 S2 H i X2
    split at e
    · rename_i d0 hd
      obtain ⟨go, yl⟩ := ok1 d0 hd
      refine .inr ⟨go, fun H => ∃ m2 S2, Ext m3 m2 S3 S2 H4 H ∧ ∃ S', comp1L src n g ft fe (wipeE ρ1 vs1) k (i + 1) S2 = .ok () S' ∧ ∀ m' H', Ext m2 m' S2 S' H H' → Nx H', fun H' z => ⟨k, Nat.lt_succ_self k, z⟩, fun x H' y => ?_⟩
      obtain ⟨XY, rx⟩ := yl x H' y
      split at e
      · rename_i ρ2 S5 h3
        refine ⟨m2, S2, wipeE ρ1 vs1, d0, ρ2, S5, XY.rel, (E2.ext XY).wipe vs1, rx, h3, fun m5 H5 σ5 X5 E5 C5 => ⟨wipe_chg C5, ?_⟩⟩
        split at e
        · rename_i b S6 h4
          refine ⟨m5, S5, ρ2, b, S6, X5.rel, E5, h4, fun m6 H6 X6 => ?_⟩
          have X26 := XY.trans (X5.trans X6)
          cases b with
          | false =>
            dsimp only
            rw [if_neg Bool.false_ne_true]
            exact ⟨m6, S6, X2.trans X26, S', e, fun m' H' X' => q m' H' (X26.trans X')⟩
          | true =>
            dsimp only at e ⊢
            rw [if_pos rfl]
            split at e
            · rename_i y0 S7 h5
              refine ⟨m6, S6, ρ2, y0, S7, X6.rel, E5.ext X6, h5, fun m7 H7 v7 X7 r7 => ?_⟩
              split at e
              · rename_i acc ha
                split at e
                · rename_i hf
                  have X27 := X26.trans X7
                  have hm7 : m7 n = L := by rw [X27.ag n (Nat.lt_of_lt_of_le hln X2.len)]; exact hm2
                  obtain ⟨ws, hw1, hw2⟩ := X7.rel.obj _ _ ha
                  have X8 := goPut (ok := y0.blw 0) X7.rel ha hw1 (hw2.append (.one r7)) (fun z b hb => by rw [blws_append, hb]; simp only [D.blws, below_mono (Nat.zero_le b) _ z, Bool.and_self])
                  rw [hm7] at hw1 X8
                  refine ⟨ws, hw1, ?_, m7, _, X2.trans (X27.trans X8), S', e, fun m' H' X' => q m' H' (X27.trans (X8.trans X'))⟩
                  have := fits_le hf
                  rw [hw2.length] at this
                  omega
                · cases e
              · cases e
            · cases e
        · cases e
      · cases e
    · rename_i hd
      cases e
      exact .inl ⟨ok2 hd, q m2 H (Ext.refl X2.rel)⟩
    · cases e
theorem rd_comp2 {fi fi1 : Iv} {vs vs1 : List Nat} {g g1 : Gv} {ft ft1 fe : Ev} {σ : L2.St} {H : Hp} {Q : VK} (h : rdE (evComp2 fi vs g ft fi1 vs1 g1 ft1 fe) σ H Q) : tLc2 (rdI fi) (rdG vs g) (rdT ft) (rdI fi1) (rdG vs1 g1) (rdT ft1) (rdE fe) vs vs1 σ H Q := by
  obtain ⟨m, S, ρ, d, S', R, E, e, q⟩ := h
  unfold evComp2 at e
  cases h0 : fi ρ S with
  | bad => rw [h0] at e; cases e
  | ok src S1 =>
    rw [h0] at e
    dsimp only at e
    refine ⟨m, S, ρ, src, S1, R, E, h0, fun m0 H0 J X0 OK L hL => ?_⟩
    have XA : Ext m0 (withAt m0 S1.len L) S1 (S1.add (.lst [])) H0 (upd H0 L (.lst [])) := Ext.add X0.rel hL ⟨[], upd_same, rfl⟩
    have hml : withAt m0 S1.len L S1.len = L := withAt_same ..
    have hln : S1.len < (S1.add (.lst [])).len := by rw [Sto.add_len]; exact Nat.lt_succ_self _
    generalize withAt m0 S1.len L = mA at XA hml
    generalize S1.add (.lst []) = SA at e XA hln
    generalize upd H0 L (.lst []) = HA at XA
    generalize S1.len = n at e hml hln
    refine ⟨fun i k H => ∃ m2 S2, Ext mA m2 SA S2 HA H ∧ ∃ d S', comp2L src n g ft fi1 vs1 g1 ft1 fe (wipeE ρ vs) k i S2 = .ok d S' ∧ ∀ m' H' v, Ext m2 m' S2 S' H H' → RD m' S'.len H' d v → Q v H', ⟨_, mA, SA, Ext.refl XA.rel, d, S', e, fun m' H' v X' r' => q m' H' v (X0.trans (XA.trans X')) r'⟩, ?_⟩
    rintro i k H ⟨m2, S2, X2, d, S', e, q⟩
    have hm2 : m2 n = L := by rw [X2.ag n hln]; exact hml
    have X02 := X0.trans (XA.trans X2)
    have E2 := E.ext X02
    cases k with
    | zero => cases e
    | succ k =>
      simp only [comp2L] at e
      obtain ⟨ok1, ok2⟩ := OK m2 S2 H i (XA.trans X2)
      split at e
      · rename_i d0 hd
        obtain ⟨go, yl⟩ := ok1 d0 hd
        refine .inr ⟨go, fun H => ∃ m2 S2, Ext mA m2 SA S2 HA H ∧ ∃ d S', comp2L src n g ft fi1 vs1 g1 ft1 fe (wipeE ρ vs) k (i + 1) S2 = .ok d S' ∧ ∀ m' H' v, Ext m2 m' S2 S' H H' → RD m' S'.len H' d v → Q v H', fun H' z => ⟨k, Nat.lt_succ_self k, z⟩, fun x H' y => ?_⟩
        obtain ⟨XY, rx⟩ := yl x H' y
        split at e
        · rename_i ρ1 S3 h3
          refine ⟨m2, S2, wipeE ρ vs, d0, ρ1, S3, XY.rel, (E2.ext XY).wipe vs, rx, h3, fun m3 H3 σ3 X3 E3 C3 => ⟨wipe_chg C3, ?_⟩⟩
          split at e
          · rename_i b S4 h4
            refine ⟨m3, S3, ρ1, b, S4, X3.rel, E3, h4, fun m4 H4 X4 => ?_⟩
            have X24 := XY.trans (X3.trans X4)
            cases b with
            | false =>
              dsimp only
              rw [if_neg Bool.false_ne_true]
              exact ⟨m4, S4, X2.trans X24, d, S', e, fun m' H' v X' r' => q m' H' v (X24.trans X') r'⟩
            | true =>
              dsimp only at e ⊢
              rw [if_pos rfl]
              split at e
              · rename_i src1 S5 h5
                refine ⟨m4, S4, ρ1, src1, S5, X4.rel, E3.ext X4, h5, fun m5 H5 J1 X5 OK1 => ?_⟩
                split at e
                · rename_i u S6 h6
                  have X25 := X24.trans X5
                  have hm5 : m5 n = L := by rw [X25.ag n (Nat.lt_of_lt_of_le hln X2.len)]; exact hm2
                  refine rd_in hm5 (Nat.lt_of_lt_of_le hln (Nat.le_trans X2.len X25.len)) ((E3.ext X4).ext X5) X5.rel OK1 h6 fun m' H' X6 => ?_
                  exact ⟨m', S6, X2.trans (X25.trans X6), d, S', e, fun m'' H'' v X' r' => q m'' H'' v (X25.trans (X6.trans X')) r'⟩
                · cases e
              · cases e
          · cases e
        · cases e
      · rename_i hd
        cases e
        exact .inl ⟨ok2 hd, q m2 H _ (Ext.refl X2.rel) ⟨Nat.lt_of_lt_of_le hln X2.len, by rw [hm2]⟩⟩
      · cases e
variable {elt tg iter tg1 iter1 : Expr} {ifs ifs1 : List Expr} {scope : Scope} {own : List (Str × Nat)} {vs1 : List Nat} {pos : Pos} {fi fi1 : Iv} {g g1 : Gv} {ft ft1 fe : Ev}
theorem pev_comp2 (hc : X.calm = true) (hN : X.N.Nodup) (hi : PI X tg iter (rdI fi)) (ok : BlkOk X.N X.env.scope scope own) (hv : ∀ i ∈ vs1, i ∈ own.map (·.2))
    (hg : ∀ (s : Shared) (H : Hp) (C : Addr) (cl : List (Str × Addr)) (fp : List Addr), PG (X.blk s H scope (compEnvC scope cl C X.env) fp) tg (rdG (own.map (·.2)) g)) (ht : ∀ (s : Shared) (H : Hp) (C : Addr) (cl : List (Str × Addr)) (fp : List Addr), PTs (X.blk s H scope (compEnvC scope cl C X.env) fp) ifs (rdT ft))
    (hi1 : ∀ (s : Shared) (H : Hp) (C : Addr) (cl : List (Str × Addr)) (fp : List Addr), PI (X.blk s H scope (compEnvC scope cl C X.env) fp) tg1 iter1 (rdI fi1))
    (hg1 : ∀ (s : Shared) (H : Hp) (C : Addr) (cl : List (Str × Addr)) (fp : List Addr), PG (X.blk s H scope (compEnvC scope cl C X.env) fp) tg1 (rdG vs1 g1)) (ht1 : ∀ (s : Shared) (H : Hp) (C : Addr) (cl : List (Str × Addr)) (fp : List Addr), PTs (X.blk s H scope (compEnvC scope cl C X.env) fp) ifs1 (rdT ft1))
    (he : ∀ (s : Shared) (H : Hp) (C : Addr) (cl : List (Str × Addr)) (fp : List Addr), PE (X.blk s H scope (compEnvC scope cl C X.env) fp) elt (rdE fe)) (hs : ∀ x, foldedSetIterable iter X.env x = pure x) (hs1 : ∀ env x, foldedSetIterable iter1 env x = pure x) :
    PE X (.ListComp elt [⟨tg, iter, ifs, 0⟩, ⟨tg1, iter1, ifs1, 0⟩] scope pos) (rdE (evComp2 fi (own.map (·.2)) g ft fi1 vs1 g1 ft1 fe)) := PE.of (pe_lc2 hc hN hi ok hv hg ht hi1 hg1 ht1 he hs hs1) fun _ _ _ h => rd_comp2 h
theorem psv_setComp2 {i : Nat} {y : Str} {py spos : Pos} (hc : X.calm = true) (hN : X.N.Nodup) (hy : X.N[i]? = some y) (hyl : X.env.scope.names.lookup y = some .local)
    (hsw : swapsWith (.ListComp elt [⟨tg, iter, ifs, 0⟩, ⟨tg1, iter1, ifs1, 0⟩] scope pos) (some (.Name y py)) spos.line X.env = pure true) (hi : PI X tg iter (rdI fi)) (ok : BlkOk X.N X.env.scope scope own) (hv : ∀ i ∈ vs1, i ∈ own.map (·.2))
    (hg : ∀ (s : Shared) (H : Hp) (C : Addr) (cl : List (Str × Addr)) (fp : List Addr), PG (X.blk s H scope (compEnvC scope cl C X.env) fp) tg (rdG (own.map (·.2)) g)) (ht : ∀ (s : Shared) (H : Hp) (C : Addr) (cl : List (Str × Addr)) (fp : List Addr), PTs (X.blk s H scope (compEnvC scope cl C X.env) fp) ifs (rdT ft))
    (hi1 : ∀ (s : Shared) (H : Hp) (C : Addr) (cl : List (Str × Addr)) (fp : List Addr), PI (X.blk s H scope (compEnvC scope cl C X.env) fp) tg1 iter1 (rdI fi1))
    (hg1 : ∀ (s : Shared) (H : Hp) (C : Addr) (cl : List (Str × Addr)) (fp : List Addr), PG (X.blk s H scope (compEnvC scope cl C X.env) fp) tg1 (rdG vs1 g1)) (ht1 : ∀ (s : Shared) (H : Hp) (C : Addr) (cl : List (Str × Addr)) (fp : List Addr), PTs (X.blk s H scope (compEnvC scope cl C X.env) fp) ifs1 (rdT ft1))
    (he : ∀ (s : Shared) (H : Hp) (C : Addr) (cl : List (Str × Addr)) (fp : List Addr), PE (X.blk s H scope (compEnvC scope cl C X.env) fp) elt (rdE fe)) (hs : ∀ x, foldedSetIterable iter X.env x = pure x) (hs1 : ∀ env x, foldedSetIterable iter1 env x = pure x) :
    PS X (.Assign [.Name y py] (.ListComp elt [⟨tg, iter, ifs, 0⟩, ⟨tg1, iter1, ifs1, 0⟩] scope pos) spos) (rdS (svAsg (evComp2 fi (own.map (·.2)) g ft fi1 vs1 g1 ft1 fe) (gvName i))) := PS.of (ps_setLc2 hc hN hy hyl hsw hi ok hv hg ht hi1 hg1 ht1 he hs hs1) fun D σ H h => by
  obtain ⟨m, S, ρ, d, S1, R, E, h1, q⟩ := rd_asg (sl := [i]) h
  have h2 : rdE (evComp2 fi (own.map (·.2)) g ft fi1 vs1 g1 ft1 fe) σ H (fun x H1 => gName i x σ H1 D.nx) := ⟨m, S, ρ, d, S1, R, E, h1, fun m1 H1 v1 X1 r1 => by
    obtain ⟨m2, S2, ρ2, d2, ρ', S', R2, E2, r2, e2, q2⟩ := q m1 H1 v1 X1 r1
    cases e2
    exact q2 m2 H1 _ (Ext.refl R2) (E2.set i r2) (Chg.set (List.mem_singleton.mpr rfl) _)⟩
  exact rd_comp2 h2
end
end Sw

/-! Eng12d: sorted. -/
namespace Sw
open PySem PySem.Spec PyProof.Rows L2
abbrev leP : PyData × D → PyData × D → Bool := PySem.W.dataLe false fun b : PyData × D => b.1
theorem leP_eq (a b : PyData × D) : leP a b = !PySem.W.dataLt b.1 a.1 := rfl
theorem insD_eq {x : PyData × D} : ∀ {l₁ l₂ : List (PyData × D)}, (∀ b ∈ l₁, leP x b = false) → (∀ b ∈ l₂, leP x b = true) → insD x (l₁ ++ l₂) = l₁ ++ x :: l₂
  | [], [], _, _ => rfl
  | [], y :: r, _, h => by
    have h1 := h y List.mem_cons_self
    rw [leP_eq, Bool.not_eq_true'] at h1
    show insD x (y :: r) = _
    unfold insD
    rw [h1]
    rfl
  | y :: r, l₂, h, h2 => by
    have h1 := h y List.mem_cons_self
    rw [leP_eq, Bool.not_eq_false'] at h1
    show insD x (y :: (r ++ l₂)) = _
    unfold insD
    rw [h1]
    show y :: insD x (r ++ l₂) = _
    rw [insD_eq (fun b hb => h b (List.mem_cons_of_mem _ hb)) h2]
    rfl
theorem leP_tot : PySem.W.TotalLe leP := PySem.W.sortLe_total _ _ _
theorem sortL_eq : ∀ l : List (PyData × D), sortL l = l.mergeSort leP
  | [] => by simp [sortL]
  | x :: l => by
    have tr : ∀ a b c : PyData × D, leP a b = true → leP b c = true → leP a c = true := fun a b c => leP_tot.trans a b c
    have to : ∀ a b : PyData × D, (leP a b || leP b a) = true := fun a b => Bool.or_eq_true_iff.mpr (leP_tot.total a b)
    obtain ⟨l₁, l₂, h1, h2, h3⟩ := List.mergeSort_cons tr to x l
    unfold sortL
    rw [sortL_eq l, h1, h2]
    refine insD_eq (fun b hb => by have := h3 b hb; simpa using this) fun b hb => ?_
    have hs := List.pairwise_mergeSort tr to (x :: l)
    rw [h1] at hs
    have hs2 := (List.pairwise_append.mp hs).2.1
    exact (List.pairwise_cons.mp hs2).1 b hb
section
variable {X : Cx}
theorem resPairs_each {pins : List (Addr × Obj)} {s : Shared} {σ : L2.St} {m : Nat → Addr} {S : Sto} {H : Hp} (I : Inv X pins σ H s) (R : Rel m S H) : ∀ {xs : List D} {vs : List V} {us : List Value} {ps : List (PyData × D)}, RDs m S.len H xs vs → Vals vs us → resPairs S xs = some ps →
    PySem.W.EachIs (fun u b => ∃ v, RelV v u ∧ RD m S.len H b.2 v) us ps ∧ PySem.W.EachIs (fun u (b : PyData × D) => ∃ as, Reads s.heap u b.1 as) us ps
  | [], vs, us, ps, r, z, e => by
    cases (show vs = [] from r)
    cases z
    cases e
    exact ⟨.nil, .nil⟩
  | d :: xs, vs, us, ps, r, z, e => by
    obtain ⟨v, vs, rfl, r1, r2⟩ := r
    cases z with
    | cons z1 z2 =>
      unfold resPairs at e
      split at e
      · rename_i p hp
        split at e
        · rename_i ps' hps
          cases e
          obtain ⟨h1, h2⟩ := resPairs_each I R r2 z2 hps
          obtain ⟨d1, p1⟩ := res_dp R r1 hp
          obtain ⟨as, r3⟩ := Dp.reads I p v _ d1 z1
          exact ⟨.cons ⟨v, z1, r1⟩ h1, .cons ⟨as, r3⟩ h2⟩
        · cases e
      · cases e
theorem each_back {m : Nat → Addr} {k : Nat} {H : Hp} : ∀ {us : List Value} {ps : List (PyData × D)}, PySem.W.EachIs (fun u b => ∃ v, RelV v u ∧ RD m k H b.2 v) us ps → ∃ vs, Vals vs us ∧ RDs m k H (ps.map (·.2)) vs
  | _, _, .nil => ⟨[], .nil, rfl⟩
  | _, _, .cons ⟨v, h1, h2⟩ t => by
    obtain ⟨vs, h3, h4⟩ := each_back t
    exact ⟨v :: vs, .cons h1 h3, v, vs, rfl, h2, h4⟩
theorem sortOk_ok {ps : List (PyData × D)} (h : sortOk ps = true) : PySem.W.AllAlike (ps.map (·.1)) ∧ PySem.W.Sortable (ps.map (·.1)) ∧ (∀ b ∈ ps, b.1.depth ≤ 60) ∧ ps.length ≤ sizeLine := by
  unfold sortOk at h
  simp only [Bool.and_eq_true, Bool.or_eq_true] at h
  obtain ⟨⟨⟨h1, h2⟩, h3⟩, h4⟩ := h
  refine ⟨fun d hd d' hd' => ?_, ?_, fun b hb => Nat.le_of_ble_eq_true (List.all_eq_true.mp h3 b hb), fits_le h4⟩
  · obtain ⟨b, hb, rfl⟩ := List.mem_map.mp hd
    obtain ⟨b', hb', rfl⟩ := List.mem_map.mp hd'
    exact List.all_eq_true.mp (List.all_eq_true.mp h1 b hb) b' hb'
  · rcases h2 with h2 | h2
    · refine .inl fun d hd => ?_
      obtain ⟨b, hb, rfl⟩ := List.mem_map.mp hd
      have := List.all_eq_true.mp h2 b hb
      unfold isTupP at this
      split at this
      · rename_i x r e; exact ⟨x, r, e⟩
      · cases this
    · refine .inr fun d hd => ?_
      obtain ⟨b, hb, rfl⟩ := List.mem_map.mp hd
      have := List.all_eq_true.mp h2 b hb
      unfold isFlatP at this
      split at this
      · rename_i x e; rw [e]; exact ⟨by simp, by simp⟩
      · rename_i x e; rw [e]; exact ⟨by simp, by simp⟩
      · cases this
theorem crv_sorted (hu : X.A.units + 64 < cLine) : CallR X (.builtin "sorted") (rdN sortedN) := by
  intro pins s σ H xs us Q I r h
  obtain ⟨m, S, ds, d, S', R, rr, e, q⟩ := h
  unfold sortedN at e
  split at e
  · obtain ⟨v, rfl, hn, rfl⟩ := rr.one1
    split at e
    · rename_i ys hl
      split at e
      · rename_i ps hps
        split at e
        · rename_i hok
          cases e
          obtain ⟨vs, h1, h2, _⟩ := R.sqL (K := X.K) hl
          obtain ⟨its, rv, pl, hz⟩ := I.list h1
          rw [Vals.ref1 r]
          obtain ⟨e1, e2⟩ := resPairs_each I R h2 rv hps
          obtain ⟨o1, o2, o3, o4⟩ := sortOk_ok hok
          refine PySem.W.sorted_data (enc := fun b : PyData × D => b.1) pl.isList e1 e2 o1 o2 o4 (fun b hb => by have := o3 b hb; omega) fun out hlen ho => ?_
          rw [← sortL_eq ps] at ho
          obtain ⟨ws, w1, w2⟩ := each_back ho
          obtain ⟨ep, he'⟩ := PyProof.Rows.sortedAll_at s.heap its out.toArray
          have hl2 : ws.length ≤ sizeLine := by rw [w1.length, hlen]; exact o4
          exact ⟨.ref _, upd H (s.heap.objs.size + 1) (.lst ws), I.laid (t' := s.toks) (fun _ _ => PyProof.Rows.sortedAll_old) (Nat.le_succ _) ⟨hl2, out, ep, w1, he'⟩, rfl, goLst R w2 q _ (I.hok.fresh (Nat.le_succ _))⟩
        · cases e
      · cases e
    · cases e
  · cases e
end
end Sw

/-! Eng12e: comprehensions of sets of whole numbers; len of such a set. -/
namespace Sw
open PySem PySem.Spec PyProof.Rows L2
/-- what {elt for target in iter if ..} asks, elt a whole number; B the new set -/
def tSi (wi : TI) (g : TG) (tt : TT) (te : TE) (vs : List Nat) : TE := fun σ H Q => wi σ H fun J Ha => ∀ B, Ha B = none → ∃ W : Nat → Nat → Hp → Prop, (∃ m, W 0 m (upd Ha B (.set (fun _ => false) 0))) ∧ ∀ i m H, W i m H →
  (J.stop i H ∧ Q (.ref B) H) ∨ (J.go i H ∧ ∃ Nx : Hp → Prop, (∀ H', Nx H' → ∃ m', m' < m ∧ W (i + 1) m' H') ∧ ∀ x H', J.yld i H x H' → g x (wipe σ vs) H' fun τ Hb => wipe τ vs = wipe σ vs ∧ tt τ Hb fun b Hc =>
    if b = true then te τ Hc fun y Hd => ∃ (c : Int) (S : Int → Bool) (n : Nat), y = .int c ∧ Hd B = some (.set S n) ∧ n + 1 < scanBound ∧ Nx (upd Hd B (.set (fun j => S j || decide (j = c)) (if S c = true then n else n + 1))) else Nx Hc)
section
variable {X : Cx}
theorem set_add_run {pins : List (Addr × Obj)} {σ : L2.St} {H : Hp} {s : Shared} {E : Value → Shared → Prop} {B : Addr} {S : Int → Bool} {n : Nat} {c : Int} {t : Tok} {Q : Value → Shared → Prop} (I : Inv X pins σ H s) (hB : H B = some (.set S n)) (room : n + 1 < scanBound)
    (h : ∀ s', Inv X pins σ (upd H B (.set (fun j => S j || decide (j = c)) (if S c = true then n else n + 1))) s' → Q .none s') : wpAny (model X.prog X.w) X.A (call (.builtin "set.add") [.ref B, .int c t]) Q E s := by
  have R : s.heap.SetOf (intKind X.prog X.w) B S n := I.hok B _ hB
  refine call_set_add (knd := intKind X.prog X.w) (k := c) (by show Value.isInt c (.int c t) = true; simp [Value.isInt]) rfl R room fun h' sb new => ?_
  have live : ∃ u, h'.get? B = some u := by
    obtain ⟨o, _, _, _, ho, _⟩ := id new
    exact ⟨o, ho⟩
  exact h _ (I.write (e := B) (t' := s.toks + 1) (by rw [hB]; trivial) (.inl rfl) (fun b u hb hu => (sb.2 b hb).trans hu) live new)
theorem si_run {pins : List (Addr × Obj)} {s : Shared} {σ : L2.St} {H : Hp} {Q : VK} {elt tg iter : Expr} {ifs : List Expr} {scope : Scope} {own : List (Str × Nat)} {pos pos' : Pos} {wi : TI} {g : TG} {tt : TT} {te : TE} {Qf : Value → Shared → Prop}
    (calm : X.calm = true) (nd : X.N.Nodup) (I : Inv X pins σ H s) (hi : PI X tg iter wi) (bk : BlkOk X.N X.env.scope scope own)
    (hg : ∀ (s : Shared) (H : Hp) (C : Addr) (cl : List (Str × Addr)) (fp : List Addr), PG (X.blk s H scope (compEnvC scope cl C X.env) fp) tg g) (ht : ∀ (s : Shared) (H : Hp) (C : Addr) (cl : List (Str × Addr)) (fp : List Addr), PTs (X.blk s H scope (compEnvC scope cl C X.env) fp) ifs tt)
    (he : ∀ (s : Shared) (H : Hp) (C : Addr) (cl : List (Str × Addr)) (fp : List Addr), PE (X.blk s H scope (compEnvC scope cl C X.env) fp) elt te) (hs : ∀ x, foldedSetIterable iter X.env x = pure x)
    (h : tSi wi g tt te (own.map (·.2)) σ H Q)
    (fin : ∀ B C s' m H', Inv X pins σ H' s' → Q (.ref B) H' → s'.heap.Ns C m → FpOk X pins H' C → compPost (model X.prog X.w) X.A X.xe none Qf (.ref B) C (.ok .next) s') :
    wpAny (model X.prog X.w) X.A (comprehension (.SetComp elt [⟨tg, iter, ifs, 0⟩] scope pos) scope X.env pos' (newSet (.type "set")) false (eval iter X.env) none) Qf X.xe s := by
  have fr : ∀ y ∈ scope.names, y.2 = .free → ∃ c, X.env.cells.lookup y.1 = some c := fun y hy e => (bk.free y hy e).elim (fun k => I.ok.has _ (.inl k)) fun k => I.ok.has _ (.inr k)
  refine wpAny_comprehension_free (use := none) rfl hs (closure_ok fr) bk.kind (fun y hy e => by rw [bk.uniq y hy, e]) (thn (hi.run pins s σ H _ I h) fun xv sa hx => thn hx fun itv sb hb => ?_)
  obtain ⟨it, fp, tn, J, Ha, e, Ia, T, sta, fa, q⟩ := hb
  subst e
  refine PpSet.newSet_ok (newEnv_comp ?_)
  generalize hBe : sb.heap.objs.size = B
  have hBn : Ha B = none := Ia.hok.fresh (Nat.le_of_eq hBe)
  obtain ⟨W, ⟨m0, w0⟩, turn⟩ := q B hBn
  generalize hsc : ({ sb with heap := sb.heap.push { cls := .type "set", dict := none, data := .set #[] 0 (.fresh 0 0 (!X.w.params.followText "set-order")) } } : Shared) = sc
  have hc : sc.heap = sb.heap.push { cls := .type "set", dict := none, data := .set #[] 0 (.fresh 0 0 (!X.w.params.followText "set-order")) } := by rw [← hsc]
  have Ic : Inv X pins σ (upd Ha B (.set (fun _ => false) 0)) sc := by
    rw [← hsc]
    refine Ia.laid (t' := sb.toks) (fun b o e => Heap.get?_push_of_some _ e) (Nat.le_of_eq hBe) ?_
    rw [← hBe]
    exact PyProof.Rows.setObjOf_fresh (knd := intKind X.prog X.w) _ |>.setOf (Heap.get?_push_size _ rfl) (by decide)
  have small : ∀ b ∈ fp, b < sb.heap.objs.size := fun b hb => by
    obtain ⟨o, e, _⟩ := T.obj _ _ sta b hb
    exact Heap.lt_size e
  have fc : ∀ b ∈ fp, FpOk X pins (upd Ha B (.set (fun _ => false) 0)) b ∧ b < sc.heap.objs.size := fun b hb => by
    have lt := small b hb
    refine ⟨⟨?_, (fa b hb).2⟩, by rw [hc, Heap.size_push]; exact Nat.lt_succ_of_lt lt⟩
    rw [upd_ne (by rw [← hBe]; exact Nat.ne_of_lt lt)]
    exact (fa b hb).1
  have stc : tn 0 sc.heap := T.keep _ _ _ sta fun b _ o e => by rw [hc]; exact Heap.get?_push_of_some _ e
  have Id := block_start Ic bk nd fc
  have pg := hg sc (upd Ha B (.set (fun _ => false) 0)) sc.heap.objs.size (cellsFrom (sc.heap.objs.size + 1) scope.names (cloFrom X.env.cells scope.names [])) fp
  have pt := ht sc (upd Ha B (.set (fun _ => false) 0)) sc.heap.objs.size (cellsFrom (sc.heap.objs.size + 1) scope.names (cloFrom X.env.cells scope.names [])) fp
  have pe := he sc (upd Ha B (.set (fun _ => false) 0)) sc.heap.objs.size (cellsFrom (sc.heap.objs.size + 1) scope.names (cloFrom X.env.cells scope.names [])) fp
  show codeAny _ _ (.compStart (.SetComp elt [⟨tg, iter, ifs, 0⟩] scope pos) 0 (.ref it) (.ref B) (compEnvC scope (cellsFrom (sc.heap.objs.size + 1) scope.names (cloFrom X.env.cells scope.names [])) sc.heap.objs.size X.env)) (compPost (model X.prog X.w) X.A X.xe none Qf (.ref B) sc.heap.objs.size) { sc with heap := pushCells (sc.heap.push { cls := .type "dict", data := .dict #[] }) scope.names }
  have nfp : ∀ b ∈ fp, (upd Ha B (.set (fun _ => false) 0)) b = none := fun b hb => (fc b hb).1.1
  generalize hce : compEnvC scope (cellsFrom (sc.heap.objs.size + 1) scope.names (cloFrom X.env.cells scope.names [])) sc.heap.objs.size X.env = ce at Id pg pt pe ⊢
  have locs : ce.locals = sc.heap.objs.size := by subst hce; rfl
  generalize hHc : upd Ha B (.set (fun _ => false) 0) = Hc at Ic Id pg pt pe w0 nfp fc
  generalize hsd : ({ sc with heap := pushCells (sc.heap.push { cls := .type "dict", data := .dict #[] }) scope.names } : Shared) = sd at Id ⊢
  have std : tn 0 sd.heap := T.keep _ _ _ stc fun b _ o e => by rw [← hsd]; exact pushCells_keeps _ _ _ _ (Heap.get?_push_of_some _ e)
  have kept : ∀ {τ : L2.St} {H' : Hp} {s' : Shared}, Inv (X.blk sc Hc scope ce fp) [] τ H' s' → (∀ b ∈ fp, H' b = none) → ∀ b ∈ fp, FpOk (X.blk sc Hc scope ce fp) [] H' b := fun {τ H' s'} I' hn b hb =>
    ⟨hn b hb, (I'.ok.exf b hb).1, I'.ok.exfs b hb, .inl hb, fun x c e => (I'.ok.exf b hb).2 x c e, fun p hp => absurd (show p ∈ ([] : List (Addr × Obj)) ++ [] from hp) (by simp)⟩
  have loop : codeAny (model X.prog X.w) X.A (.compLoop (.SetComp elt [⟨tg, iter, ifs, 0⟩] scope pos) 0 (.ref it) (.ref B) ce) (compPost (model X.prog X.w) X.A X.xe none Qf (.ref B) sc.heap.objs.size) sd := by
    refine PpSet.compLoopS_any (fun n s' => ∃ i H', Inv (X.blk sc Hc scope ce fp) [] (wipe σ (own.map (·.2))) H' s' ∧ tn i s'.heap ∧ (∀ b ∈ fp, H' b = none) ∧ W i n H') ?_ m0 ⟨0, Hc, Id, std, nfp, w0⟩
    rintro n se ⟨i, He, Ie, ste, ne, we⟩
    rcases turn i n He we with ⟨stop, qq⟩ | ⟨go, Nx, hNx, step⟩
    · refine thnF (T.done (X.blk sc Hc scope ce fp) rfl rfl rfl calm i [] se _ He (fun _ _ => False) Ie (kept Ie ne) ste stop) fun r sf ⟨hr, If⟩ => ?_
      subst hr
      have Ig : Inv X pins σ He sf := Ic.call' (ch := fp) If.os If.base If.hok If.bare fun b hb => ⟨(fc b hb).1.2.2.2.1, (fc b hb).1.2.1, (fc b hb).1.2.2.2.2.1, (fc b hb).1.2.2.2.2.2⟩
      have nC : He sc.heap.objs.size = none := by
        have z : He ce.locals = none := If.free
        rwa [locs] at z
      obtain ⟨m, hn, _⟩ := If.loc
      have hn : sf.heap.Ns ce.locals m := hn
      rw [locs] at hn
      exact fin B sc.heap.objs.size sf m He Ig qq hn (Ic.fpOk (Nat.le_refl _) nC)
    · refine thnF (T.item (X.blk sc Hc scope ce fp) rfl rfl rfl calm i [] se _ He (fun _ _ => False) Ie (kept Ie ne) ste go) fun r sf ⟨u, hr, hf⟩ => ?_
      subst hr
      refine thnF hf fun _ sg ⟨x, Hg, Ig, rg, yg, stg, ng⟩ => ?_
      refine thnF (pg.run _ sg _ Hg x u _ (Ig.pinned (kept Ig ng) (T.obj _ _ stg)) rg (step x Hg yg)) fun _ sh ⟨τ, Hh, Ih, hwh, qh⟩ => ?_
      refine thnF (pt.run _ sh τ Hh _ Ih qh) fun b sj ⟨Hj, Ij, qj⟩ => ?_
      have done : ∀ {s' : Shared} {H' : Hp}, Inv (X.blk sc Hc scope ce fp) ([] ++ pinsAt fp sg.heap) τ H' s' → Nx H' → ∃ m, m < n ∧ ∃ i H', Inv (X.blk sc Hc scope ce fp) [] (wipe σ (own.map (·.2))) H' s' ∧ tn i s'.heap ∧ (∀ b ∈ fp, H' b = none) ∧ W i m H' := fun {s' H'} I' nx => by
        obtain ⟨m', hm, w'⟩ := hNx H' nx
        have held : ∀ b ∈ fp, ∀ o, sg.heap.get? b = some o → s'.heap.get? b = some o ∧ H' b = none := fun b hb o e =>
          have z := I'.pin (b, o) (List.mem_append_right _ (List.mem_append_right _ (mem_pinsAt hb e)))
          ⟨z.1, z.2.1⟩
        have hl : (wipe σ (own.map (·.2))).length = τ.length := by rw [← hwh, wipe_length]
        refine ⟨m', hm, i + 1, H', (I'.unpinned (pins := [])).weak hl (fun j v e => ?_), T.keep _ _ _ stg fun b hb o e => (held b hb o e).1, fun b hb => ?_, w'⟩
        · rw [← hwh] at e
          exact (wipe_some e).1
        · obtain ⟨o, e, _⟩ := T.obj _ _ stg b hb
          exact (held b hb o e).2
      cases b with
      | false =>
        simp only [Bool.false_eq_true, if_false] at qj ⊢
        exact done Ij qj
      | true =>
        simp only [if_true] at qj ⊢
        refine thnF (pe.run _ sj τ Hj _ Ij qj) fun z sk ⟨yv, Hk, Ik, rk, ci, S0, n0, ey, hBk, hzk, nx⟩ => ?_
        subst ey
        obtain ⟨tk, rfl⟩ := (show RelV (.int ci) z from rk)
        exact set_add_run (X := X.blk sc Hc scope ce fp) Ik hBk hzk fun sl Il => done Il nx
  exact PpSet.codeAny_compStart_set loop (T.self X.A 0 _ _ _ std loop)
end
end Sw

/-! Eng12f: comprehensions of sets, read off the evaluator; len of them. -/
namespace Sw
open PySem PySem.Spec PyProof.Rows L2
section
variable {X : Cx}
theorem contains_ins (acc : List Int) (y : Int) : (fun j => (match acc.contains y with | true => acc | false => y :: acc).contains j) = fun j => acc.contains j || decide (j = y) := by
  funext j
  cases h : acc.contains y with
  | true =>
    dsimp only
    by_cases e : j = y
    · subst e; rw [h]; simp
    · simp [e]
  | false =>
    dsimp only
    rw [List.contains_cons]
    by_cases e : j = y
    · subst e; simp
    · have : (j == y) = false := by simpa using e
      rw [this]; simp [e]
theorem length_ins (acc : List Int) (y : Int) : (match acc.contains y with | true => acc | false => y :: acc).length = if acc.contains y = true then acc.length else acc.length + 1 := by
  cases h : acc.contains y with
  | true => simp
  | false => simp
theorem rd_sc {fi : Iv} {vs : List Nat} {g : Gv} {ft fe : Ev} {σ : L2.St} {H : Hp} {Q : VK} (h : rdE (evSc fi vs g ft fe) σ H Q) : tSi (rdI fi) (rdG vs g) (rdT ft) (rdE fe) vs σ H Q := by
  obtain ⟨m, S, ρ, d, S', R, E, e, q⟩ := h
  unfold evSc at e
  cases h0 : fi ρ S with
  | bad => rw [h0] at e; cases e
  | ok src S1 =>
    rw [h0] at e
    dsimp only at e
    refine ⟨m, S, ρ, src, S1, R, E, h0, fun m0 H0 J X0 OK L hL => ?_⟩
    have XA : Ext m0 (withAt m0 S1.len L) S1 (S1.add (.set [])) H0 (upd H0 L (.set (fun _ => false) 0)) := Ext.add X0.rel hL (by show upd H0 L (.set (fun _ => false) 0) L = _; rw [upd_same]; rfl)
    have hml : withAt m0 S1.len L S1.len = L := withAt_same ..
    have hln : S1.len < (S1.add (.set [])).len := by rw [Sto.add_len]; exact Nat.lt_succ_self _
    generalize withAt m0 S1.len L = mA at XA hml
    generalize S1.add (.set []) = SA at e XA hln
    generalize upd H0 L (.set (fun _ => false) 0) = HA at XA
    generalize S1.len = n at e hml hln
    refine ⟨fun i k H => ∃ m2 S2, Ext mA m2 SA S2 HA H ∧ ∃ d S', scL src n g ft fe (wipeE ρ vs) k i S2 = .ok d S' ∧ ∀ m' H' v, Ext m2 m' S2 S' H H' → RD m' S'.len H' d v → Q v H', ⟨_, mA, SA, Ext.refl XA.rel, d, S', e, fun m' H' v X' r' => q m' H' v (X0.trans (XA.trans X')) r'⟩, ?_⟩
    rintro i k H ⟨m2, S2, X2, d, S', e, q⟩
    have hm2 : m2 n = L := by rw [X2.ag n hln]; exact hml
    have X02 := X0.trans (XA.trans X2)
    have E2 := E.ext X02
    cases k with
    | zero => cases e
    | succ k =>
      simp only [scL] at e
      obtain ⟨ok1, ok2⟩ := OK m2 S2 H i (XA.trans X2)
      split at e
      · rename_i d0 hd
        obtain ⟨go, yl⟩ := ok1 d0 hd
        refine .inr ⟨go, fun H => ∃ m2 S2, Ext mA m2 SA S2 HA H ∧ ∃ d S', scL src n g ft fe (wipeE ρ vs) k (i + 1) S2 = .ok d S' ∧ ∀ m' H' v, Ext m2 m' S2 S' H H' → RD m' S'.len H' d v → Q v H', fun H' z => ⟨k, Nat.lt_succ_self k, z⟩, fun x H' y => ?_⟩
        obtain ⟨XY, rx⟩ := yl x H' y
        split at e
        · rename_i ρ1 S3 h3
          refine ⟨m2, S2, wipeE ρ vs, d0, ρ1, S3, XY.rel, (E2.ext XY).wipe vs, rx, h3, fun m3 H3 σ3 X3 E3 C3 => ⟨wipe_chg C3, ?_⟩⟩
          split at e
          · rename_i b S4 h4
            refine ⟨m3, S3, ρ1, b, S4, X3.rel, E3, h4, fun m4 H4 X4 => ?_⟩
            have X24 := XY.trans (X3.trans X4)
            cases b with
            | false =>
              dsimp only
              rw [if_neg Bool.false_ne_true]
              exact ⟨m4, S4, X2.trans X24, d, S', e, fun m' H' v X' r' => q m' H' v (X24.trans X') r'⟩
            | true =>
              dsimp only at e ⊢
              rw [if_pos rfl]
              split at e
              · rename_i y0 S5 h5
                refine ⟨m4, S4, ρ1, .int y0, S5, X4.rel, E3.ext X4, h5, fun m5 H5 v5 X5 r5 => ?_⟩
                split at e
                · rename_i acc ha
                  split at e
                  · rename_i hf
                    have X25 := X24.trans X5
                    have hm5 : m5 n = L := by rw [X25.ag n (Nat.lt_of_lt_of_le hln X2.len)]; exact hm2
                    have hw : H5 (m5 n) = some (.set (fun j => acc.contains j) acc.length) := X5.rel.obj _ _ ha
                    have X6 : Ext m5 m5 S5 (S5.put n (.set (match acc.contains y0 with | true => acc | false => y0 :: acc)) true) H5 (upd H5 (m5 n) (.set (fun j => acc.contains j || decide (j = y0)) (if acc.contains y0 = true then acc.length else acc.length + 1))) := by
                      refine Ext.put X5.rel ha hw True.intro ?_ fun _ _ _ => rfl
                      show upd H5 (m5 n) _ (m5 n) = some (.set (fun j => (match acc.contains y0 with | true => acc | false => y0 :: acc).contains j) (match acc.contains y0 with | true => acc | false => y0 :: acc).length)
                      rw [contains_ins, length_ins, upd_same]
                    rw [hm5] at hw X6
                    refine ⟨y0, _, _, r5, hw, ?_, m5, _, X2.trans (X25.trans X6), d, S', e, fun m' H' v X' r' => q m' H' v (X25.trans (X6.trans X')) r'⟩
                    have := Nat.le_of_ble_eq_true hf
                    omega
                  · cases e
                · cases e
              · cases e
          · cases e
        · cases e
      · rename_i hd
        cases e
        exact .inl ⟨ok2 hd, q m2 H _ (Ext.refl X2.rel) ⟨Nat.lt_of_lt_of_le hln X2.len, by rw [hm2]⟩⟩
      · cases e
theorem crv_lenS : CallR X (.builtin "len") (rdN lenSN) := by
  intro pins s σ H xs us Q I r h
  obtain ⟨m, S, ds, d, S', R, rr, e, q⟩ := h
  unfold lenSN at e
  split at e
  · obtain ⟨v, rfl, hn, rfl⟩ := rr.one1
    split at e
    · rename_i ys ho
      split at e
      · rename_i hb
        cases e
        have hw : H (m _) = some (.set (fun j => ys.contains j) ys.length) := R.obj _ _ ho
        obtain ⟨o, es, ep, t, h1, h2, h3, h4, h5, h6, h7, h8⟩ := (show s.heap.SetOf (intKind X.prog X.w) _ _ _ from I.hok _ _ hw)
        rw [Vals.ref1 r]
        refine call_len_set h1 h2 h3 h7 (by have : scanBound = 4096 := rfl; omega) ?_
        exact ⟨.int ys.length, H, I.kept (h' := s.heap) (fun _ _ z => z), ⟨_, by rw [h8]⟩, rdPure R q rfl⟩
      · cases e
    · cases e
  · cases e
variable {elt tg iter : Expr} {ifs : List Expr} {scope : Scope} {own : List (Str × Nat)} {pos p spos : Pos} {fi : Iv} {g : Gv} {ft fe : Ev}
theorem pev_sc (hc : X.calm = true) (hN : X.N.Nodup) (hi : PI X tg iter (rdI fi)) (ok : BlkOk X.N X.env.scope scope own)
    (hg : ∀ (s : Shared) (H : Hp) (C : Addr) (cl : List (Str × Addr)) (fp : List Addr), PG (X.blk s H scope (compEnvC scope cl C X.env) fp) tg (rdG (own.map (·.2)) g)) (ht : ∀ (s : Shared) (H : Hp) (C : Addr) (cl : List (Str × Addr)) (fp : List Addr), PTs (X.blk s H scope (compEnvC scope cl C X.env) fp) ifs (rdT ft))
    (he : ∀ (s : Shared) (H : Hp) (C : Addr) (cl : List (Str × Addr)) (fp : List Addr), PE (X.blk s H scope (compEnvC scope cl C X.env) fp) elt (rdE fe)) (hs : ∀ x, foldedSetIterable iter X.env x = pure x) :
    PE X (.SetComp elt [⟨tg, iter, ifs, 0⟩] scope pos) (rdE (evSc fi (own.map (·.2)) g ft fe)) := by
  refine ⟨fun pins s σ H Q I h => ?_⟩
  rw [PpSet.eval_SetComp]
  refine si_run hc hN I hi ok hg ht he hs (rd_sc h) fun B C s' m H' I' q hn f => ⟨m, hn, fun h'' sb => ?_⟩
  obtain ⟨f0, f1, f2, f3, f4, f5⟩ := f
  exact ⟨.ref B, H', I'.turned (t' := s'.toks) (fun b o hb e => (sb.2 b hb).trans e) f0 f1 f3 f4 f5, rfl, q⟩
end
end Sw

/-! Eng12g: {k: v} with a tuple k. -/
namespace Sw
open PySem PySem.Spec PyProof.Rows L2
section
variable {X : Cx} {k v : Expr} {pos : Pos} {fk fv : Ev}
theorem pev_disp (hu : X.A.units + 1 < cLine) (hk : PE X k (rdE fk)) (hv : PE X v (rdE fv)) : PE X (.Dict [some k] [v] pos) (rdE (evDisp fk fv)) := by
  refine ⟨fun pins s σ H Q I h => ?_⟩
  obtain ⟨m, S, ρ, d, S', R, E, e, q⟩ := h
  unfold evDisp at e
  have new : H s.heap.objs.size = none := I.hok.fresh (Nat.le_refl _)
  have I1 := I.laid (a := s.heap.objs.size) (o := .dT []) (h' := s.heap.push { cls := .type "dict", data := .dict #[] }) (t' := s.toks) (fun _ _ z => Heap.get?_push_of_some _ z) (Nat.le_refl _) (dt_empty s.heap I.big)
  have XA : Ext m (withAt m S.len s.heap.objs.size) S (S.add (.dctT [])) H (upd H s.heap.objs.size (.dT [])) := Ext.add R new ⟨[], upd_same, rfl⟩
  have hml : withAt m S.len s.heap.objs.size S.len = s.heap.objs.size := withAt_same ..
  have hln : S.len < (S.add (.dctT [])).len := by rw [Sto.add_len]; exact Nat.lt_succ_self _
  generalize withAt m S.len s.heap.objs.size = mA at XA hml
  generalize S.add (.dctT []) = SA at e XA hln
  split at e
  · rename_i kd S1 h1
    split at e
    · rename_i vd S2 h2
      split at e
      · rename_i ho
        split at e
        · rename_i S3 h3
          cases e
          have go : rdE fk σ (upd H s.heap.objs.size (.dT [])) fun x H1 => rdE fv σ H1 fun y H2 => H2 s.heap.objs.size = some (.dT []) ∧ ∃ ks b, x = .ref b ∧ H2 b = some (.tup (ks.map kV)) ∧ Q (.ref s.heap.objs.size) (upd H2 s.heap.objs.size (.dT (putK [] ks y))) := by
            refine ⟨mA, SA, ρ, kd, S1, XA.rel, E.ext XA, h1, fun m1 H1 x X1 r1 => ⟨m1, S1, ρ, vd, S2, X1.rel, (E.ext XA).ext X1, h2, fun m2 H2 y X2 r2 => ?_⟩⟩
            obtain ⟨H3, g, X3⟩ := dput_ok X2.rel (RD.ext r1 X2) r2 h3
            have hm2 : m2 S.len = s.heap.objs.size := by rw [X2.ag _ (Nat.lt_of_lt_of_le hln X1.len), X1.ag _ hln]; exact hml
            obtain ⟨ps, g1, g2⟩ := X2.rel.obj _ _ ho
            cases (show ps = [] from g2)
            rw [hm2] at g1 g
            rcases g with ⟨kvs, kk, z, _⟩ | ⟨kvs, kk, b, z1, z2, z3, z4, z5⟩
            · rw [g1] at z; cases z
            · rw [g1] at z1
              cases z1
              refine ⟨g1, kk, b, z2, z3, ?_⟩
              rw [← z5]
              have XX := XA.trans (X1.trans (X2.trans X3))
              exact q m2 H3 _ XX ⟨Nat.lt_of_lt_of_le hln (Nat.le_trans X1.len (Nat.le_trans X2.len X3.len)), by rw [hm2]⟩
          rw [arm_eval_Dict, zip_pairTrees [some k] [v] X.env pos rfl rfl, dictDisplay_pairs (pairTrees [some k] [v] X.env pos) (by intro z; cases z) (by show (1 : Nat) < 17; omega)]
          refine wpAny_bind (wpAny_standAt (wpAny_bind (wpAny_subDictH (knd := tupleKind (mixKind X.prog X.w)) (by show X.A.units < cLine; omega) (by show (1 : Nat) ≤ 15; omega) ?_)))
          refine pairTrees_cons_walk (thn (hk.run pins _ σ _ _ I1 go) fun ku sa ⟨x, Ha, Ia, rx, qa⟩ => thn (hv.run pins sa σ Ha _ Ia qa) fun vu sb ⟨y, Hb, Ib, ry, g1, ks, b, ex, eb, qq⟩ => pairTrees_nil_walk ?_)
          subst ex
          cases (show ku = Value.ref b from rx)
          obtain ⟨z, hd, xs, rel, dd⟩ := dt_of Ib.hok g1
          have hx : xs = [] := by cases rel; rfl
          subst hx
          refine ⟨[(ks, b, vu)], ⟨rfl, rfl, key_of Ib.hok eb, trivial⟩, dd, fun h' tk dd' hs => wpAny_pure ?_⟩
          refine ⟨.ref s.heap.objs.size, _, ?_, rfl, qq⟩
          obtain ⟨ob, es, ep, w1, w2, w3, w4, _, w5⟩ := dd'
          have hl : (putK ([] : List (List Key × V)) ks y).length ≤ sizeLine := by
            have := length_putK ([] : List (List Key × V)) ks y
            rw [sizeLine_eq]
            simp only [List.length_nil] at this
            omega
          refine d_write Ib (by rw [g1]; exact True.intro) hs ⟨ob, w1⟩ ⟨hl, hd, _, (rel.put ks eb ry).keeps fun c ys ec => ?_, ob, es, ep, w1, w2, w3, w4, w5⟩
          rw [upd_ne (ne_of ec g1 (fun z => nomatch z))]
          exact ec
        · cases e
      · cases e
    · cases e
  · cases e
end
end Sw

/-! Eng12h: list(enumerate(t)), t a tuple. -/
namespace PySem
open Sem (wp)
section
variable {prog : Program} {w : World} {A : Around} {E : Value → Shared → Prop} {s : Shared}
theorem Sw_next_held {en it T : Addr} {fp : List Addr} {n j : Nat} {P : Nat → Value → Prop} {St : Nat → Heap → Prop} {old : Value} {fl : Bool} {oT : Obj} {Q : Value → Shared → Prop}
    (D : Draws prog w A it fp n P St) (he : IsEnumHeld s.heap en it j old T fl) (hT : s.heap.get? T = some oT) (hTe : T ≠ en) (hTi : T ≠ it) (hst : St j s.heap) (hlt : j < n) (hne : en ≠ it) (hef : en ∉ fp)
    (hQ : ∀ x hp' tk, P j x → IsEnumHeld hp' en it ((j : Int) + 1) old T true → St (j + 1) hp' → hp'.get? s.heap.objs.size = some { cls := .type "tuple", data := .seq #[.int j tk, x] } → hp'.objs.size = s.heap.objs.size + 1 →
      (∀ b o, b ≠ en → b ≠ it → s.heap.get? b = some o → hp'.get? b = some o) → Q (.ref s.heap.objs.size) { s with heap := hp', toks := tk + 1 }) :
    wpAny (model prog w) A (Builtin.«enumerate.__next__» ⟨[.ref en], []⟩) (fun fin s' => ∃ v, fin = .done (.ret v) ∧ Q v s') E s := by
  obtain ⟨hp, gg, dr, tk0, os⟩ := s
  show wpAny _ _ (field (.ref en) 2 >>= _) _ _ _
  refine wpAny_bind (wpAny_field he rfl (x := .ref it) rfl ?_)
  refine wpAny_bind (D.item j _ _ _ hlt hst fun x ha tk px sta sba => ?_)
  have sba : Heap.SameBut it hp ha := sba
  have ea : IsEnumHeld ha en it j old T fl := (sba.2 en hne).trans he
  have ta : ha.get? T = some oT := (sba.2 T hTi).trans hT
  show wpAny _ _ (field (.ref en) 3 >>= _) _ _ ⟨ha, gg, dr, tk, os⟩
  refine wpAny_bind (wpAny_field ea rfl (x := rawInt j) rfl ?_)
  show wpAny _ _ (field (.ref en) 4 >>= _) _ _ ⟨ha, gg, dr, tk, os⟩
  refine wpAny_bind (wpAny_field ea rfl (x := .none) rfl ?_)
  show wpAny _ _ (mkInt j >>= _) _ _ ⟨ha, gg, dr, tk, os⟩
  refine wpAny_bind (wpAny_mkInt ?_)
  show wpAny _ _ (setField (.ref en) 3 (rawInt ((j : Int) + 1)) >>= _) _ _ ⟨ha, gg, dr, tk + 1, os⟩
  refine wpAny_bind (wpAny_setField_rec ea (by simp) fun hb eb sbb => ?_)
  have sbb : Heap.SameBut en ha hb := sbb
  have eb : IsEnumHeld hb en it ((j : Int) + 1) old T fl := eb
  show wpAny _ _ (setField (.ref en) 4 .none >>= _) _ _ ⟨hb, gg, dr, tk + 1, os⟩
  refine wpAny_bind (wpAny_setField_rec eb (by simp) fun hc ec sbc => ?_)
  have sbc : Heap.SameBut en hb hc := sbc
  have ec : IsEnumHeld hc en it ((j : Int) + 1) old T fl := ec
  have tc : hc.get? T = some oT := sbc.extBut T oT hTe (sbb.extBut T oT hTe ta)
  show wpAny _ _ (newTuple [.int j tk, x] >>= _) _ _ ⟨hc, gg, dr, tk + 1, os⟩
  refine wpAny_bind (wpAny_newTuple ?_)
  have size : hc.objs.size = hp.objs.size := by rw [sbc.1, sbb.1, sba.1]
  have low : en < hp.objs.size := Heap.lt_size he
  generalize hde : hc.push { cls := .type "tuple", data := .seq #[.int j tk, x] } = hd
  have ed : IsEnumHeld hd en it ((j : Int) + 1) old T fl := by rw [← hde]; exact Heap.get?_push_of_some _ ec
  have td : hd.get? T = some oT := by rw [← hde]; exact Heap.get?_push_of_some _ tc
  have nd : hd.get? hp.objs.size = some { cls := .type "tuple", data := .seq #[.int j tk, x] } := by rw [← hde, ← size]; exact Heap.get?_push_size _ rfl
  have zd : hd.objs.size = hp.objs.size + 1 := by rw [← hde, Heap.size_push, size]
  have kd : ∀ b o, b ≠ en → b ≠ it → hp.get? b = some o → hd.get? b = some o := fun b o h1 h2 h3 => by
    rw [← hde]; exact Heap.get?_push_of_some _ (sbc.extBut b o h1 (sbb.extBut b o h1 (sba.extBut b o h2 h3)))
  have std : St (j + 1) hd := D.frame _ _ _ sta fun b hb o y => by
    have h1 : b ≠ en := fun q => hef (q ▸ hb)
    rw [← hde]; exact Heap.get?_push_of_some _ (sbc.extBut b o h1 (sbb.extBut b o h1 y))
  show wpAny _ _ (Builtin.SmallTypes.ownedTupleIsFree (.ref en) >>= _) _ _ ⟨hd, gg, dr, tk + 1, os⟩
  rw [size]
  refine wpAny_bind (wpAny_tupleHeld_enum (s := ⟨hd, gg, dr, tk + 1, os⟩) ed td fun hf ef sbf => ?_)
  have sbf : Heap.SameBut en hd hf := sbf
  refine wpAny_pure ⟨_, rfl, hQ x hf tk px ef ?_ ?_ ?_ ?_⟩
  · exact D.frame _ _ _ std fun b hb o y => sbf.extBut b o (fun q => hef (q ▸ hb)) y
  · exact sbf.extBut _ _ (Nat.ne_of_gt low) nd
  · rw [sbf.1, zd]
  · exact fun b o h1 h2 h3 => sbf.extBut b o h1 (kd b o h1 h2 h3)
theorem Sw_pyNext_held {en it T : Addr} {fp : List Addr} {n j : Nat} {P : Nat → Value → Prop} {St : Nat → Heap → Prop} {old : Value} {fl : Bool} {oT : Obj} {Q : Option Value → Shared → Prop}
    (D : Draws prog w A.in1 it fp n P St) (he : IsEnumHeld s.heap en it j old T fl) (hT : s.heap.get? T = some oT) (hTe : T ≠ en) (hTi : T ≠ it) (hst : St j s.heap) (hlt : j < n) (hne : en ≠ it) (hef : en ∉ fp)
    (hQ : ∀ x hp' tk, P j x → IsEnumHeld hp' en it ((j : Int) + 1) old T true → St (j + 1) hp' → hp'.get? s.heap.objs.size = some { cls := .type "tuple", data := .seq #[.int j tk, x] } → hp'.objs.size = s.heap.objs.size + 1 →
      (∀ b o, b ≠ en → b ≠ it → s.heap.get? b = some o → hp'.get? b = some o) → Q (some (.ref s.heap.objs.size)) { s with heap := hp', toks := tk + 1 }) :
    wpAny (model prog w) A (pyNext (.ref en)) Q E s := by
  have ty : s.TypeIs (.ref en) "enumerate" := ⟨_, he, rfl⟩
  unfold pyNext
  exact wpAny_bind (wpAny_attempt (wpAny_callSpecial?_slot (name := Str.ofString "__next__") ty F.slot_enumerate_next (wpAny_call_entry F.slot_enumerate_next ty F.entry_enumerate_next
      (Sw_next_held D he hT hTe hTi hst hlt hne hef fun x hp' tk a b c d k q => wpAny_pure (hQ x hp' tk a b c d k q)) (F.args_enumerate_next_1 _))))
theorem Sw_pyNext_end {en it : Addr} {fp : List Addr} {n : Nat} {P : Nat → Value → Prop} {St : Nat → Heap → Prop} {old T : Addr} {jj : Int} {ov : Value} {fl : Bool} {Q : Option Value → Shared → Prop}
    (D : Draws prog w A.in1 it fp n P St) (he : IsEnumHeld s.heap en it jj ov T fl) (hst : St n s.heap)
    (hQ : ∀ hp', Heap.ExtBut it s.heap hp' → Q none { s with heap := hp' }) : wpAny (model prog w) A (pyNext (.ref en)) Q E s := by
  have ty : s.TypeIs (.ref en) "enumerate" := ⟨_, he, rfl⟩
  unfold pyNext
  refine wpAny_bind (wpAny_attempt (wpAny_callSpecial?_slot (name := Str.ofString "__next__") ty F.slot_enumerate_next (wpAny_call_entry F.slot_enumerate_next ty F.entry_enumerate_next ?_ (F.args_enumerate_next_1 _))))
  show wpAny _ _ (field (.ref en) 2 >>= _) _ _ _
  refine wpAny_bind (wpAny_field he rfl (x := .ref it) rfl ?_)
  refine wpAny_bind (D.done _ _ _ hst fun hp' x eb xo => ?_)
  obtain ⟨o, ho, hc⟩ := xo
  exact wpAny_bind (wpAny_isInstance (T := "StopIteration") (b := true) ⟨o, ho, hc⟩ isSubtype_stop (wpAny_pure (hQ _ eb)))
theorem Sw_no_len : typeLookup (.type "enumerate") "__len__" = pure none := am_miss_of_fast (by decide +kernel)
theorem Sw_no_hint : typeLookup (.type "enumerate") "__length_hint__" = pure none := am_miss_of_fast (by decide +kernel)
end
end PySem

/-! Eng12i: list(enumerate(t)), t a tuple: the loop, the call. -/
namespace Sw
open PySem PySem.Spec PyProof.Rows L2
section
variable {X : Cx} {pins : List (Addr × Obj)} {σ : L2.St} {H0 : Hp} {a q en it : Addr} {xs : List V}
/-- ahead of turn j -/
structure LE (X : Cx) (pins : List (Addr × Obj)) (σ : L2.St) (H0 : Hp) (a q en it : Addr) (xs : List V) (j : Nat) (H : Hp) (s : Shared) : Prop where
  I : Inv X pins σ H s
  fr : ∀ b o, H0 b = some o → H b = some o
  ls : ∃ acc, H q = some (.lst acc) ∧ acc.length = j ∧ ∀ i x, acc[i]? = some x → ∃ T y, x = .ref T ∧ H T = some (.tup [.int (i : Nat), y]) ∧ xs[i]? = some y
  fp : ∀ b ∈ [en, it], FpOk X pins H b
  st : s.heap.IsTupleIter it a j
  en : (∃ old, IsEnum s.heap en it ((j : Nat) : Int) old) ∨ ∃ old T f ys, IsEnumHeld s.heap en it ((j : Nat) : Int) old T f ∧ H T = some (.tup ys)
/-- what stands at the end -/
def LEnd (X : Cx) (pins : List (Addr × Obj)) (σ : L2.St) (H0 : Hp) (q : Addr) (xs : List V) (H : Hp) (s : Shared) : Prop :=
  Inv X pins σ H s ∧ (∀ b o, H0 b = some o → H b = some o) ∧ ∃ acc, H q = some (.lst acc) ∧ acc.length = xs.length ∧ ∀ i x, acc[i]? = some x → ∃ T y, x = .ref T ∧ H T = some (.tup [.int (i : Nat), y]) ∧ xs[i]? = some y
theorem le_loop {A1 : Around} {Rs : Result → Shared → Prop} (hh : A1.handled = none) (hz : xs.length ≤ sizeLine) (ha : H0 a = some (.tup xs)) (qn : H0 q = none) (nei : en ≠ it) (nai : a ≠ it) (nea : en ≠ a) (nqe : q ≠ en) (nqi : q ≠ it)
    (hdone : ∀ H s, LEnd X pins σ H0 q xs H s → Rs (.ok (.ret .none)) s) (herr : ∀ e s, X.xe e s → Rs (.error e) s) :
    ∀ (k j : Nat) (H : Hp) (s : Shared), j + k = xs.length → LE X pins σ H0 a q en it xs j H s → codeAny (model X.prog X.w) A1 (.builtin "list.extend.loop" ⟨[.ref q, .ref en, .none], []⟩) Rs s := by
  intro k
  induction k with
  | zero =>
    intro j H s hj L
    refine codeAny_builtin PySem.F.entry_extend_loop ?_
    rw [Around.under_plainId PySem.F.plain_extend_loop _]
    show wpAny _ A1.in1 (pyNext (.ref en) >>= _) _ _ s
    obtain ⟨its, rv, p, _⟩ := L.I.tuple (.of (L.fr _ _ ha))
    have hsz : its.toArray.size = j := by have := rv.length; simp; omega
    obtain ⟨f0, f1, f2, f3, f4, f5⟩ := L.fp it (by simp)
    have D := Draws.tuple (prog := X.prog) (w := X.w) (A := A1.in1.in1) hh it a nai its.toArray
    rw [hsz] at D
    have fin : ∀ h', Heap.ExtBut it s.heap h' → Rs (.ok (.ret .none)) { s with heap := h' } := fun h' eb => by
      obtain ⟨acc, h1, h2, h3⟩ := L.ls
      exact hdone H _ ⟨L.I.turned (t' := s.toks) (fun b o hb z => eb b o hb z) f0 f1 f3 f4 f5, L.fr, acc, h1, by omega, h3⟩
    rcases L.en with ⟨old, he⟩ | ⟨old, T, f, ys, he, hT⟩
    · exact wpAny_bind (wpAny_pyNext_enum_endD D he ⟨L.st, p⟩ fun h' eb => wpAny_pure (fin h' eb))
    · exact wpAny_bind (Sw_pyNext_end (old := 0) D he ⟨L.st, p⟩ fun h' eb => wpAny_pure (fin h' eb))
  | succ k ih =>
    intro j H s hj L
    refine codeAny_builtin PySem.F.entry_extend_loop ?_
    rw [Around.under_plainId PySem.F.plain_extend_loop _]
    show wpAny _ A1.in1 (pyNext (.ref en) >>= _) _ _ s
    obtain ⟨its, rv, p, _⟩ := L.I.tuple (.of (L.fr _ _ ha))
    have hlen := rv.length
    have hlt : j < its.toArray.size := by simp; omega
    have hx : xs[j]? = some (xs[j]'(by omega)) := List.getElem?_eq_getElem _
    obtain ⟨u, hu, ru⟩ := rv.get hx
    generalize xs[j]'(by omega) = x at hx ru
    have D := Draws.tuple (prog := X.prog) (w := X.w) (A := A1.in1.in1) hh it a nai its.toArray
    have hel : en < s.heap.objs.size := by
      rcases L.en with ⟨old, he⟩ | ⟨old, T, f, ys, he, hT⟩
      · exact Heap.lt_size he
      · exact Heap.lt_size he
    have hil : it < s.heap.objs.size := by obtain ⟨_, z, _⟩ := L.st; exact Heap.lt_size z
    have cont : ∀ (y : Value) (h' : Heap) (tk : Nat) (old : Value) (T : Addr) (f : Bool), its.toArray[j]? = some y → IsEnumHeld h' en it ((j : Int) + 1) old T f → (T = s.heap.objs.size ∨ ∃ ys, H T = some (.tup ys)) →
        h'.IsTupleIter it a (j + 1) → h'.get? s.heap.objs.size = some { cls := .type "tuple", data := .seq #[.int j tk, y] } → (∀ b o, b ≠ en → b ≠ it → s.heap.get? b = some o → h'.get? b = some o) →
        wpAny (model X.prog X.w) A1.in1 (updateSeq q (·.push (.ref s.heap.objs.size)) >>= fun _ => again (.builtin "list.extend.loop" ⟨[.ref q, .ref en, .none], []⟩))
          (fun fin s' => match fin with | .done f => Rs (.ok f) s' | .again c' => c'.quiet = true ∧ codeAny (model X.prog X.w) A1 c' Rs s') (fun e s' => Rs (.error e) s') { s with heap := h', toks := tk + 1 } := by
      intro y h' tk old T f hy ho hTT hit' hnew hk
      have ey : y = u := by
        have e1 : its[j]? = some y := by simpa using hy
        rw [hu] at e1
        exact (Option.some.inj e1).symm
      subst ey
      have new : ObjOk X.prog X.w (upd H s.heap.objs.size (.tup [.int (j : Nat), x])) h' s.heap.objs.size (.tup [.int (j : Nat), x]) :=
        ⟨by show 2 ≤ sizeLine; decide, [.int j tk, y], .cons ⟨_, rfl⟩ (.cons ru .nil), ⟨_, hnew, rfl, _, rfl⟩⟩
      have fresh : H s.heap.objs.size = none := L.I.hok.fresh (Nat.le_refl _)
      have I1 : Inv X pins σ (upd H s.heap.objs.size (.tup [.int (j : Nat), x])) { s with heap := h', toks := tk + 1 } :=
        L.I.turnedNew (ch := [en, it]) (fun b ob hb z => hk b ob (fun z => hb (by simp [z])) (fun z => hb (by simp [z])) z) L.fp (Nat.le_refl _) new
      obtain ⟨acc, h1, h2, h3⟩ := L.ls
      have nq : q ≠ s.heap.objs.size := fun z => by rw [z, fresh] at h1; cases h1
      have h1' : upd H s.heap.objs.size (.tup [.int (j : Nat), x]) q = some (.lst acc) := by rw [upd_ne nq]; exact h1
      obtain ⟨zz, is, kk, r2, hl, eo⟩ := I1.lstM h1'
      refine wpAny_bind (wpAny_updateSeq eo rfl (wpAny_pure ⟨plainId_quiet PySem.F.plain_extend_loop _, ?_⟩) (by rw [List.size_toArray]; omega) (by show (is.toArray.push _).size ≤ sizeLine + 1; rw [Array.size_push, List.size_toArray]; omega))
      have I2 := I1.lset (its' := is ++ [.ref s.heap.objs.size]) (ys := acc ++ [.ref s.heap.objs.size]) (f := (·.push (.ref s.heap.objs.size))) (t' := tk + 1) h1' eo (by simp) (r2.append (.cons (show RelV (.ref s.heap.objs.size) (.ref s.heap.objs.size) from rfl) .nil)) (by rw [List.length_append, List.length_singleton]; omega)
      have keep : ∀ b o, b ≠ q → b ≠ s.heap.objs.size → H b = some o → upd (upd H s.heap.objs.size (.tup [.int (j : Nat), x])) q (.lst (acc ++ [.ref s.heap.objs.size])) b = some o := fun b o hb1 hb2 z => by rw [upd_ne hb1, upd_ne hb2]; exact z
      have nt : ∀ T ys, H T = some (.tup ys) → T ≠ q ∧ T ≠ s.heap.objs.size := fun T ys z => ⟨(by intro w; rw [w, h1] at z; cases z), (by intro w; rw [w, fresh] at z; cases z)⟩
      have same : ∀ b o, b ≠ q → h'.get? b = some o → (h'.update q (Obj.mapSeq (·.push (.ref s.heap.objs.size)))).get? b = some o := fun b o hb z => (Heap.get?_update_other _ _ (Ne.symm hb)).trans z
      refine ih (j + 1) _ _ (by omega) ⟨I2, fun b o z => ?_, ⟨acc ++ [.ref s.heap.objs.size], upd_same, by simp [h2], fun i v hi => ?_⟩, fun b hb => ⟨?_, (L.fp b hb).2⟩, hit'.at fun o z => same it o (Ne.symm nqi) z, .inr ⟨old, T, f, ?_⟩⟩
      · have z1 := L.fr b o z
        refine keep b o (fun w => ?_) (fun w => ?_) z1
        · rw [w, qn] at z; cases z
        · rw [w, fresh] at z1; cases z1
      · by_cases hi2 : i < acc.length
        · rw [List.getElem?_append_left hi2] at hi
          obtain ⟨T', y', e1, e2, e3⟩ := h3 i v hi
          obtain ⟨n1, n2⟩ := nt _ _ e2
          exact ⟨T', y', e1, keep _ _ n1 n2 e2, e3⟩
        · rw [List.getElem?_append_right (by omega)] at hi
          have hi3 : i - acc.length = 0 := by
            have := (List.getElem?_eq_some_iff.mp hi).1
            simp at this
            omega
          rw [hi3] at hi
          have ei : i = j := by omega
          subst ei
          refine ⟨s.heap.objs.size, x, by simpa using hi.symm, ?_, hx⟩
          rw [upd_ne (Ne.symm nq), upd_same]
      · have hlb : b < s.heap.objs.size := by
          have e' : b = en ∨ b = it := by simpa using hb
          rcases e' with z | z
          · rw [z]; exact hel
          · rw [z]; exact hil
        have nb : b ≠ q := by
          have e' : b = en ∨ b = it := by simpa using hb
          rcases e' with z | z
          · rw [z]; exact Ne.symm nqe
          · rw [z]; exact Ne.symm nqi
        rw [upd_ne nb, upd_ne (Nat.ne_of_lt hlb)]
        exact (L.fp b hb).1
      · have e1 : ((j + 1 : Nat) : Int) = (j : Int) + 1 := by omega
        rw [e1]
        rcases hTT with z | ⟨ys, z⟩
        · refine ⟨[.int (j : Nat), x], same en _ (Ne.symm nqe) ho, ?_⟩
          rw [z, upd_ne (Ne.symm nq), upd_same]
        · obtain ⟨n1, n2⟩ := nt _ _ z
          exact ⟨ys, same en _ (Ne.symm nqe) ho, keep _ _ n1 n2 z⟩
    rcases L.en with ⟨old, he⟩ | ⟨old, T, f, ys, he, hT⟩
    · exact wpAny_bind (wpAny_pyNext_enum_itemD D he ⟨L.st, p⟩ hlt nei (by simp [nei, nea]) fun y h' tk hy ho hit' hnew hsz hk => cont y h' tk _ _ false hy ho (.inl rfl) hit'.1 hnew hk)
    · obtain ⟨_, its2, _, o2, ho2, _⟩ := (show ObjOk X.prog X.w H s.heap T (.tup ys) from L.I.hok T _ hT)
      have nTe : T ≠ en := fun z => by rw [z, (L.fp en (by simp)).1] at hT; cases hT
      have nTi : T ≠ it := fun z => by rw [z, (L.fp it (by simp)).1] at hT; cases hT
      exact wpAny_bind (Sw_pyNext_held D he ho2 nTe nTi ⟨L.st, p⟩ hlt nei (by simp [nei, nea]) fun y h' tk hy ho hit' hnew hsz hk => cont y h' tk _ _ true hy ho (.inr ⟨ys, hT⟩) hit'.1 hnew hk)
end
end Sw

/-! Eng12j: list(enumerate(t)), t a tuple: the expression. -/
namespace Sw
open PySem PySem.Spec PyProof.Rows L2
section
variable {X : Cx} {pins : List (Addr × Obj)} {σ : L2.St} {H : Hp} {s : Shared} {a en it : Addr} {xs : List V}
theorem le_call {Q : Value → Shared → Prop} (hh : X.A.handled = none) (I : Inv X pins σ H s) (ha : H a = some (.tup xs)) (he : IsEnum s.heap en it 0 .none) (hit : s.heap.IsTupleIter it a 0) (nei : en ≠ it) (nai : a ≠ it) (nea : en ≠ a) (fp : ∀ b ∈ [en, it], FpOk X pins H b)
    (hQ : ∀ H' s', LEnd X pins σ H s.heap.objs.size xs H' s' → Q (.ref s.heap.objs.size) s') : wpAny (model X.prog X.w) X.A (call (.type "list") [.ref en]) Q X.xe s := by
  have hz : xs.length ≤ sizeLine := by obtain ⟨_, _, _, z⟩ := I.tuple (.of ha); exact z
  have fresh : H s.heap.objs.size = none := I.hok.fresh (Nat.le_refl _)
  have hen : en < s.heap.objs.size := Heap.lt_size he
  have hil : it < s.heap.objs.size := by obtain ⟨_, z, _⟩ := hit; exact Heap.lt_size z
  generalize hq : s.heap.objs.size = q at *
  have nqe : q ≠ en := Nat.ne_of_gt hen
  have nqi : q ≠ it := Nat.ne_of_gt hil
  refine callType_codes (Q₁ := fun obj s₁ => obj = .ref q ∧ s₁ = { s with heap := s.heap.push { cls := .type "list", data := .seq #[] } }) PySem.F.called_list (PySem.F.typeCall_list_1 _) PySem.F.entry_list_init (code_list_new _ ⟨by rw [hq], rfl⟩) fun obj s₁ h₁ => ?_
  obtain ⟨rfl, rfl⟩ := h₁
  have o1 : (s.heap.push { cls := .type "list", data := .seq #[] }).get? q = some { cls := .type "list", data := .seq #[] } := by rw [← hq]; exact Heap.get?_push_size _ rfl
  refine ⟨⟨_, o1, rfl⟩, PySem.F.args_list_init_2 _ _, ?_⟩
  have I1 : Inv X pins σ (upd H q (.lst [])) { s with heap := s.heap.push { cls := .type "list", data := .seq #[] } } := by rw [← hq]; exact I.lnew (its := []) (t' := s.toks) .nil (Nat.zero_le _)
  show wpAny _ _ (do let old ← Builtin.List.listItems (.ref q); Builtin.List.listUpdate (.ref q) (fun _ => #[]); letGo old.toList.reverse; Builtin.List.listExtendWith (.ref q) (.ref en) .none) _ _ _
  refine wpAny_bind ?_
  unfold Builtin.List.listItems
  refine wpAny_bind (wpAny_seqItems o1 rfl (wpAny_pure ?_))
  show wpAny _ _ (updateSeq q (fun _ => #[]) >>= fun _ => letGo (#[] : Array Value).toList.reverse >>= fun _ => Builtin.List.listExtendWith (.ref q) (.ref en) .none) _ _ _
  refine wpAny_bind (wpAny_updateSeq o1 rfl ?_)
  have I2 := I1.lset (f := fun _ => #[]) (its := []) (its' := []) (ys := []) (t' := s.toks) upd_same o1 rfl .nil (Nat.zero_le _)
  rw [upd_upd] at I2
  have o2 := Heap.get?_update_self (Obj.mapSeq (fun _ => (#[] : Array Value))) o1 rfl
  have k2 : ∀ b o, s.heap.get? b = some o → ((s.heap.push { cls := .type "list", data := .seq #[] }).update q (Obj.mapSeq fun _ => #[])).get? b = some o := fun b o e =>
    (Heap.get?_update_other _ _ (by rw [← hq]; exact Ne.symm (Nat.ne_of_lt (Heap.lt_size e)))).trans (Heap.get?_push_of_some _ e)
  refine wpAny_bind (wpAny_letGo ?_)
  generalize hh2 : (s.heap.push { cls := .type "list", data := .seq #[] }).update q (Obj.mapSeq fun _ => #[]) = h2 at I2 o2 k2 ⊢
  have ty : ({ s with heap := h2 } : Shared).TypeIs (.ref en) "enumerate" := ⟨_, k2 _ _ he, rfl⟩
  unfold Builtin.List.listExtendWith
  refine wpAny_bind (wpAny_typeOf ty ?_)
  have n1 : Builtin.List.listSameRef (.ref q) (.ref en) = false := by simp [Builtin.List.listSameRef, nqe]
  have n2 : (Value.type "enumerate" == Value.type "list") = false := by decide
  have n3 : (Value.type "enumerate" == Value.type "tuple") = false := by decide
  simp only [n1, n2, n3, Bool.or_false, Bool.false_eq_true, if_false]
  refine wpAny_bind (wpAny_pyIter_enum (s := { s with heap := h2 }) (k2 _ _ he) ?_)
  refine wpAny_bind (wpAny_holding ?_)
  unfold Builtin.List.listLengthHint
  refine wpAny_bind (wpAny_specialOf ty Sw_no_len ?_)
  show wpAny _ _ (specialOf (Value.ref en) (Str.ofString "__length_hint__") >>= _) _ _ _
  refine wpAny_bind (wpAny_specialOf ty Sw_no_hint ?_)
  refine wpAny_pure ?_
  show wpAny _ _ (rule "list.extend.makes-room" >>= fun _ => Builtin.List.listTouch (.ref q) >>= fun _ => again (.builtin "list.extend.loop" ⟨[.ref q, .ref en, .none], []⟩)) _ _ _
  refine wpAny_bind (wpAny_rule ?_)
  refine wpAny_bind ?_
  show wpAny _ _ (updateSeq q (·.push .none) >>= fun _ => updateSeq q (·.pop)) _ _ _
  refine wpAny_bind (wpAny_updateSeq o2 rfl ?_)
  have o3 := Heap.get?_update_self (Obj.mapSeq (·.push Value.none)) o2 rfl
  have I3 := I2.lset (f := (·.push Value.none)) (its := []) (its' := [Value.none]) (ys := [.non]) (t' := s.toks) upd_same o2 (by simp) (.cons (show RelV .non .none from rfl) .nil) (by rw [List.length_singleton, sizeLine_eq]; decide)
  refine wpAny_updateSeq (hz := by seq_fits) o3 rfl ?_
  have I4 := I3.lset (f := (·.pop)) (its := [Value.none]) (its' := []) (ys := []) (t' := s.toks) upd_same o3 (by rfl) .nil (Nat.zero_le _)
  rw [upd_upd, upd_upd] at I4
  have k4 : ∀ b o, s.heap.get? b = some o → ((h2.update q (Obj.mapSeq (·.push Value.none))).update q (Obj.mapSeq (·.pop))).get? b = some o := fun b o e => by
    have nb : q ≠ b := by rw [← hq]; exact Ne.symm (Nat.ne_of_lt (Heap.lt_size e))
    exact (Heap.get?_update_other _ _ nb).trans ((Heap.get?_update_other _ _ nb).trans (k2 b o e))
  refine wpAny_pure ⟨plainId_quiet PySem.F.plain_extend_loop _, ?_⟩
  refine le_loop (X := X) (pins := pins) (σ := σ) (H0 := H) (xs := xs) (a := a) (q := q) (en := en) (it := it) (A1 := X.A.in1) hh hz ha fresh nei nai nea nqe nqi (fun H' s' L => ⟨rfl, hQ H' s' L⟩) (fun e s' z => z) xs.length 0 (upd H q (.lst [])) _ (Nat.zero_add _) ⟨I4, fun b o z => ?_, ⟨[], upd_same, rfl, fun i x z => by simp at z⟩, fun b hb => ⟨?_, (fp b hb).2⟩, hit.at fun o z => k4 _ _ z, .inl ⟨_, k4 _ _ he⟩⟩
  · rw [upd_ne]
    · exact z
    · intro w; rw [w, fresh] at z; cases z
  · have nb : b ≠ q := by
      have e' : b = en ∨ b = it := by simpa using hb
      rcases e' with z | z
      · rw [z]; exact Ne.symm nqe
      · rw [z]; exact Ne.symm nqi
    rw [upd_ne nb]
    exact (fp b hb).1
/-- more is tracked than before -/
theorem Ext.more {m : Nat → Addr} {S : Sto} {H H' : Hp} (R : Rel m S H) (h : ∀ b o, H b = some o → H' b = some o) : Ext m m S S H H' := by
  have kp := Keep.same h
  refine ⟨Nat.le_refl _, fun _ _ => rfl, kp, rfl, ⟨fun n o e => ?_, R.inj, R.low, R.top, R.lens⟩⟩
  obtain ⟨u, hu⟩ := (R.obj n o e).live
  exact (R.obj n o e).mono' (Nat.le_refl _) (fun _ _ => rfl) kp (by rw [h _ _ hu, hu])
theorem enumPairs_rd {m : Nat → Addr} {k : Nat} {H : Hp} : ∀ {ds : List D} {vs acc : List V} {c : Nat}, RDs m k H ds vs → acc.length = vs.length → (∀ i x, acc[i]? = some x → ∃ T y, x = .ref T ∧ H T = some (.tup [.int ((c + i : Nat) : Int), y]) ∧ vs[i]? = some y) → RDs m k H (enumPairs c ds) acc
  | [], vs, acc, c, r, hl, h => by
    cases (show vs = [] from r)
    exact List.length_eq_zero_iff.mp hl
  | d :: ds, vs, acc, c, r, hl, h => by
    obtain ⟨v, vs, rfl, r1, r2⟩ := r
    cases acc with
    | nil => cases hl
    | cons x acc =>
      obtain ⟨T, y, e1, e2, e3⟩ := h 0 x rfl
      have ey : v = y := by simpa using e3
      subst ey
      refine ⟨x, acc, rfl, ⟨T, _, e1, e2, .int (c : Nat), [v], by simp, rfl, v, [], rfl, r1, rfl⟩, enumPairs_rd r2 (by simpa using hl) fun i x hi => ?_⟩
      obtain ⟨T', y', f1, f2, f3⟩ := h (i + 1) x (by simpa using hi)
      exact ⟨T', y', f1, by rw [f2, show c + (i + 1) = c + 1 + i by omega], by simpa using f3⟩
variable {e : Expr} {p p1 pos pos1 : Pos} {g : EvA}
theorem pev_lenum (hc : X.calm = true) (hg : Gl X "list") (hm : X.mg "list" = none) (hg1 : Gl X "enumerate") (hm1 : X.mg "enumerate" = none) (h1 : PA X [e] (rdA g)) (hs : starEach [e] X.env = [(false, eval e X.env)]) :
    PE X (.Call (.Name "list" p) [.Call (.Name "enumerate" p1) [e] [] pos1] [] pos) (rdE (evN lenumN g)) := by
  refine ⟨fun pins s σ H Q I h => ?_⟩
  refine Call_ (ld_blt I hg hm PyProof.Rows.boot_list (PyProof.Rows.callWith_type1 ?_ rfl rfl))
  show wpAny _ _ (spliced ((false, eval (.Call (.Name "enumerate" p1) [e] [] pos1) X.env) :: backTo pos (starEach [] X.env))) _ _ s
  refine Calls.spliced_cons ?_
  obtain ⟨m, S, ρ, d, S', R, E, e1, q⟩ := rdN_seq h
  refine Call_ (ld_blt I hg1 hm1 boot_enumerate (PyProof.Rows.callWith_type1 (thn (h1.run pos1 pins s σ H _ I ⟨m, S, ρ, d, S', R, E, e1, q⟩) fun us s1 ⟨vs, H1, I1, r1, q1⟩ => ?_) hs rfl))
  obtain ⟨m1, S1, ds, d1, S2, R1, rr, e2, q2⟩ := q1
  unfold lenumN at e2
  split at e2
  · rename_i ys
    obtain ⟨v, rfl, a, xs, rfl, ha, qs⟩ := rr.one1
    split at e2
    · rename_i hf
      cases e2
      rw [Vals.ref1 r1]
      obtain ⟨its, rv, p', hz⟩ := I1.tuple (.of ha)
      have hal : a < s1.heap.objs.size := I1.hok.lt ha
      refine Sw_enumerate_tuple (show s1.heap.IsTuple a its.toArray from p') fun h' he hit hsz hk => Calls.spliced_nil ?_
      have I2 : Inv X pins σ H1 { s1 with heap := h' } := I1.kept (t' := s1.toks) hk
      refine le_call (I1.ok.hd hc) I2 ha he hit (Nat.succ_ne_self _) (Nat.ne_of_lt hal) (fun z => absurd hal (by rw [← z]; exact Nat.not_lt_of_le (Nat.le_succ _))) (fun b hb => ?_) fun H' s' L => ?_
      · have hle : s1.heap.objs.size ≤ b := by
          have e' : b = s1.heap.objs.size + 1 ∨ b = s1.heap.objs.size := by simpa using hb
          rcases e' with z | z
          · rw [z]; exact Nat.le_add_right _ _
          · rw [z]; exact Nat.le_refl _
        exact I1.fpOk hle (I1.hok.fresh hle)
      · obtain ⟨I3, fr, acc, hq, hl, hall⟩ := L
        have qn : H1 h'.objs.size = none := I2.hok.fresh (Nat.le_refl _)
        refine ⟨.ref h'.objs.size, H', I3, rfl, ?_⟩
        have X1 : Ext m1 m1 S1 S1 H1 (fun b => if b = h'.objs.size then none else H' b) := Ext.more R1 fun b o z => by
          have nb : b ≠ h'.objs.size := fun w => by rw [w, qn] at z; cases z
          show (if b = h'.objs.size then none else H' b) = some o
          rw [if_neg nb]
          exact fr b o z
        have eH : upd (fun b => if b = h'.objs.size then none else H' b) h'.objs.size (.lst acc) = H' := by
          funext b
          by_cases nb : b = h'.objs.size
          · rw [nb, upd_same]; exact hq.symm
          · rw [upd_ne nb, if_neg nb]
        have ok : OOk m1 S1.len (upd (fun b => if b = h'.objs.size then none else H' b) h'.objs.size (.lst acc)) h'.objs.size (.lst (enumPairs 0 ys)) := by
          rw [eH]
          refine ⟨acc, hq, enumPairs_rd (RDs.mono' (Nat.le_refl _) (fun _ _ => rfl) (Keep.same fr) _ _ qs) hl fun i x hi => ?_⟩
          obtain ⟨T, y, f1, f2, f3⟩ := hall i x hi
          exact ⟨T, y, f1, by rw [f2, Nat.zero_add], f3⟩
        have X2 := Ext.add (p := h'.objs.size) X1.rel (by rw [if_pos rfl]) ok
        rw [eH] at X2
        exact q2 _ H' _ (X1.trans X2) ⟨by rw [Sto.add_len]; exact Nat.lt_succ_self _, by rw [withAt_same]⟩
    · cases e2
  · cases e2
end
end Sw

/-! Eng13: the small syntax, its evaluator, and the translation of Python's syntax into it. -/
namespace Sw
open PySem PySem.Spec PyProof.Rows L2
inductive Bo where
  | add | sub | mul | fdiv | mod
inductive Co where
  | eq | ne | lt | le | gt | ge | is_in | notIn | is | isNot
inductive Bi where
  | len | int | min | max | all | any | sum | tuple | list | sorted
inductive Me where
  | append | pop | get
inductive Ao where
  | add | sub
mutual
inductive G where
  | name (i : Nat)
  | tup (n : Nat) (gs : Gs)
  | bad
inductive Gs where
  | nil
  | cons (g : G) (gs : Gs)
end
mutual
inductive E where
  | lit (d : D)
  | var (i : Nat)
  | bin (o : Bo) (a b : E)
  | cmp (o : Co) (a b : E)
  | chain (o p : Co) (a b c : E)
  | neg (a : E)
  | not (a : E)
  | and (a b : E)
  | or (a b : E)
  | ite (c a b : E)
  | tup (es : Es)
  | lst (es : Es)
  | dnew (t : Bool)
  | ix (a b : E)
  | sl (a : E) (lo hi : Eo)
  | call (f : Nat) (es : Es)
  | bi (b : Bi) (es : Es)
  | isi (ts : List Tn) (a : E)
  | meth (m : Me) (o : E) (es : Es)
  | comp (it : I) (vs : List Nat) (g : G) (t e : E)
  | comp2 (it : I) (vs : List Nat) (g : G) (t : E) (it1 : I) (vs1 : List Nat) (g1 : G) (t1 e : E)
  | scl (it : I) (vs : List Nat) (g : G) (t e : E)
  | disp (k v : E)
  | lenum (es : Es)
  | bad
inductive Es where
  | nil
  | cons (e : E) (es : Es)
  | star (e : E) (es : Es)
inductive Eo where
  | none
  | some (e : E)
inductive I where
  | e (a : E)
  | range1 (es : Es)
  | range2 (es : Es)
  | enum (es : Es)
  | zip (es : Es)
  | bad
end
mutual
inductive T where
  | expr (e : E)
  | ret (e : E)
  | asg (e : E) (g : G)
  | aug (i : Nat) (o : Ao) (e : E)
  | put (o i v : E)
  | ite (c : E) (a b : Ts)
  | wh (n : Nat) (c : E) (b : Ts)
  | fo (it : I) (g : G) (b : Ts)
  | pass
  | brk
  | cont
  | bad
inductive Ts where
  | nil
  | cons (s : T) (ss : Ts)
end

/-! ### the evaluator -/
def boD : Bo → D → D → Sto → Res D
  | .add => addD
  | .sub => subD
  | .mul => mulD2
  | .fdiv => fdivD
  | .mod => modD
def coD : Co → D → D → Sto → Res D
  | .eq => eqD
  | .ne => neD
  | .lt => ltD
  | .le => leD
  | .gt => gtD
  | .ge => geD
  | .is_in => inD
  | .notIn => notInD
  | .is => isD
  | .isNot => isNotD
def biN : Bi → List D → Sto → Res D
  | .len => lenN
  | .int => intN
  | .min => minN
  | .max => maxN
  | .all => blN fun bs => bs.all id
  | .any => blN fun bs => bs.any id
  | .sum => sumN
  | .tuple => tupleN
  | .list => listN
  | .sorted => sortedN
def evMe : Me → Ev → EvA → Ev
  | .append => evM isLst appM
  | .pop => evM isLst popM
  | .get => evM isDct getM
def aoD : Ao → D → D → Sto → Res D
  | .add => iaddD
  | .sub => isubD
def evBad : Ev := fun _ _ => .bad
mutual
def gv : G → Gv
  | .name i => gvName i
  | .tup n gs => gvTup n (gvs gs)
  | .bad => fun _ _ _ => .bad
def gvs : Gs → Gvs
  | .nil => gvNil
  | .cons g gs => gvCons (gv g) (gvs gs)
end
mutual
def G.slots : G → List Nat
  | .name i => [i]
  | .tup _ gs => gs.slots
  | .bad => []
def Gs.slots : Gs → List Nat
  | .nil => []
  | .cons g gs => g.slots ++ gs.slots
end
mutual
def ev (F : Nat → Fn) : E → Ev
  | .lit d => evC d
  | .var i => evV i
  | .bin o a b => ev2 (boD o) (ev F a) (ev F b)
  | .cmp o a b => ev2 (coD o) (ev F a) (ev F b)
  | .chain o p a b c => evChain (coD o) (coD p) (ev F a) (ev F b) (ev F c)
  | .neg a => ev1 negD (ev F a)
  | .not a => ev1 notD (ev F a)
  | .and a b => evAnd (ev F a) (ev F b)
  | .or a b => evOr (ev F a) (ev F b)
  | .ite c a b => evIf (ev F c) (ev F a) (ev F b)
  | .tup es => evN tupN (evs F es)
  | .lst es => evN lstN (evs F es)
  | .dnew t => match t with
    | true => dNewT
    | false => dNewK
  | .ix a b => ev2 ixD (ev F a) (ev F b)
  | .sl a lo hi => evSl (ev F a) (evo F lo) (evo F hi)
  | .call f es => evN (F f) (evs F es)
  | .bi b es => evN (biN b) (evs F es)
  | .isi ts a => ev1 (isiD ts) (ev F a)
  | .meth m o es => evMe m (ev F o) (evs F es)
  | .comp it vs g t e => evComp (evi F it) vs (gv g) (ev F t) (ev F e)
  | .comp2 it vs g t it1 vs1 g1 t1 e => evComp2 (evi F it) vs (gv g) (ev F t) (evi F it1) vs1 (gv g1) (ev F t1) (ev F e)
  | .scl it vs g t e => evN lenSN (evCons (evSc (evi F it) vs (gv g) (ev F t) (ev F e)) evNil)
  | .disp k v => evDisp (ev F k) (ev F v)
  | .lenum es => evN lenumN (evs F es)
  | .bad => evBad
def evs (F : Nat → Fn) : Es → EvA
  | .nil => evNil
  | .cons e es => evCons (ev F e) (evs F es)
  | .star e es => evStar (ev F e) (evs F es)
def evo (F : Nat → Fn) : Eo → Option Ev
  | .none => Option.none
  | .some e => Option.some (ev F e)
def evi (F : Nat → Fn) : I → Iv
  | .e a => ivE (ev F a)
  | .range1 es => ivR1 (evs F es)
  | .range2 es => ivR2 (evs F es)
  | .enum es => ivEnum (evs F es)
  | .zip es => ivZip (evs F es)
  | .bad => fun _ _ => .bad
end
mutual
def sv (F : Nat → Fn) : T → Sv
  | .expr e => svExpr (ev F e)
  | .ret e => svRet (ev F e)
  | .asg e g => svAsg (ev F e) (gv g)
  | .aug i o e => svAug i (aoD o) (ev F e)
  | .put o i v => svPut (ev F o) (ev F i) (ev F v)
  | .ite c a b => svIf (ev F c) (svs F a) (svs F b)
  | .wh n c b => svWhile (ev F c) (svs F b) n
  | .fo it g b => svForI (evi F it) (gv g) (svs F b)
  | .pass => svNext
  | .brk => fun ρ S => .bk ρ S
  | .cont => fun ρ S => .ct ρ S
  | .bad => fun _ _ => .bad
def svs (F : Nat → Fn) : Ts → Sv
  | .nil => svNext
  | .cons s ss => svSeq (sv F s) (svs F ss)
end

/-! ### the translation -/
structure CC where
  N : List Str
  sc : Scope
  fn : Str → Bool
  fs : List Str
  cs : List (Str × D)
  tk : Bool
  wn : Nat
def isDbg (x : Str) : Bool := (x == ("__debug__" : Str)) || (x == ("__classdict__" : Str)) || (x == ("__name__" : Str))
def cName (C : CC) (x : Str) : E := match isDbg x with
  | true => .bad
  | false => match C.sc.names.lookup x with
    | some .globalImplicit => match C.cs.lookup x with
      | some d => .lit d
      | none => .bad
    | some .globalExplicit => .bad
    | some _ => match C.N.findIdx? (· == x) with
      | some i => .var i
      | none => .bad
    | none => .bad
def cConst : Const → E
  | .none => .lit .non
  | .bool b => .lit (.bl b)
  | .int i => .lit (.int i)
  | .str x => .lit (.str x)
  | _ => .bad
def cBo : Operator → Option Bo
  | .Add => some .add
  | .Sub => some .sub
  | .Mult => some .mul
  | .FloorDiv => some .fdiv
  | .Mod => some .mod
  | _ => none
def cCo : CmpOp → Co
  | .Eq => .eq
  | .NotEq => .ne
  | .Lt => .lt
  | .LtE => .le
  | .Gt => .gt
  | .GtE => .ge
  | .In => .is_in
  | .NotIn => .notIn
  | .Is => .is
  | .IsNot => .isNot
def cEs (f : Expr → E) : List Expr → Es
  | [] => .nil
  | .Starred e _ :: r => .star (f e) (cEs f r)
  | e :: r => .cons (f e) (cEs f r)
def cBs (f : Expr → E) (j : E → E → E) : List Expr → E
  | [] => .bad
  | [a] => f a
  | a :: b :: r => j (f a) (cBs f j (b :: r))
def cEo (f : Expr → E) : Option Expr → Eo
  | none => .none
  | some e => .some (f e)
/-- a module's or built-in name -/
def isGl (C : CC) (x : Str) : Bool := (match C.sc.names.lookup x with
  | some .globalImplicit => true
  | _ => false) && !isDbg x
def biOf (x : Str) : Option Bi :=
  if x == ("len" : Str) then some .len else if x == ("int" : Str) then some .int else if x == ("min" : Str) then some .min else if x == ("max" : Str) then some .max else
  if x == ("all" : Str) then some .all else if x == ("any" : Str) then some .any else if x == ("sum" : Str) then some .sum else if x == ("tuple" : Str) then some .tuple else if x == ("list" : Str) then some .list else if x == ("sorted" : Str) then some .sorted else none
def tnOf (x : Str) : Option Tn :=
  if x == ("int" : Str) then some .int else if x == ("bool" : Str) then some .bool else if x == ("str" : Str) then some .str else if x == ("tuple" : Str) then some .tuple else if x == ("list" : Str) then some .list else if x == ("dict" : Str) then some .dict else none
def cIsi (C : CC) (f : Expr → E) (a t : Expr) : E := match t with
  | .Name y _ => match isGl C y, tnOf y with
    | true, some T => .isi [T] (f a)
    | _, _ => .bad
  | .Tuple [.Name y _, .Name z _] _ _ => match isGl C y && isGl C z, tnOf y, tnOf z with
    | true, some T, some U => .isi [T, U] (f a)
    | _, _, _ => .bad
  | _ => .bad
def cCall (C : CC) (f : Expr → E) (x : Str) (es : List Expr) : E := match isGl C x && es.all noStar with
  | true => match C.fs.findIdx? (· == x) with
    | some i => .call i (cEs f es)
    | none => match biOf x with
      | some b => match es with
        | [] => .bad
        | _ => .bi b (cEs f es)
      | none => match x == ("isinstance" : Str), es with
        | true, [a, t] => cIsi C f a t
        | _, _ => .bad
  | false => .bad
def meOf (x : Str) : Option Me :=
  if x == ("append" : Str) then some .append else if x == ("pop" : Str) then some .pop else if x == ("get" : Str) then some .get else none
def cMeth (f : Expr → E) (o : Expr) (name : Str) (apos cpos : Pos) (es : List Expr) : E := match noSuper o && (apos.endLine == cpos.line) && es.all noStar && decide (es.length < 20) with
  | true => match meOf name with
    | some .append => match es with
      | [] => .bad
      | _ => .meth .append (f o) (cEs f es)
    | some .pop => .meth .pop (f o) (cEs f es)
    | some .get => match es with
      | [_] => .meth .get (f o) (cEs f es)
      | _ => .bad
    | none => .bad
  | false => .bad
def cI (C : CC) (f : Expr → E) (tg iter : Expr) : I := match noSet iter with
  | true => match iter with
    | .Call (.Name x _) es [] _ => match isGl C x && es.all noStar && (C.fs.findIdx? (· == x)).isNone with
      | true => match x == ("range" : Str), es with
        | true, [_] => .range1 (cEs f es)
        | true, [_, _] => .range2 (cEs f es)
        | true, _ => .bad
        | false, es => match tg with
          | .Tuple _ _ _ => match x == ("enumerate" : Str), x == ("zip" : Str), es with
            | true, _, [_] => .enum (cEs f es)
            | true, _, _ => .bad
            | false, true, [_, _] => .zip (cEs f es)
            | false, true, _ => .bad
            | false, false, _ => .e (f iter)
          | _ => .e (f iter)
      | false => .e (f iter)
    | _ => .e (f iter)
  | false => .bad
mutual
def cG (C : CC) : Nat → Expr → G
  | 0, _ => .bad
  | n + 1, tg => match tg with
    | .Name x _ => match C.sc.names.lookup x, C.fn x with
      | some .local, _ => match C.N.findIdx? (· == x) with
        | some i => .name i
        | none => .bad
      | some .cell, true => match C.N.findIdx? (· == x) with
        | some i => .name i
        | none => .bad
      | _, _ => .bad
    | .Tuple es _ _ => match es.all noStar with
      | true => .tup es.length (cGs C n es)
      | false => .bad
    | _ => .bad
def cGs (C : CC) : Nat → List Expr → Gs
  | 0, _ => .cons .bad .nil
  | n + 1, es => match es with
    | [] => .nil
    | e :: r => .cons (cG C n e) (cGs C n r)
end
def ownOf (N : List Str) (scope : Scope) : List (Str × Nat) := scope.names.filterMap fun y => match y.2 with
  | .local => (N.findIdx? (· == y.1)).map fun i => (y.1, i)
  | .cell => (N.findIdx? (· == y.1)).map fun i => (y.1, i)
  | _ => none
def CC.blk (C : CC) (scope : Scope) : CC := { C with sc := relS scope C.sc, fn := fun x => scope.names.lookup x == some .cell }
/-- an expression (t: as a test) -/
def cX : Nat → CC → Bool → Expr → E
  | 0, _, _, _ => .bad
  | n + 1, C, t, e => match e with
    | .Name x _ => cName C x
    | .Constant c _ _ => cConst c
    | .BinOp a o b _ => match cBo o with
      | some o => .bin o (cX n C false a) (cX n C false b)
      | none => .bad
    | .UnaryOp .Not a _ => .not (cX n C t a)
    | .UnaryOp .USub a _ => .neg (cX n C false a)
    | .BoolOp .And vs _ => cBs (cX n C t) .and vs
    | .BoolOp .Or vs _ => cBs (cX n C t) .or vs
    | .IfExp c a b _ => match t with
      | true => .bad
      | false => .ite (cX n C true c) (cX n C false a) (cX n C false b)
    | .Compare a [o] [b] _ => match noSet b with
      | true => .cmp (cCo o) (cX n C false a) (cX n C false b)
      | false => .bad
    | .Compare a [o, p] [b, c] _ => match noSet c with
      | true => .chain (cCo o) (cCo p) (cX n C false a) (cX n C false b) (cX n C false c)
      | false => .bad
    | .Tuple es _ _ => .tup (cEs (cX n C false) es)
    | .List es _ => .lst (cEs (cX n C false) es)
    | .Dict [] [] _ => .dnew C.tk
    | .Dict [some k] [v] _ => .disp (cX n C false k) (cX n C false v)
    | .Subscript a (.Slice lo hi none _) _ => .sl (cX n C false a) (cEo (cX n C false) lo) (cEo (cX n C false) hi)
    | .Subscript a b _ => match noSlice b with
      | true => .ix (cX n C false a) (cX n C false b)
      | false => .bad
    | .Call (.Name x _) [.Call (.Name y p1) [a] [] p2] [] _ => match isGl C x && isGl C y && (C.fs.findIdx? (· == x)).isNone && (C.fs.findIdx? (· == y)).isNone && (x == ("list" : Str)) && (y == ("enumerate" : Str)) && noStar a with
      | true => .lenum (cEs (cX n C false) [a])
      | false => cCall C (cX n C false) x [.Call (.Name y p1) [a] [] p2]
    | .Call (.Name x _) [.SetComp elt [⟨tg, iter, ifs, 0⟩] scope _] [] _ => match isGl C x && (C.fs.findIdx? (· == x)).isNone && (x == ("len" : Str)) && blkC C.N C.sc scope (ownOf C.N scope) && noSet iter && ((cG (C.blk scope) n tg).slots.all fun i => ((ownOf C.N scope).map (·.2)).contains i) with
      | true => match ifs with
        | [] => .scl (cI C (cX n C false) tg iter) ((ownOf C.N scope).map (·.2)) (cG (C.blk scope) n tg) (.lit (.bl true)) (cX n (C.blk scope) false elt)
        | [c] => .scl (cI C (cX n C false) tg iter) ((ownOf C.N scope).map (·.2)) (cG (C.blk scope) n tg) (cX n (C.blk scope) true c) (cX n (C.blk scope) false elt)
        | _ => .bad
      | false => .bad
    | .Call (.Name x _) es [] _ => cCall C (cX n C false) x es
    | .Call (.Attribute o name apos) es [] cpos => cMeth (cX n C false) o name apos cpos es
    | .ListComp elt [⟨tg, iter, ifs, 0⟩] scope _ => match blkC C.N C.sc scope (ownOf C.N scope) && noSet iter && ((cG (C.blk scope) n tg).slots.all fun i => ((ownOf C.N scope).map (·.2)).contains i) with
      | true => match ifs with
        | [] => .comp (cI C (cX n C false) tg iter) ((ownOf C.N scope).map (·.2)) (cG (C.blk scope) n tg) (.lit (.bl true)) (cX n (C.blk scope) false elt)
        | [c] => .comp (cI C (cX n C false) tg iter) ((ownOf C.N scope).map (·.2)) (cG (C.blk scope) n tg) (cX n (C.blk scope) true c) (cX n (C.blk scope) false elt)
        | _ => .bad
      | false => .bad
    | .ListComp elt [⟨tg, iter, ifs, 0⟩, ⟨tg1, iter1, ifs1, 0⟩] scope _ => match blkC C.N C.sc scope (ownOf C.N scope) && noSet iter && noSet iter1 && ((cG (C.blk scope) n tg).slots.all fun i => ((ownOf C.N scope).map (·.2)).contains i) && ((cG (C.blk scope) n tg1).slots.all fun i => ((ownOf C.N scope).map (·.2)).contains i) with
      | true => match ifs, ifs1 with
        | [], [] => .comp2 (cI C (cX n C false) tg iter) ((ownOf C.N scope).map (·.2)) (cG (C.blk scope) n tg) (.lit (.bl true)) (cI (C.blk scope) (cX n (C.blk scope) false) tg1 iter1) (cG (C.blk scope) n tg1).slots (cG (C.blk scope) n tg1) (.lit (.bl true)) (cX n (C.blk scope) false elt)
        | [], [c] => .comp2 (cI C (cX n C false) tg iter) ((ownOf C.N scope).map (·.2)) (cG (C.blk scope) n tg) (.lit (.bl true)) (cI (C.blk scope) (cX n (C.blk scope) false) tg1 iter1) (cG (C.blk scope) n tg1).slots (cG (C.blk scope) n tg1) (cX n (C.blk scope) true c) (cX n (C.blk scope) false elt)
        | _, _ => .bad
      | false => .bad
    | _ => .bad
/-! ### statements -/
def isLoc (C : CC) (x : Str) : Bool := match C.sc.names.lookup x with
  | some .local => true
  | _ => false
/-- does «y = [..]» store at once -/
def swB (C : CC) (y : Str) (py : Pos) (scope : Scope) (pos : Pos) : Bool := isLoc C y && (py.line == pos.line) && !(scope.names.any fun (n, k) => n == y && (k == .local || k == .cell))
/-- the stores of «a, b = x, y»: some none: in their order; some names: from the right -/
def swp (C : CC) (ts vs : List Expr) : Option (Option (List Str)) :=
  if (!(ts.length == 2 || ts.length == 3) || vs.length != ts.length) = true then some none else
  if (vs.any fun | .Starred .. => true | _ => false) = true then some none else
  let line := (ts.head?.map (·.pos.line)).getD 0
  let names := ts.filterMap fun
    | .Name id pos => if C.sc.names.lookup id == some .local && pos.line == line then some id else none
    | _ => none
  if (names.length != ts.length || names.eraseDups.length != names.length) = true then some none else
  if vs.all (foldedForSure 8) = true then some none else
  if vs.all (constantsAlone 8) = true then none else some (some names)
/-- a plain store of a name -/
def cAsgN (C : CC) (x : Str) (v : E) : T := match C.sc.names.lookup x, C.fn x with
  | some .local, _ => match C.N.findIdx? (· == x) with
    | some i => .asg v (.name i)
    | none => .bad
  | some .cell, true => match C.N.findIdx? (· == x) with
    | some i => .asg v (.name i)
    | none => .bad
  | _, _ => .bad
def sameStrs : List Str → List Str → Bool
  | [], [] => true
  | a :: r, b :: s => (a == b) && sameStrs r s
  | _, _ => false
def cPar (C : CC) (n : Nat) (ts vs : List Expr) : T := match swp C ts vs with
  | some none => match ts.all noStar with
    | true => .asg (.tup (cEs (cX n C false) vs)) (.tup ts.length (cGs C n ts))
    | false => .bad
  | some (some names) => match ts, vs with
    | [.Name x _, .Name y _], [a, b] => match sameStrs names [x, y] && isLoc C x && isLoc C y, C.N.findIdx? (· == x), C.N.findIdx? (· == y) with
      | true, some i, some j => match Nat.beq i j with
        | false => .asg (.tup (cEs (cX n C false) [a, b])) (.tup 2 (.cons (.name i) (.cons (.name j) .nil)))
        | true => .bad
      | _, _, _ => .bad
    | [.Name x _, .Name y _, .Name z _], [a, b, c] => match sameStrs names [x, y, z] && isLoc C x && isLoc C y && isLoc C z, C.N.findIdx? (· == x), C.N.findIdx? (· == y), C.N.findIdx? (· == z) with
      | true, some i, some j, some l => match Nat.beq i j || Nat.beq i l || Nat.beq j l with
        | false => .asg (.tup (cEs (cX n C false) [a, b, c])) (.tup 3 (.cons (.name i) (.cons (.name j) (.cons (.name l) .nil))))
        | true => .bad
      | _, _, _, _ => .bad
    | _, _ => .bad
  | none => .bad
def cAsg (C : CC) (n : Nat) (tg v : Expr) : T := match tg with
  | .Name x py => match noComp v with
    | true => cAsgN C x (cX n C false v)
    | false => match v with
      | .ListComp _ [⟨_, _, _, 0⟩] scope pos => match swB C x py scope pos with
        | false => cAsgN C x (cX n C false v)
        | true => match n with
          | 0 => .bad
          | _ + 1 => cAsgN C x (cX n C false v)
      | .ListComp _ [⟨_, _, _, 0⟩, ⟨_, _, _, 0⟩] scope pos => match swB C x py scope pos with
        | false => cAsgN C x (cX n C false v)
        | true => match n with
          | 0 => .bad
          | _ + 1 => cAsgN C x (cX n C false v)
      | _ => .bad
  | .Tuple ts _ _ => match v with
    | .Tuple vs _ _ => cPar C n ts vs
    | _ => match ts.all noStar && noComp v with
      | true => .asg (cX n C false v) (.tup ts.length (cGs C n ts))
      | false => .bad
  | .Subscript o i _ => .put (cX n C false o) (cX n C false i) (cX n C false v)
  | _ => .bad
def cAo : Operator → Option Ao
  | .Add => some .add
  | .Sub => some .sub
  | _ => none
mutual
def cT : Nat → CC → Stmt → T
  | 0, _, _ => .bad
  | n + 1, C, st => match st with
    | .Expr e _ => match noComp e with
      | true => .expr (cX n C false e)
      | false => .bad
    | .Return (some e) _ => .ret (cX n C false e)
    | .Return none _ => .ret (.lit .non)
    | .Assign [tg] v _ => cAsg C n tg v
    | .AugAssign (.Name x _) op e _ => match cAo op, C.sc.names.lookup x, C.fn x, C.N.findIdx? (· == x) with
      | some o, some .local, _, some i => .aug i o (cX n C false e)
      | some o, some .cell, true, some i => .aug i o (cX n C false e)
      | _, _, _, _ => .bad
    | .If c a b _ => .ite (cX n C true c) (cTs n C a) (cTs n C b)
    | .While c b [] _ => .wh C.wn (cX n C true c) (cTs n C b)
    | .For tg iter b [] _ => match noSet iter with
      | true => .fo (cI C (cX n C false) tg iter) (cG C n tg) (cTs n C b)
      | false => .bad
    | .Pass _ => .pass
    | .Break _ => .brk
    | .Continue _ => .cont
    | _ => .bad
def cTs : Nat → CC → List Stmt → Ts
  | 0, _, _ => .cons .bad .nil
  | n + 1, C, ss => match ss with
    | [] => .nil
    | s :: r => .cons (cT n C s) (cTs n C r)
end
end Sw

/-! Eng14: the translation of expressions is right. -/
namespace Sw
open PySem PySem.Spec PyProof.Rows L2
def bltNames : List Str := ["len", "int", "min", "max", "all", "any", "sum", "tuple", "list", "isinstance", "bool", "str", "dict", "range", "enumerate", "zip", "sorted"]
/-- a context of the translation -/
structure Good (C : CC) (X : Cx) (F : Nat → Fn) (k : Nat) : Prop where
  N : X.N = C.N
  nd : C.N.Nodup
  sc : X.env.scope = C.sc
  kind : C.sc.kind = .function
  fn : ∀ x, X.fn x = C.fn x
  calm : X.calm = true
  xe : X.xe = fun _ _ => False
  room : Room k X.A
  defs : ∀ i x, C.fs[i]? = some x → ∃ ar, Def X.prog X.w X.K X.mg X.base k x ar (F i)
  con : ∀ x d, C.cs.lookup x = some d → ∃ v u, X.mg x = some u ∧ RelV v u ∧ ∀ m k H, RD m k H d v
  blt : ∀ x ∈ bltNames, X.mg x = none
section
variable {C : CC} {X : Cx} {F : Nat → Fn} {k : Nat} {e a b c : Expr} {es : List Expr} {pos : Pos} {x : Str}
theorem Good.hu (G : Good C X F k) : X.A.units + 64 < cLine := by have := G.room.un; omega
theorem Good.hu1 (G : Good C X F k) : X.A.units + 1 < cLine := by have := G.room.un; omega
theorem pev_bad : PE X e (rdE evBad) := ⟨fun _ _ _ _ _ _ h => by obtain ⟨_, _, _, _, _, _, _, e, _⟩ := h; cases e⟩
theorem ptv_bad : PT X e (rdT evBad) := ⟨fun _ _ _ _ _ _ h => by obtain ⟨_, _, _, _, _, _, _, e, _⟩ := h; cases e⟩
theorem pi_bad {tg : Expr} : PI X tg e (rdI fun _ _ => .bad) := ⟨fun _ _ _ _ _ _ h => by obtain ⟨_, _, _, _, _, _, _, e, _⟩ := h; cases e⟩
theorem pg_bad {sl : List Nat} : PG X e (rdG sl fun _ _ _ => .bad) := ⟨fun _ _ _ _ _ _ _ _ _ h => by obtain ⟨_, _, _, _, _, _, _, _, _, e, _⟩ := h; cases e⟩
theorem find_at {N : List Str} {i : Nat} (h : N.findIdx? (· == x) = some i) : N[i]? = some x := by
  obtain ⟨h1, h2, _⟩ := List.findIdx?_eq_some_iff_getElem.mp h
  rw [List.getElem?_eq_getElem h1]
  exact congrArg some (by simpa using h2)
theorem dbg1 (h : isDbg x = false) : (x == ("__debug__" : Str)) = false := by
  unfold isDbg at h
  simp only [Bool.or_eq_false_iff] at h
  exact h.1.1
theorem dbg2 (h : isDbg x = false) : (x == ("__classdict__" : Str)) = false := by
  unfold isDbg at h
  simp only [Bool.or_eq_false_iff] at h
  exact h.1.2
theorem dbg3 (h : isDbg x = false) : x ≠ "__name__" := by
  unfold isDbg at h
  simp only [Bool.or_eq_false_iff] at h
  exact fun z => by rw [z] at h; simp at h
theorem isGl_ok (G : Good C X F k) (h : isGl C x = true) : Gl X x ∧ isDbg x = false := by
  unfold isGl at h
  simp only [Bool.and_eq_true, Bool.not_eq_true'] at h
  refine ⟨?_, h.2⟩
  have h1 := h.1
  split at h1
  · rename_i e
    show X.env.kindOf x = _
    unfold Env.kindOf
    rw [G.sc]; exact e
  · cases h1
theorem cName_ok (G : Good C X F k) : PE X (.Name x pos) (rdE (ev F (cName C x))) := by
  unfold cName
  split
  · simp only [ev]; exact pev_bad
  · rename_i hd
    split
    · rename_i hl
      split
      · rename_i d hc
        simp only [ev]
        obtain ⟨v, u, h1, h2, h3⟩ := G.con x d hc
        exact pev_glob (show X.env.kindOf x = _ by unfold Env.kindOf; rw [G.sc]; exact hl) h1 h2 h3 (dbg1 hd)
      · simp only [ev]; exact pev_bad
    · simp only [ev]; exact pev_bad
    · rename_i kk h1 h2 hl
      split
      · rename_i i hi
        simp only [ev]
        refine pev_var (by rw [G.N]; exact find_at hi) ?_ (dbg1 hd) (dbg2 hd)
        unfold Vis
        rw [G.sc, hl]
        cases kk with
        | «local» => exact .inl rfl
        | cell => exact .inr (.inl rfl)
        | free => exact .inr (.inr rfl)
        | globalExplicit => exact absurd rfl h2
        | globalImplicit => exact absurd rfl h1
      · simp only [ev]; exact pev_bad
    · simp only [ev]; exact pev_bad
theorem cConst_ok {v : Const} {j : Nat} : PE X (.Constant v j pos) (rdE (ev F (cConst v))) := by
  unfold cConst
  split <;> simp only [ev]
  · exact pev_non
  · exact pev_bl
  · exact pev_int
  · exact pev_str
  · exact pev_bad
theorem bo_ok {o : Operator} {b : Bo} (h : cBo o = some b) : OpR X (binaryOp o) (rd2 (boD b)) := by
  cases o <;> simp only [cBo] at h <;> cases h
  · exact opv_add
  · exact opv_sub
  · exact opv_mul2
  · exact opv_mod
  · exact opv_fdiv
theorem co_ok (G : Good C X F k) (o : CmpOp) : OpR X (compareOp o) (rd2 (coD (cCo o))) := by
  cases o <;> simp only [cCo, coD]
  · exact opv_eq G.hu
  · exact opv_ne G.hu
  · exact opv_ord op_lt (fun a b c d e f => PySem.W.lt_data a b c d e f) G.hu
  · exact opv_ord op_le (fun a b c d e f => PySem.W.le_data a b c d e f) G.hu
  · exact opv_ord op_gt (fun a b c d e f => PySem.W.gt_data a b c d e f) G.hu
  · exact opv_ord op_ge (fun a b c d e f => PySem.W.ge_data a b c d e f) G.hu
  · exact opv_is
  · exact opv_isNot
  · exact opv_in G.hu
  · exact opv_notIn G.hu
theorem cEs_ok {f : Expr → E} (hf : ∀ e, PE X e (rdE (ev F (f e)))) : ∀ es : List Expr, PA X es (rdA (evs F (cEs f es)))
  | [] => by simp only [cEs, evs]; exact pav_nil
  | e :: es => by
    have ih := cEs_ok hf es
    unfold cEs
    split
    · rename_i h; cases h
    · rename_i e' p r h
      cases h
      simp only [evs]
      exact pav_star (hf _) ih
    · rename_i e' r hn h
      cases h
      simp only [evs]
      refine pav_cons (hf _) ih (star_cons ?_)
      cases e <;> first | rfl | exact absurd rfl (hn _ _)
theorem bi_ok (G : Good C X F k) {b : Bi} (h : biOf x = some b) (hg : Gl X x) (hd : isDbg x = false) (ha : PA X (e :: es) (rdA (evs F (.cons (.bad) .nil)))) : True := trivial
theorem biCall_ok (G : Good C X F k) {b : Bi} {g : EvA} {p : Pos} (h : biOf x = some b) (hg : Gl X x) (hd : isDbg x = false) (ha : PA X (e :: es) (rdA g)) (hs : (e :: es).all noStar = true) : PE X (.Call (.Name x p) (e :: es) [] pos) (rdE (evN (biN b) g)) := by
  have hs' : noStar e = true ∧ es.all noStar = true := by simpa using hs
  have s1 : starEach (e :: es) X.env = (false, eval e X.env) :: starEach es X.env := star_cons hs'.1
  have s2 : (backTo pos (starEach es X.env)).any (·.1) = false := star_plain hs'.2
  unfold biOf at h
  split at h
  · rename_i hx; cases h; have hx := eq_of_beq hx; subst hx
    exact pev_callB crv_len hg (G.blt _ (by simp [bltNames])) boot_len ha (dbg3 hd) (dbg1 hd) s1 s2
  · split at h
    · rename_i hx; cases h; have hx := eq_of_beq hx; subst hx
      exact pev_callTy crv_int hg (G.blt _ (by simp [bltNames])) PyProof.Rows.boot_int ha (dbg3 hd) (dbg1 hd) s1 s2
    · split at h
      · rename_i hx; cases h; have hx := eq_of_beq hx; subst hx
        exact pev_callB (crv_min G.calm) hg (G.blt _ (by simp [bltNames])) boot_min ha (dbg3 hd) (dbg1 hd) s1 s2
      · split at h
        · rename_i hx; cases h; have hx := eq_of_beq hx; subst hx
          exact pev_callB (crv_max G.calm) hg (G.blt _ (by simp [bltNames])) boot_max ha (dbg3 hd) (dbg1 hd) s1 s2
        · split at h
          · rename_i hx; cases h; have hx := eq_of_beq hx; subst hx
            exact pev_callB (crv_all G.calm) hg (G.blt _ (by simp [bltNames])) (by decide +kernel) ha (dbg3 hd) (dbg1 hd) s1 s2
          · split at h
            · rename_i hx; cases h; have hx := eq_of_beq hx; subst hx
              exact pev_callB (crv_any G.calm) hg (G.blt _ (by simp [bltNames])) (by decide +kernel) ha (dbg3 hd) (dbg1 hd) s1 s2
            · split at h
              · rename_i hx; cases h; have hx := eq_of_beq hx; subst hx
                exact pev_callB (crv_sum G.calm) hg (G.blt _ (by simp [bltNames])) boot_sum ha (dbg3 hd) (dbg1 hd) s1 s2
              · split at h
                · rename_i hx; cases h; have hx := eq_of_beq hx; subst hx
                  exact pev_callTy crv_tuple hg (G.blt _ (by simp [bltNames])) PyProof.Rows.boot_tuple ha (dbg3 hd) (dbg1 hd) s1 s2
                · split at h
                  · rename_i hx; cases h; have hx := eq_of_beq hx; subst hx
                    exact pev_callTy crv_list hg (G.blt _ (by simp [bltNames])) PyProof.Rows.boot_list ha (dbg3 hd) (dbg1 hd) s1 s2
                  · split at h
                    · rename_i hx; cases h; have hx := eq_of_beq hx; subst hx
                      exact pev_callB (crv_sorted G.hu) hg (G.blt _ (by simp [bltNames])) (by decide +kernel) ha (dbg3 hd) (dbg1 hd) s1 s2
                    · cases h
theorem tn_ok (G : Good C X F k) {T : Tn} (h : tnOf x = some T) : X.mg x = none ∧ bootBuiltins x = some (.type T.name) := by
  unfold tnOf at h
  split at h
  · rename_i hx; cases h; have hx := eq_of_beq hx; subst hx; exact ⟨G.blt _ (by simp [bltNames]), PyProof.Rows.boot_int⟩
  · split at h
    · rename_i hx; cases h; have hx := eq_of_beq hx; subst hx; exact ⟨G.blt _ (by simp [bltNames]), PyProof.Rows.boot_bool⟩
    · split at h
      · rename_i hx; cases h; have hx := eq_of_beq hx; subst hx; exact ⟨G.blt _ (by simp [bltNames]), PyProof.Rows.boot_str⟩
      · split at h
        · rename_i hx; cases h; have hx := eq_of_beq hx; subst hx; exact ⟨G.blt _ (by simp [bltNames]), PyProof.Rows.boot_tuple⟩
        · split at h
          · rename_i hx; cases h; have hx := eq_of_beq hx; subst hx; exact ⟨G.blt _ (by simp [bltNames]), PyProof.Rows.boot_list⟩
          · split at h
            · rename_i hx; cases h; have hx := eq_of_beq hx; subst hx; exact ⟨G.blt _ (by simp [bltNames]), PyProof.Rows.boot_dict⟩
            · cases h
theorem cCall_ok (G : Good C X F k) {f : Expr → E} {p : Pos} (hf : ∀ e, PE X e (rdE (ev F (f e)))) : PE X (.Call (.Name x p) es [] pos) (rdE (ev F (cCall C f x es))) := by
  unfold cCall
  split
  · rename_i hh
    obtain ⟨h1, h2⟩ := Bool.and_eq_true_iff.mp hh
    obtain ⟨hg, hd⟩ := isGl_ok G h1
    have ha := cEs_ok (F := F) hf es
    split
    · rename_i i hi
      simp only [ev]
      obtain ⟨ar, Df⟩ := G.defs i x (find_at hi)
      cases es with
      | nil => simp only [cEs, evs]; exact pev_call0 Df G.room hg (dbg1 hd)
      | cons e es =>
        have hs' : noStar e = true ∧ es.all noStar = true := by simpa using h2
        exact pev_call Df G.room hg ha (dbg1 hd) (star_cons hs'.1) (star_plain hs'.2)
    · split
      · rename_i b hb
        cases es with
        | nil => simp only [ev]; exact pev_bad
        | cons e es => simp only [ev]; exact biCall_ok G hb hg hd ha h2
      · split
        · rename_i a t hx
          have hx := eq_of_beq hx
          subst hx
          have hs' : noStar a = true ∧ noStar t = true := by simpa using h2
          unfold cIsi
          split
          · rename_i y p1
            split
            · rename_i T hy hT
              obtain ⟨hg1, hd1⟩ := isGl_ok G hy
              obtain ⟨m1, b1⟩ := tn_ok G hT
              simp only [ev]
              exact pev_isi (p2 := p1) (hf a) hg (G.blt _ (by simp [bltNames])) hg1 m1 b1 (dbg3 hd1) (dbg1 hd1) (star_cons hs'.1)
            · simp only [ev]; exact pev_bad
          · rename_i y p1 z p2 kk p3
            split
            · rename_i T U hy hT hU
              obtain ⟨hy1, hy2⟩ := Bool.and_eq_true_iff.mp hy
              obtain ⟨hg1, hd1⟩ := isGl_ok G hy1
              obtain ⟨hg2, hd2⟩ := isGl_ok G hy2
              obtain ⟨m1, b1⟩ := tn_ok G hT
              obtain ⟨m2, b2⟩ := tn_ok G hU
              simp only [ev]
              exact pev_isi2 (hf a) hg (G.blt _ (by simp [bltNames])) hg1 m1 b1 (dbg3 hd1) (dbg1 hd1) hg2 m2 b2 (dbg3 hd2) (dbg1 hd2) (fun es => star_cons hs'.1)
            · simp only [ev]; exact pev_bad
          · simp only [ev]; exact pev_bad
        · simp only [ev]; exact pev_bad
  · simp only [ev]; exact pev_bad
theorem few_ok {env : Env} {cpos : Pos} (h : es.all noStar = true) (hl : es.length < 20) : ((backTo cpos (starEach es env)).all (fun x => !x.1) && (backToKw cpos (keywordEach [] env)).all (fun x => x.1.isSome)
      && decide (es.length + ([] : List Keyword).length + (if ([] : List Keyword).isEmpty then 0 else 1) < 30)) = true := by
  rw [star_few h]
  simp [backToKw, keywordEach]
  omega
theorem cMeth_ok (G : Good C X F k) {f : Expr → E} {o : Expr} {name : Str} {apos cpos : Pos} (hf : ∀ e, PE X e (rdE (ev F (f e)))) : PE X (.Call (.Attribute o name apos) es [] cpos) (rdE (ev F (cMeth f o name apos cpos es))) := by
  unfold cMeth
  split
  · rename_i hh
    simp only [Bool.and_eq_true, decide_eq_true_eq] at hh
    obtain ⟨⟨⟨h1, h2⟩, h3⟩, h4⟩ := hh
    have ha := cEs_ok (F := F) hf es
    split
    · rename_i hn
      unfold meOf at hn
      split at hn
      · rename_i hx
        have hx := eq_of_beq hx
        subst hx
        cases es with
        | nil => simp only [ev]; exact pev_bad
        | cons e es =>
          have hs' : noStar e = true ∧ es.all noStar = true := by simpa using h3
          simp only [ev, evMe]
          exact pev_bm PySem.F.plainAttrs_list PySem.F.slot_list_append PySem.F.type_list_append mtv_app tyV_lst (hf o) ha (base_of h1) (few_ok h3 h4) h2 (star_cons hs'.1) (star_plain hs'.2)
      · split at hn
        · cases hn
        · split at hn <;> cases hn
    · rename_i hn
      unfold meOf at hn
      split at hn
      · cases hn
      · split at hn
        · rename_i hx
          have hx := eq_of_beq hx
          subst hx
          cases es with
          | nil =>
            simp only [ev, evMe, cEs, evs]
            exact pev_bm0 PySem.F.plainAttrs_list PySem.F.slot_list_pop PySem.F.type_list_pop mtv_pop tyV_lst (hf o) (base_of h1) h2
          | cons e es =>
            have hs' : noStar e = true ∧ es.all noStar = true := by simpa using h3
            simp only [ev, evMe]
            exact pev_bm PySem.F.plainAttrs_list PySem.F.slot_list_pop PySem.F.type_list_pop mtv_pop tyV_lst (hf o) ha (base_of h1) (few_ok h3 h4) h2 (star_cons hs'.1) (star_plain hs'.2)
        · split at hn <;> cases hn
    · rename_i hn
      unfold meOf at hn
      split at hn
      · cases hn
      · split at hn
        · cases hn
        · split at hn
          · rename_i hx
            have hx := eq_of_beq hx
            subst hx
            split
            · rename_i e
              have hs' : noStar e = true := by simpa using h3
              have e1 : cEs f [e] = .cons (f e) .nil := by cases e <;> first | rfl | cases hs'
              rw [e1]
              simp only [ev, evMe, evs]
              refine pev_get1 G.hu1 (hf o) (hf e) ⟨base_of h1, few_ok h3 h4, h2, ?_⟩
              rw [star_cons hs']
              rfl
            · simp only [ev]; exact pev_bad
          · cases hn
    · simp only [ev]; exact pev_bad
  · simp only [ev]; exact pev_bad
end
end Sw

/-! Eng15: the translation of expressions is right, the whole. -/
namespace Sw
open PySem PySem.Spec PyProof.Rows L2
section
variable {C : CC} {X : Cx} {F : Nat → Fn} {k : Nat} {e a b c : Expr} {es : List Expr} {pos : Pos} {x : Str}
theorem star1 {env : Env} (h : noStar a = true) : starEach [a] env = [(false, eval a env)] := star_cons h
theorem star2 {env : Env} (h : noStar a = true) (h' : noStar b = true) : starEach [a, b] env = [(false, eval a env), (false, eval b env)] := by rw [star_cons h, star1 h']
theorem cI_ok (G : Good C X F k) {f : Expr → E} {tg iter : Expr} (hf : ∀ e, PE X e (rdE (ev F (f e)))) : PI X tg iter (rdI (evi F (cI C f tg iter))) := by
  unfold cI
  split
  · split
    · rename_i x p es pos _
      have ha := cEs_ok (F := F) hf es
      split
      · rename_i hh
        simp only [Bool.and_eq_true] at hh
        obtain ⟨⟨h1, h2⟩, h3⟩ := hh
        obtain ⟨hg, hd⟩ := isGl_ok G h1
        split
        · have hx := eq_of_beq (show (x == ("range" : Str)) = true by assumption)
          subst hx
          simp only [evi]
          exact piv_range1 hg (G.blt _ (by simp [bltNames])) ha (star1 (by simpa using h2))
        · have hx := eq_of_beq (show (x == ("range" : Str)) = true by assumption)
          subst hx
          simp only [List.all_cons, List.all_nil, Bool.and_eq_true, Bool.and_true] at h2
          simp only [evi]
          exact piv_range2 hg (G.blt _ (by simp [bltNames])) ha (star2 h2.1 h2.2) (star1 h2.2)
        · simp only [evi]; exact pi_bad
        · split
          · split
            · have hx := eq_of_beq (show (x == ("enumerate" : Str)) = true by assumption)
              subst hx
              simp only [evi]
              exact piv_enum hg (G.blt _ (by simp [bltNames])) ha (star1 (by simpa using h2))
            · simp only [evi]; exact pi_bad
            · have hx := eq_of_beq (show (x == ("zip" : Str)) = true by assumption)
              subst hx
              simp only [List.all_cons, List.all_nil, Bool.and_eq_true, Bool.and_true] at h2
              simp only [evi]
              exact piv_zip hg (G.blt _ (by simp [bltNames])) ha (star2 h2.1 h2.2) (star1 h2.2)
            · simp only [evi]; exact pi_bad
            · simp only [evi]; exact piv_e (hf _)
          · simp only [evi]; exact piv_e (hf _)
      · simp only [evi]; exact piv_e (hf _)
    · simp only [evi]; exact piv_e (hf _)
  · simp only [evi]; exact pi_bad
theorem asg_cons {env : Env} (h : noStar e = true) : (assignEach (e :: es) env).map (·.2) = assign e env :: (assignEach es env).map (·.2) := by
  cases e <;> first | rfl | cases h
theorem asg_len {env : Env} : ∀ {es : List Expr}, es.all noStar = true → (assignEach es env).length = es.length ∧ (assignEach es env).findIdx? (·.1) = none
  | [], _ => ⟨rfl, rfl⟩
  | e :: es, h => by
    simp only [List.all_cons, Bool.and_eq_true] at h
    obtain ⟨h1, h2⟩ := asg_len (env := env) h.2
    have e1 : assignEach (e :: es) env = (false, assign e env) :: assignEach es env := by
      cases e <;> first | rfl | cases h.1
    rw [e1]
    refine ⟨by simp [h1], ?_⟩
    rw [List.findIdx?_cons]
    simp [h2]
mutual
theorem cG_ok (G : Good C X F k) {sl : List Nat} : ∀ (n : Nat) (tg : Expr), (∀ i ∈ (cG C n tg).slots, i ∈ sl) → PG X tg (rdG sl (gv (cG C n tg)))
  | 0, tg, _ => by simp only [cG, gv]; exact pg_bad
  | n + 1, tg, h => by
    unfold cG at h ⊢
    split
    · rename_i x p
      split
      · rename_i hl
        split
        · rename_i i hi
          simp only [gv]
          refine pgv_name (h i ?_) (by rw [G.N]; exact G.nd) (by rw [G.N]; exact find_at hi) (.inl (by rw [G.sc]; exact hl)) (.inr (by rw [G.sc]; exact hl))
          simp only [hl, hi, Sw.G.slots, List.mem_singleton]
        · simp only [gv]; exact pg_bad
      · rename_i hl hfn
        split
        · rename_i i hi
          simp only [gv]
          refine pgv_name (h i ?_) (by rw [G.N]; exact G.nd) (by rw [G.N]; exact find_at hi) (.inr (by rw [G.sc]; exact hl)) (.inl (by rw [G.fn]; exact hfn))
          simp only [hl, hfn, hi, Sw.G.slots, List.mem_singleton]
        · simp only [gv]; exact pg_bad
      · simp only [gv]; exact pg_bad
    · rename_i es kk p
      split
      · rename_i hs
        simp only [gv]
        refine pgv_tup G.calm (cGs_ok G n es hs fun i hi => h i ?_) (asg_len hs).1 (asg_len hs).2
        simp only [hs, Sw.G.slots]; exact hi
      · simp only [gv]; exact pg_bad
    · simp only [gv]; exact pg_bad
theorem cGs_ok (G : Good C X F k) {sl : List Nat} : ∀ (n : Nat) (es : List Expr), es.all noStar = true → (∀ i ∈ (cGs C n es).slots, i ∈ sl) → PGs X es (rdGs sl (gvs (cGs C n es)))
  | 0, es, _, _ => by
    simp only [cGs, gvs, gv]
    exact ⟨fun _ _ _ _ _ _ _ _ _ h => by
      obtain ⟨_, _, _, ds, _, _, _, _, _, e, _⟩ := h
      unfold gvCons at e
      split at e <;> cases e⟩
  | n + 1, es, hs, h => by
    unfold cGs at h ⊢
    cases es with
    | nil => simp only [gvs]; exact pgvs_nil
    | cons e es =>
      simp only [List.all_cons, Bool.and_eq_true] at hs
      simp only [gvs]
      exact pgvs_cons (cG_ok G n e fun i hi => h i (by simp only [Gs.slots]; exact List.mem_append_left _ hi)) (cGs_ok G n es hs.2 fun i hi => h i (by simp only [Gs.slots]; exact List.mem_append_right _ hi)) (asg_cons hs.1)
end
theorem cBs_and {f : Expr → E} (hf : ∀ e, PE X e (rdE (ev F (f e)))) : ∀ vs : List Expr, PE X (.BoolOp .And vs pos) (rdE (ev F (cBs f .and vs)))
  | [] => by simp only [cBs, ev]; exact pev_bad
  | [a] => by simp only [cBs]; exact pev_one (hf a)
  | a :: b :: r => by
    have ih := cBs_and hf (b :: r)
    simp only [cBs, ev]
    exact pev_and (hf a) ih
theorem cBs_or {f : Expr → E} (hf : ∀ e, PE X e (rdE (ev F (f e)))) : ∀ vs : List Expr, PE X (.BoolOp .Or vs pos) (rdE (ev F (cBs f .or vs)))
  | [] => by simp only [cBs, ev]; exact pev_bad
  | [a] => by simp only [cBs]; exact pev_one (hf a)
  | a :: b :: r => by
    have ih := cBs_or hf (b :: r)
    simp only [cBs, ev]
    exact pev_or (hf a) ih
theorem pwv_bad : PW X e (rdT evBad) := ⟨fun _ _ _ _ _ _ _ h => by obtain ⟨_, _, _, _, _, _, _, e, _⟩ := h; cases e⟩
theorem cBs_andT {f : Expr → E} (hf : ∀ e, PT X e (rdT (ev F (f e)))) : ∀ vs : List Expr, PW X (.BoolOp .And vs pos) (rdT (ev F (cBs f .and vs)))
  | [] => by simp only [cBs, ev]; exact pwv_bad
  | [a] => by simp only [cBs]; exact pwv_and1 (hf a)
  | a :: b :: r => by
    have ih := cBs_andT hf (b :: r)
    simp only [cBs, ev]
    exact pwv_and (hf a) ih
theorem cBs_orT {f : Expr → E} (hf : ∀ e, PT X e (rdT (ev F (f e)))) : ∀ vs : List Expr, PW X (.BoolOp .Or vs pos) (rdT (ev F (cBs f .or vs)))
  | [] => by simp only [cBs, ev]; exact pwv_bad
  | [a] => by simp only [cBs]; exact pwv_or1 (hf a)
  | a :: b :: r => by
    have ih := cBs_orT hf (b :: r)
    simp only [cBs, ev]
    exact pwv_or (hf a) ih
theorem Good.blk (G : Good C X F k) {scope : Scope} (hk : scope.kind = .function) (s : Shared) (H : Hp) (Ca : Addr) (cl : List (Str × Addr)) (fp : List Addr) : Good (C.blk scope) (X.blk s H scope (compEnvC scope cl Ca X.env) fp) F k where
  N := G.N
  nd := G.nd
  sc := by
    show (compEnvC scope cl Ca X.env).scope = relS scope C.sc
    rw [← G.sc]
    rfl
  kind := hk
  fn := fun _ => rfl
  calm := G.calm
  xe := rfl
  room := G.room
  defs := G.defs
  con := G.con
  blt := G.blt
theorem cEo_ok {f : Expr → E} (hf : ∀ e, PE X e (rdE (ev F (f e)))) : ∀ o : Option Expr, PO X o (rdO (evo F (cEo f o)))
  | none => by simp only [cEo, evo]; exact pov_none
  | some e => by simp only [cEo, evo]; exact pov_some (hf e)
/-- what a comprehension needs -/
theorem blk_ok (G : Good C X F k) {scope : Scope} {n : Nat} {tg iter : Expr} (h : (blkC C.N C.sc scope (ownOf C.N scope) && noSet iter && ((cG (C.blk scope) n tg).slots.all fun i => ((ownOf C.N scope).map (·.2)).contains i)) = true) :
    BlkOk X.N X.env.scope scope (ownOf C.N scope) ∧ scope.kind = .function ∧ noSet iter = true ∧ ∀ i ∈ (cG (C.blk scope) n tg).slots, i ∈ (ownOf C.N scope).map (·.2) := by
  simp only [Bool.and_eq_true] at h
  have hb := blkOk_by h.1.1
  refine ⟨by rw [G.N, G.sc]; exact hb, hb.kind, h.1.2, fun i hi => ?_⟩
  have := List.all_eq_true.mp h.2 i hi
  simpa using this
theorem plain_eq {n : Nat} (h : plainT e = true) : cX (n + 1) C true e = cX (n + 1) C false e := by
  unfold cX
  split <;> first | rfl | cases h | (split <;> first | rfl | simp_all)
theorem cX_ok : ∀ (n : Nat) (C : CC) (X : Cx), Good C X F k → (∀ e, PE X e (rdE (ev F (cX n C false e)))) ∧ ∀ e, PT X e (rdT (ev F (cX n C true e)))
  | 0, C, X, G => ⟨fun e => by simp only [cX, ev]; exact pev_bad, fun e => by simp only [cX, ev]; exact ptv_bad⟩
  | n + 1, C, X, G => by
    obtain ⟨ihE, ihT⟩ := cX_ok n C X G
    have pe : ∀ e, PE X e (rdE (ev F (cX (n + 1) C false e))) := fun e => by
      unfold cX
      split
      · exact cName_ok G
      · exact cConst_ok
      · split
        · rename_i o ho; simp only [ev]; exact pev_bin (bo_ok ho) (ihE _) (ihE _)
        · simp only [ev]; exact pev_bad
      · simp only [ev]; exact pev_not (ihE _)
      · simp only [ev]; exact pev_neg (ihE _)
      · exact cBs_and ihE _
      · exact cBs_or ihE _
      · simp only [ev]; exact pev_if (ihT _) (ihE _) (ihE _)
      · split
        · rename_i hs; simp only [ev]; exact pev_cmp (co_ok G _) (ihE _) (ihE _) (behind_of hs)
        · simp only [ev]; exact pev_bad
      · split
        · rename_i hs; simp only [ev]; exact pev_chain (co_ok G _) (co_ok G _) (ihE _) (ihE _) (ihE _) (last_of hs)
        · simp only [ev]; exact pev_bad
      · simp only [ev]; exact pev_tup (cEs_ok ihE _)
      · simp only [ev]; exact pev_lst (cEs_ok ihE _)
      · cases htk : C.tk <;> simp only [ev]
        · exact pev_dnewK
        · exact pev_dnewT
      · simp only [ev]; exact pev_disp G.hu1 (ihE _) (ihE _)
      · simp only [ev]; exact pev_slice (ihE _) (cEo_ok ihE _) (cEo_ok ihE _)
      · split
        · rename_i hs; simp only [ev]; exact pev_ix G.hu1 (ihE _) (ihE _) (plainIx_of hs)
        · simp only [ev]; exact pev_bad
      · rename_i x p0 y p1 a p2 p3
        split
        · rename_i hh
          simp only [Bool.and_eq_true] at hh
          obtain ⟨⟨⟨⟨⟨⟨h1, h2⟩, h3⟩, h4⟩, h5⟩, h6⟩, h7⟩ := hh
          have h5 := eq_of_beq h5
          have h6 := eq_of_beq h6
          subst h5 h6
          simp only [ev]
          exact pev_lenum G.calm (isGl_ok G h1).1 (G.blt _ (by simp [bltNames])) (isGl_ok G h2).1 (G.blt _ (by simp [bltNames])) (cEs_ok ihE [a]) (star1 h7)
        · exact cCall_ok G ihE
      · rename_i x p0 elt tg iter ifs scope p1 p2
        split
        · rename_i hh
          simp only [Bool.and_eq_true] at hh
          obtain ⟨⟨⟨⟨⟨h1, h2⟩, h3⟩, h4⟩, h5⟩, h6⟩ := hh
          have h3 := eq_of_beq h3
          subst h3
          obtain ⟨hg, hd⟩ := isGl_ok G h1
          obtain ⟨b1, b2, b3, b4⟩ := blk_ok (n := n) (tg := tg) (iter := iter) (scope := scope) G (by simp only [Bool.and_eq_true]; exact ⟨⟨h4, h5⟩, h6⟩)
          split
          · simp only [ev]
            exact pev_callB crv_lenS hg (G.blt _ (by simp [bltNames])) boot_len (pav_cons (pev_sc G.calm (by rw [G.N]; exact G.nd) (cI_ok G ihE) b1 (fun s H Ca cl fp => cG_ok (G.blk b2 s H Ca cl fp) n tg b4) (fun _ _ _ _ _ => ptsv_nil) (fun s H Ca cl fp => (cX_ok n _ _ (G.blk b2 s H Ca cl fp)).1 _) (folded_of b3)) pav_nil rfl) (dbg3 hd) (dbg1 hd) rfl rfl
          · simp only [ev]
            exact pev_callB crv_lenS hg (G.blt _ (by simp [bltNames])) boot_len (pav_cons (pev_sc G.calm (by rw [G.N]; exact G.nd) (cI_ok G ihE) b1 (fun s H Ca cl fp => cG_ok (G.blk b2 s H Ca cl fp) n tg b4) (fun s H Ca cl fp => ptsv_one ((cX_ok n _ _ (G.blk b2 s H Ca cl fp)).2 _)) (fun s H Ca cl fp => (cX_ok n _ _ (G.blk b2 s H Ca cl fp)).1 _) (folded_of b3)) pav_nil rfl) (dbg3 hd) (dbg1 hd) rfl rfl
          · simp only [ev]; exact pev_bad
        · simp only [ev]; exact pev_bad
      · exact cCall_ok G ihE
      · exact cMeth_ok G ihE
      · rename_i elt tg iter ifs scope p
        split
        · rename_i hh
          obtain ⟨b1, b2, b3, b4⟩ := blk_ok G hh
          split
          · simp only [ev]
            exact pev_comp G.calm (by rw [G.N]; exact G.nd) (cI_ok G ihE) b1 (fun s H Ca cl fp => cG_ok (G.blk b2 s H Ca cl fp) n tg b4) (fun _ _ _ _ _ => ptsv_nil) (fun s H Ca cl fp => (cX_ok n _ _ (G.blk b2 s H Ca cl fp)).1 _) (folded_of b3)
          · simp only [ev]
            exact pev_comp G.calm (by rw [G.N]; exact G.nd) (cI_ok G ihE) b1 (fun s H Ca cl fp => cG_ok (G.blk b2 s H Ca cl fp) n tg b4) (fun s H Ca cl fp => ptsv_one ((cX_ok n _ _ (G.blk b2 s H Ca cl fp)).2 _)) (fun s H Ca cl fp => (cX_ok n _ _ (G.blk b2 s H Ca cl fp)).1 _) (folded_of b3)
          · simp only [ev]; exact pev_bad
        · simp only [ev]; exact pev_bad
      · rename_i elt tg iter ifs tg1 iter1 ifs1 scope p
        split
        · rename_i hh
          simp only [Bool.and_eq_true] at hh
          obtain ⟨⟨⟨⟨h1, h2⟩, h3⟩, h4⟩, h5⟩ := hh
          obtain ⟨b1, b2, b3, b4⟩ := blk_ok (n := n) (tg := tg) (iter := iter) (scope := scope) G (by simp only [Bool.and_eq_true]; exact ⟨⟨h1, h2⟩, h4⟩)
          have hv : ∀ i ∈ (cG (C.blk scope) n tg1).slots, i ∈ (ownOf C.N scope).map (·.2) := fun i hi => by
            have := List.all_eq_true.mp h5 i hi
            simpa using this
          split
          · simp only [ev]
            exact pev_comp2 G.calm (by rw [G.N]; exact G.nd) (cI_ok G ihE) b1 hv (fun s H Ca cl fp => cG_ok (G.blk b2 s H Ca cl fp) n tg b4) (fun _ _ _ _ _ => ptsv_nil) (fun s H Ca cl fp => cI_ok (G.blk b2 s H Ca cl fp) (cX_ok n _ _ (G.blk b2 s H Ca cl fp)).1) (fun s H Ca cl fp => cG_ok (G.blk b2 s H Ca cl fp) n tg1 fun _ z => z) (fun _ _ _ _ _ => ptsv_nil) (fun s H Ca cl fp => (cX_ok n _ _ (G.blk b2 s H Ca cl fp)).1 _) (folded_of b3) (fun env x => folded_of h3 x)
          · simp only [ev]
            exact pev_comp2 G.calm (by rw [G.N]; exact G.nd) (cI_ok G ihE) b1 hv (fun s H Ca cl fp => cG_ok (G.blk b2 s H Ca cl fp) n tg b4) (fun _ _ _ _ _ => ptsv_nil) (fun s H Ca cl fp => cI_ok (G.blk b2 s H Ca cl fp) (cX_ok n _ _ (G.blk b2 s H Ca cl fp)).1) (fun s H Ca cl fp => cG_ok (G.blk b2 s H Ca cl fp) n tg1 fun _ z => z) (fun s H Ca cl fp => ptsv_one ((cX_ok n _ _ (G.blk b2 s H Ca cl fp)).2 _)) (fun s H Ca cl fp => (cX_ok n _ _ (G.blk b2 s H Ca cl fp)).1 _) (folded_of b3) (fun env x => folded_of h3 x)
          · simp only [ev]; exact pev_bad
        · simp only [ev]; exact pev_bad
      · simp only [ev]; exact pev_bad
    refine ⟨pe, fun e => ?_⟩
    have plain : plainT e = true → PT X e (rdT (ev F (cX (n + 1) C true e))) := fun h1 => by
      rw [plain_eq h1]
      exact ptv_val (pe e) (true_of h1)
    cases e with
    | UnaryOp op x p =>
      cases op with
      | Not => unfold cX; simp only [ev]; exact ptv_not (ihT _)
      | USub => exact plain rfl
      | UAdd => exact plain rfl
      | Invert => exact plain rfl
    | BoolOp op vs p =>
      cases op with
      | And => unfold cX; exact (cBs_andT ihT _).pt
      | Or => unfold cX; exact (cBs_orT ihT _).pt
    | IfExp c a b p => unfold cX; simp only [ev]; exact ptv_bad
    | Compare a ops cs p =>
      unfold cX
      split <;> try (rename_i h; cases h; done)
      all_goals try (simp only [ev]; exact ptv_bad)
      · rename_i h; cases h
        split
        · rename_i hs; simp only [ev]; exact ptv_cmp (co_ok G _) (ihE _) (ihE _) (behind_of hs)
        · simp only [ev]; exact ptv_bad
      · rename_i h; cases h
        split
        · rename_i hs; simp only [ev]; exact ptv_chain (co_ok G _) (co_ok G _) (ihE _) (ihE _) (ihE _) (last_of hs)
        · simp only [ev]; exact ptv_bad
    | _ => exact plain rfl
end
end Sw

/-! Eng16: the translation of statements and defs. -/
namespace Sw
open PySem PySem.Spec PyProof.Rows L2
section
variable {C : CC} {X : Cx} {F : Nat → Fn} {k : Nat} {e a b c : Expr} {es : List Expr} {pos : Pos} {x : Str}
theorem Good.blockKind (G : Good C X F k) : X.env.blockKind = .function := by
  unfold Env.blockKind
  rw [G.sc, G.kind]; rfl
theorem swp_ok (G : Good C X F k) {ts vs : List Expr} {r : Option (List Str)} {k1 k2 : Nat} {p1 p2 : Pos} (h : swp C ts vs = some r) : swappedStores [.Tuple ts k1 p1] (.Tuple vs k2 p2) X.env = pure r := by
  unfold swp at h
  unfold swappedStores
  have hk : ∀ id, X.env.kindOf id = C.sc.names.lookup id := fun id => by unfold Env.kindOf; rw [G.sc]
  have hb : (X.env.blockKind != .function) = false := by rw [G.blockKind]; rfl
  simp only [hb, Bool.or_false, hk]
  split at h
  · rename_i h1
    cases h
    exact if_pos h1
  · rename_i h1
    refine (if_neg h1).trans ?_
    split at h
    · rename_i h2
      cases h
      exact if_pos h2
    · rename_i h2
      refine (if_neg ?_).trans ?_
      · exact h2
      dsimp only at h
      split at h
      · rename_i h3
        cases h
        exact if_pos h3
      · rename_i h3
        refine (if_neg ?_).trans ?_
        · exact h3
        split at h
        · rename_i h4
          cases h
          exact if_pos h4
        · rename_i h4
          refine (if_neg h4).trans ?_
          split at h
          · cases h
          · rename_i h5
            cases h
            exact if_neg h5
theorem swB_ok (G : Good C X F k) {y : Str} {py : Pos} {elt : Expr} {gs : List Comprehension} {scope : Scope} {l : Nat} : swapsWith (.ListComp elt gs scope pos) (some (.Name y py)) l X.env = pure (swB C y py scope pos) := by
  unfold swapsWith swB isLoc
  have hk : X.env.kindOf y = C.sc.names.lookup y := by unfold Env.kindOf; rw [G.sc]
  simp only [G.blockKind, hk, Expr.pos]
  cases h : C.sc.names.lookup y with
  | none => simp
  | some kk => cases kk <;> first | rfl | (simp; done)
end
section
variable {C : CC} {X : Cx} {F : Nat → Fn} {k : Nat} {e a b c : Expr} {es : List Expr} {pos : Pos} {x : Str}
theorem sameStrs_ok : ∀ {a b : List Str}, sameStrs a b = true → a = b
  | [], [], _ => rfl
  | x :: r, y :: s, h => by
    simp only [sameStrs, Bool.and_eq_true] at h
    rw [eq_of_beq h.1, sameStrs_ok h.2]
  | [], _ :: _, h => by cases h
  | _ :: _, [], h => by cases h
theorem isLoc_ok (G : Good C X F k) (h : isLoc C x = true) : X.env.scope.names.lookup x = some .local := by
  unfold isLoc at h
  rw [G.sc]
  split at h
  · assumption
  · cases h
theorem cAsgN_ok (G : Good C X F k) {v : E} {py : Pos} (he : PE X e (rdE (ev F v))) (hs : swapsWith e (some (.Name x py)) pos.line X.env = pure false) : PS X (.Assign [.Name x py] e pos) (rdS (sv F (cAsgN C x v))) := by
  unfold cAsgN
  split
  · rename_i hl
    split
    · rename_i i hi
      simp only [sv, gv]
      exact psv_set (by rw [G.N]; exact G.nd) (by rw [G.N]; exact find_at hi) (.inl (by rw [G.sc]; exact hl)) he hs (.inr (by rw [G.sc]; exact hl))
    · simp only [sv]; exact psv_bad
  · rename_i hl hfn
    split
    · rename_i i hi
      simp only [sv, gv]
      exact psv_set (by rw [G.N]; exact G.nd) (by rw [G.N]; exact find_at hi) (.inr (by rw [G.sc]; exact hl)) he hs (.inl (by rw [G.fn]; exact hfn))
    · simp only [sv]; exact psv_bad
  · simp only [sv]; exact psv_bad
theorem cEs2 {f : Expr → E} (hf : ∀ e, PE X e (rdE (ev F (f e)))) (es : List Expr) : PA X es (rdA (evs F (cEs f es))) := cEs_ok hf es
theorem cPar_ok (G : Good C X F k) {n : Nat} {ts vs : List Expr} {k1 k2 : Nat} {p1 p2 : Pos} : PS X (.Assign [.Tuple ts k1 p1] (.Tuple vs k2 p2) pos) (rdS (sv F (cPar C n ts vs))) := by
  have ihE := (cX_ok (F := F) n C X G).1
  unfold cPar
  split
  · rename_i hw
    split
    · rename_i hs
      simp only [sv, gv, ev]
      exact psv_asg (sl := (cGs C n ts).slots) (pev_tup (cEs_ok ihE vs)) (pgv_tup G.calm (cGs_ok G n ts hs fun _ h => h) (asg_len hs).1 (asg_len hs).2) rfl (swp_ok G hw) rfl
    · simp only [sv]; exact psv_bad
  · rename_i names hw
    split
    · rename_i x px y py a b
      split
      · rename_i i j hh hi hj
        simp only [Bool.and_eq_true] at hh
        have hnm := sameStrs_ok hh.1.1
        split
        · rename_i hij
          simp only [sv, gv, gvs, ev]
          refine psv_par G.calm (by rw [G.N]; exact G.nd) (by rw [G.N]; exact find_at hi) (by rw [G.N]; exact find_at hj) (fun z => ?_) (isLoc_ok G hh.1.2) (isLoc_ok G hh.2) (cEs_ok ihE _) (by rw [swp_ok G hw, hnm])
          rw [z, Nat.beq_refl] at hij; cases hij
        · simp only [sv]; exact psv_bad
      · simp only [sv]; exact psv_bad
    · rename_i x px y py z pz a b c
      split
      · rename_i i j l hh hi hj hl
        simp only [Bool.and_eq_true] at hh
        have hnm := sameStrs_ok hh.1.1.1
        split
        · rename_i hij
          simp only [Bool.or_eq_false_iff] at hij
          simp only [sv, gv, gvs, ev]
          refine psv_par3 G.calm (by rw [G.N]; exact G.nd) (by rw [G.N]; exact find_at hi) (by rw [G.N]; exact find_at hj) (by rw [G.N]; exact find_at hl) (fun z => ?_) (fun z => ?_) (fun z => ?_) (isLoc_ok G hh.1.1.2) (isLoc_ok G hh.1.2) (isLoc_ok G hh.2) (cEs_ok ihE _) (by rw [swp_ok G hw, hnm])
          · have := hij.1.1; rw [z, Nat.beq_refl] at this; cases this
          · have := hij.1.2; rw [z, Nat.beq_refl] at this; cases this
          · have := hij.2; rw [z, Nat.beq_refl] at this; cases this
        · simp only [sv]; exact psv_bad
      · simp only [sv]; exact psv_bad
    · simp only [sv]; exact psv_bad
  · simp only [sv]; exact psv_bad
/-- «y = [..]» that stores at once -/
theorem cAsgC_ok (G : Good C X F k) {n : Nat} {y : Str} {py spos : Pos} {elt tg iter : Expr} {ifs : List Expr} {scope : Scope} (hsw : swB C y py scope pos = true) :
    PS X (.Assign [.Name y py] (.ListComp elt [⟨tg, iter, ifs, 0⟩] scope pos) spos) (rdS (sv F (cAsgN C y (cX (n + 1) C false (.ListComp elt [⟨tg, iter, ifs, 0⟩] scope pos))))) := by
  have ihE := (cX_ok (F := F) n C X G).1
  have hl : isLoc C y = true := by unfold swB at hsw; simp only [Bool.and_eq_true] at hsw; exact hsw.1.1
  have hl' : C.sc.names.lookup y = some .local := by rw [← G.sc]; exact isLoc_ok G hl
  have hs := swB_ok (pos := pos) (py := py) (y := y) (scope := scope) (elt := elt) (gs := [⟨tg, iter, ifs, 0⟩]) (l := spos.line) G
  rw [hsw] at hs
  unfold cAsgN
  rw [hl']
  dsimp only
  split
  · rename_i i hi
    simp only [sv, gv, cX]
    split
    · rename_i hh
      obtain ⟨b1, b2, b3, b4⟩ := blk_ok G hh
      split
      · simp only [ev]
        exact psv_setComp G.calm (by rw [G.N]; exact G.nd) (by rw [G.N]; exact find_at hi) (by rw [G.sc]; exact hl') hs (cI_ok G ihE) b1 (fun s H Ca cl fp => cG_ok (G.blk b2 s H Ca cl fp) n tg b4) (fun _ _ _ _ _ => ptsv_nil) (fun s H Ca cl fp => (cX_ok n _ _ (G.blk b2 s H Ca cl fp)).1 _) (folded_of b3)
      · simp only [ev]
        exact psv_setComp G.calm (by rw [G.N]; exact G.nd) (by rw [G.N]; exact find_at hi) (by rw [G.sc]; exact hl') hs (cI_ok G ihE) b1 (fun s H Ca cl fp => cG_ok (G.blk b2 s H Ca cl fp) n tg b4) (fun s H Ca cl fp => ptsv_one ((cX_ok n _ _ (G.blk b2 s H Ca cl fp)).2 _)) (fun s H Ca cl fp => (cX_ok n _ _ (G.blk b2 s H Ca cl fp)).1 _) (folded_of b3)
      · simp only [ev]
        exact PS.of psv_bad fun D σ H h => by obtain ⟨m, S, ρ, R, E, q⟩ := h; exact ⟨m, S, ρ, R, E, q⟩
    · simp only [ev]
      exact PS.of psv_bad fun D σ H h => by obtain ⟨m, S, ρ, R, E, q⟩ := h; exact ⟨m, S, ρ, R, E, q⟩
  · simp only [sv]; exact psv_bad
/-- «y = [..]» of two loops that stores at once -/
theorem cAsgC2_ok (G : Good C X F k) {n : Nat} {y : Str} {py spos : Pos} {elt tg iter tg1 iter1 : Expr} {ifs ifs1 : List Expr} {scope : Scope} (hsw : swB C y py scope pos = true) :
    PS X (.Assign [.Name y py] (.ListComp elt [⟨tg, iter, ifs, 0⟩, ⟨tg1, iter1, ifs1, 0⟩] scope pos) spos) (rdS (sv F (cAsgN C y (cX (n + 1) C false (.ListComp elt [⟨tg, iter, ifs, 0⟩, ⟨tg1, iter1, ifs1, 0⟩] scope pos))))) := by
  have ihE := (cX_ok (F := F) n C X G).1
  have hl : isLoc C y = true := by unfold swB at hsw; simp only [Bool.and_eq_true] at hsw; exact hsw.1.1
  have hl' : C.sc.names.lookup y = some .local := by rw [← G.sc]; exact isLoc_ok G hl
  have hs := swB_ok (pos := pos) (py := py) (y := y) (scope := scope) (elt := elt) (gs := [⟨tg, iter, ifs, 0⟩, ⟨tg1, iter1, ifs1, 0⟩]) (l := spos.line) G
  rw [hsw] at hs
  unfold cAsgN
  rw [hl']
  dsimp only
  split
  · rename_i i hi
    simp only [sv, gv, cX]
    split
    · rename_i hh
      simp only [Bool.and_eq_true] at hh
      obtain ⟨⟨⟨⟨h1, h2⟩, h3⟩, h4⟩, h5⟩ := hh
      obtain ⟨b1, b2, b3, b4⟩ := blk_ok (n := n) (tg := tg) (iter := iter) (scope := scope) G (by simp only [Bool.and_eq_true]; exact ⟨⟨h1, h2⟩, h4⟩)
      have hv : ∀ i ∈ (cG (C.blk scope) n tg1).slots, i ∈ (ownOf C.N scope).map (·.2) := fun i hi => by
        have := List.all_eq_true.mp h5 i hi
        simpa using this
      split
      · simp only [ev]
        exact psv_setComp2 G.calm (by rw [G.N]; exact G.nd) (by rw [G.N]; exact find_at hi) (by rw [G.sc]; exact hl') hs (cI_ok G ihE) b1 hv (fun s H Ca cl fp => cG_ok (G.blk b2 s H Ca cl fp) n tg b4) (fun _ _ _ _ _ => ptsv_nil) (fun s H Ca cl fp => cI_ok (G.blk b2 s H Ca cl fp) (cX_ok n _ _ (G.blk b2 s H Ca cl fp)).1) (fun s H Ca cl fp => cG_ok (G.blk b2 s H Ca cl fp) n tg1 fun _ z => z) (fun _ _ _ _ _ => ptsv_nil) (fun s H Ca cl fp => (cX_ok n _ _ (G.blk b2 s H Ca cl fp)).1 _) (folded_of b3) (fun env x => folded_of h3 x)
      · simp only [ev]
        exact psv_setComp2 G.calm (by rw [G.N]; exact G.nd) (by rw [G.N]; exact find_at hi) (by rw [G.sc]; exact hl') hs (cI_ok G ihE) b1 hv (fun s H Ca cl fp => cG_ok (G.blk b2 s H Ca cl fp) n tg b4) (fun _ _ _ _ _ => ptsv_nil) (fun s H Ca cl fp => cI_ok (G.blk b2 s H Ca cl fp) (cX_ok n _ _ (G.blk b2 s H Ca cl fp)).1) (fun s H Ca cl fp => cG_ok (G.blk b2 s H Ca cl fp) n tg1 fun _ z => z) (fun s H Ca cl fp => ptsv_one ((cX_ok n _ _ (G.blk b2 s H Ca cl fp)).2 _)) (fun s H Ca cl fp => (cX_ok n _ _ (G.blk b2 s H Ca cl fp)).1 _) (folded_of b3) (fun env x => folded_of h3 x)
      · simp only [ev]
        exact PS.of psv_bad fun D σ H h => by obtain ⟨m, S, ρ, R, E, q⟩ := h; exact ⟨m, S, ρ, R, E, q⟩
    · simp only [ev]
      exact PS.of psv_bad fun D σ H h => by obtain ⟨m, S, ρ, R, E, q⟩ := h; exact ⟨m, S, ρ, R, E, q⟩
  · simp only [sv]; exact psv_bad
theorem cAsg_ok (G : Good C X F k) {n : Nat} {tg v : Expr} : PS X (.Assign [tg] v pos) (rdS (sv F (cAsg C n tg v))) := by
  have ihE := (cX_ok (F := F) n C X G).1
  unfold cAsg
  split
  · rename_i x py
    split
    · rename_i hn; exact cAsgN_ok G (ihE _) (swap_of hn)
    · split
      · rename_i elt tg iter ifs scope pos' hn
        split
        · rename_i hsw
          refine cAsgN_ok G (ihE _) ?_
          rw [swB_ok G, hsw]
        · rename_i hsw
          cases n with
          | zero => simp only [sv]; exact psv_bad
          | succ n => exact cAsgC_ok G hsw
      · rename_i hn
        split
        · rename_i hsw
          refine cAsgN_ok G (ihE _) ?_
          rw [swB_ok G, hsw]
        · rename_i hsw
          cases n with
          | zero => simp only [sv]; exact psv_bad
          | succ n => exact cAsgC2_ok G hsw
      · simp only [sv]; exact psv_bad
  · rename_i ts k1 p1
    split
    · exact cPar_ok G
    · rename_i hv
      split
      · rename_i hh
        obtain ⟨hs, hn⟩ := Bool.and_eq_true_iff.mp hh
        simp only [sv, gv]
        refine psv_asg (sl := (cGs C n ts).slots) (ihE _) (pgv_tup G.calm (cGs_ok G n ts hs fun _ h => h) (asg_len hs).1 (asg_len hs).2) (show swapsWithSole [.Tuple ts k1 p1] v pos.line X.env = pure false from swap_of (t := some (.Tuple ts k1 p1)) (l := pos.line) (env := X.env) hn) (sws_of ?_) rfl
        cases v <;> first | rfl | exact absurd rfl (hv _ _ _)
      · simp only [sv]; exact psv_bad
  · simp only [sv]; exact psv_put G.hu1 (ihE _) (ihE _) (ihE _) swap_sub
  · simp only [sv]; exact psv_bad
theorem psv_retN : PS X (.Return none pos) (rdS (svRet (evC .non))) := PS.of ps_retN fun D σ H h => by
  obtain ⟨m, S, ρ, R, E, q⟩ := h
  exact q m H .non (Ext.refl R) rfl
theorem ao_ok {o : Operator} {b : Ao} (h : cAo o = some b) : OpR X (inplaceOp o) (rd2 (aoD b)) := by
  cases o <;> simp only [cAo] at h <;> cases h
  · exact opv_iadd
  · exact opv_isub
mutual
theorem cT_ok (G : Good C X F k) : ∀ (n : Nat) (st : Stmt), PS X st (rdS (sv F (cT n C st)))
  | 0, st => by simp only [cT, sv]; exact psv_bad
  | n + 1, st => by
    have ih := cX_ok (F := F) n C X G
    have po : PassesOwn (model X.prog X.w) X.A X.env X.xe := by rw [G.xe]; exact PassesOwn.never
    unfold cT
    split
    · split
      · rename_i hn; simp only [sv]; exact psv_expr (ih.1 _) (swap_of hn)
      · simp only [sv]; exact psv_bad
    · simp only [sv]; exact psv_ret (ih.1 _)
    · simp only [sv, ev]; exact psv_retN
    · exact cAsg_ok G
    · split
      · rename_i o i ho hl hi
        simp only [sv]
        exact psv_aug (by rw [G.N]; exact G.nd) (by rw [G.N]; exact find_at hi) (.inl (by rw [G.sc]; exact hl)) (ih.1 _) (ao_ok ho) (.inr (by rw [G.sc]; exact hl))
      · rename_i o i ho hl hfn hi
        simp only [sv]
        exact psv_aug (by rw [G.N]; exact G.nd) (by rw [G.N]; exact find_at hi) (.inr (by rw [G.sc]; exact hl)) (ih.1 _) (ao_ok ho) (.inl (by rw [G.fn]; exact hfn))
      · simp only [sv]; exact psv_bad
    · simp only [sv]; exact psv_if (ih.2 _) (cTs_ok G n _) (cTs_ok G n _)
    · simp only [sv]; exact psv_while po (ih.2 _) (cTs_ok G n _)
    · split
      · rename_i hs
        simp only [sv]
        exact psv_for (sl := (cG C n _).slots) po G.calm (cI_ok G ih.1) (cG_ok G n _ fun _ h => h) (cTs_ok G n _) (folded_of hs)
      · simp only [sv]; exact psv_bad
    · simp only [sv]; exact psv_pass
    · simp only [sv]; exact psv_break
    · simp only [sv]; exact psv_cont
    · simp only [sv]; exact psv_bad
theorem cTs_ok (G : Good C X F k) : ∀ (n : Nat) (ss : List Stmt), PSs X ss (rdS (svs F (cTs n C ss)))
  | 0, ss => by
    simp only [cTs, svs, sv]
    exact PSs.of pss_never fun D σ H h => by
      obtain ⟨m, S, ρ, R, E, q⟩ := h
      exact q
  | n + 1, ss => by
    unfold cTs
    cases ss with
    | nil => simp only [svs]; exact psv_nil
    | cons s r => simp only [svs]; exact psv_cons (cT_ok G n s) (cTs_ok G n r)
end
end
end Sw

/-! Eng17: the defs of a module, all at once, by depth of calls. -/
namespace Sw
open PySem PySem.Spec PyProof.Rows L2
/-- a def: its name, its text, its parameters, its names, its dicts' keys are tuples, fuel of its while loops -/
structure Df where
  x : Str
  st : Stmt
  ps : List Str
  N : List Str
  tk : Bool
  wn : Nat
def Df.cc (fs : List Str) (cs : List (Str × D)) (d : Df) : CC := ⟨d.N, defScope d.st, fun _ => true, fs, cs, d.tk, d.wn⟩
structure Bd where
  n : Nat
  ar : Nat
  b : Ts
def badFn : Fn := fun _ _ => .bad
/-- the defs that may call k deep -/
def tabF (bs : List Bd) : Nat → Nat → Fn
  | 0, _ => badFn
  | k + 1, i => match bs[i]? with
    | some b => fnSem b.n b.ar (svs (tabF bs k) b.b)
    | none => badFn
/-- what must hold of one def -/
structure DfOk (K : Frg) (mg : Str → Option Value) (fs : List Str) (cs : List (Str × D)) (fu : Nat) (d : Df) (b : Bd) : Prop where
  fn : ∃ f fd, FunD K d.x d.x (defArgs d.st) (defBody d.st) (defScope d.st) [] [] f fd ∧ mg d.x = some (.ref f)
  sc : FnScope d.N d.ps (defScope d.st)
  bd : ∀ (kV doc pm : Value) (an : Option Addr) (cdv ct : Value) (us : List Value), us.length = d.ps.length → bindArgs (PySem.W.fnOf d.x d.x (defArgs d.st) (defBody d.st) (defScope d.st) .none kV doc pm an cdv ct) ⟨us, []⟩ = pure (d.ps.zip us)
  tx : cTs fu (d.cc fs cs) (defBody d.st) = b.b
  n : d.N.length = b.n
  ar : d.ps.length = b.ar
inductive AllOk (K : Frg) (mg : Str → Option Value) (fs : List Str) (cs : List (Str × D)) (fu : Nat) : List Str → List Bd → Prop where
  | nil : AllOk K mg fs cs fu [] []
  | cons {d : Df} {b : Bd} {xs : List Str} {bs : List Bd} (h : DfOk K mg fs cs fu d b) (r : AllOk K mg fs cs fu xs bs) : AllOk K mg fs cs fu (d.x :: xs) (b :: bs)
theorem AllOk.get {K : Frg} {mg : Str → Option Value} {fs : List Str} {cs : List (Str × D)} {fu : Nat} : ∀ {xs : List Str} {bs : List Bd}, AllOk K mg fs cs fu xs bs → ∀ (i : Nat) (x : Str), xs[i]? = some x → ∃ d b, DfOk K mg fs cs fu d b ∧ d.x = x ∧ bs[i]? = some b
  | _, _, .nil, i, x, h => by simp at h
  | _, _, .cons h r, 0, x, e => ⟨_, _, h, by simpa using e, rfl⟩
  | _, _, .cons h r, i + 1, x, e => r.get i x (by simpa using e)
structure Home (mg : Str → Option Value) (cs : List (Str × D)) : Prop where
  con : ∀ x d, cs.lookup x = some d → ∃ v u, mg x = some u ∧ RelV v u ∧ ∀ m k H, RD m k H d v
  blt : ∀ x ∈ bltNames, mg x = none
section
variable {P : Program} {w : World} {K : Frg} {mg : Str → Option Value} {base : Heap} {fs : List Str} {cs : List (Str × D)} {fu : Nat} {bs : List Bd}
theorem def_bad {d : Df} {b : Bd} (h : DfOk K mg fs cs fu d b) {k : Nat} : Def P w K mg base k d.x b.ar badFn := by
  obtain ⟨f, fd, F, hm⟩ := h.fn
  refine ⟨⟨f, fd, d.ps, ⟨fun vs H Q E q => q.1.trans h.ar.symm, fun A outer s H args us vs Q E _ _ _ _ q => ?_⟩, hm, F.kp, F.bindsN h.bd⟩, fun _ _ _ _ e => by cases e⟩
  obtain ⟨_, _, _, _, _, _, _, _, e, _⟩ := q
  cases e
theorem defs_ok (hA : AllOk K mg fs cs fu fs bs) (hH : Home mg cs) : ∀ (k i : Nat) (x : Str), fs[i]? = some x → ∃ ar, Def P w K mg base k x ar (tabF bs k i)
  | 0, i, x, e => by
    obtain ⟨d, b, h, rfl, _⟩ := hA.get i x e
    exact ⟨b.ar, def_bad h⟩
  | k + 1, i, x, e => by
    obtain ⟨d, b, h, rfl, eb⟩ := hA.get i x e
    refine ⟨b.ar, ?_⟩
    unfold tabF
    rw [eb]
    dsimp only
    obtain ⟨f, fd, F, hm⟩ := h.fn
    refine ⟨⟨f, fd, d.ps, F.ok h.sc (fun vs H Q E q => q.1.trans h.ar.symm) (fun cdv A outer s H vs Q E hr q => ?_), hm, F.kp, F.bindsN h.bd⟩, fun ds S r S' e => fn_len e⟩
    have G : Good (d.cc fs cs) (cxOf CX0 P w K mg base d.N d.x (defScope d.st) f cdv A outer s H E).nox (tabF bs k) k :=
      { N := rfl, nd := h.sc.nd, sc := rfl, kind := h.sc.kind, fn := fun _ => rfl, calm := rfl, xe := rfl, room := hr, defs := fun i x e => defs_ok hA hH k i x e, con := hH.con, blt := hH.blt }
    have T := cTs_ok G fu (defBody d.st)
    rw [h.tx] at T
    exact ⟨_, PSs.nox T, rd_fn h.n q.2⟩
end
end Sw

/-! Eng18: results that are known; laws that look at nothing. -/
namespace Sw
open PySem PySem.Spec PyProof.Rows L2
def beqS (a b : Str) : Bool := decide (a = b)
mutual
def beqD : D → D → Bool
  | .non, .non => true
  | .bl a, .bl b => a == b
  | .int i, .int j => decide (i = j)
  | .str a, .str b => beqS a b
  | .tup xs, .tup ys => beqDs xs ys
  | .ref n, .ref k => Nat.beq n k
  | _, _ => false
def beqDs : List D → List D → Bool
  | [], [] => true
  | x :: xs, y :: ys => beqD x y && beqDs xs ys
  | _, _ => false
end
mutual
theorem beqD_ok : ∀ {x y : D}, beqD x y = true → x = y
  | .non, .non, _ => rfl
  | .bl a, .bl b, h => by simp only [beqD] at h; rw [eq_of_beq h]
  | .int a, .int b, h => by simp only [beqD] at h; rw [of_decide_eq_true h]
  | .str a, .str b, h => by simp only [beqD, beqS] at h; rw [of_decide_eq_true h]
  | .tup xs, .tup ys, h => by simp only [beqD] at h; rw [beqDs_ok h]
  | .ref a, .ref b, h => by simp only [beqD] at h; rw [Nat.eq_of_beq_eq_true h]
  | .non, .bl _, h | .non, .int _, h | .non, .str _, h | .non, .tup _, h | .non, .ref _, h => by simp [beqD] at h
  | .bl _, .non, h | .bl _, .int _, h | .bl _, .str _, h | .bl _, .tup _, h | .bl _, .ref _, h => by simp [beqD] at h
  | .int _, .non, h | .int _, .bl _, h | .int _, .str _, h | .int _, .tup _, h | .int _, .ref _, h => by simp [beqD] at h
  | .str _, .non, h | .str _, .bl _, h | .str _, .int _, h | .str _, .tup _, h | .str _, .ref _, h => by simp [beqD] at h
  | .tup _, .non, h | .tup _, .bl _, h | .tup _, .int _, h | .tup _, .str _, h | .tup _, .ref _, h => by simp [beqD] at h
  | .ref _, .non, h | .ref _, .bl _, h | .ref _, .int _, h | .ref _, .str _, h | .ref _, .tup _, h => by simp [beqD] at h
theorem beqDs_ok : ∀ {xs ys : List D}, beqDs xs ys = true → xs = ys
  | [], [], _ => rfl
  | x :: xs, y :: ys, h => by simp only [beqDs, Bool.and_eq_true] at h; rw [beqD_ok h.1, beqDs_ok h.2]
  | [], _ :: _, h => by simp [beqDs] at h
  | _ :: _, [], h => by simp [beqDs] at h
end
def beqO : O → O → Bool
  | .lst xs, .lst ys => beqDs xs ys
  | .frz xs, .frz ys => beqDs xs ys
  | _, _ => false
theorem beqO_ok {x y : O} (h : beqO x y = true) : x = y := by
  unfold beqO at h
  split at h
  · rw [beqDs_ok h]
  · rw [beqDs_ok h]
  · cases h
def beqOs : List O → List O → Bool
  | [], [] => true
  | x :: xs, y :: ys => beqO x y && beqOs xs ys
  | _, _ => false
theorem beqOs_ok : ∀ {xs ys : List O}, beqOs xs ys = true → xs = ys
  | [], [], _ => rfl
  | x :: xs, y :: ys, h => by simp only [beqOs, Bool.and_eq_true] at h; rw [beqO_ok h.1, beqOs_ok h.2]
  | [], _ :: _, h => by simp [beqOs] at h
  | _ :: _, [], h => by simp [beqOs] at h
def beqNs : List Nat → List Nat → Bool
  | [], [] => true
  | x :: xs, y :: ys => Nat.beq x y && beqNs xs ys
  | _, _ => false
theorem beqNs_ok : ∀ {xs ys : List Nat}, beqNs xs ys = true → xs = ys
  | [], [], _ => rfl
  | x :: xs, y :: ys, h => by simp only [beqNs, Bool.and_eq_true] at h; rw [Nat.eq_of_beq_eq_true h.1, beqNs_ok h.2]
  | [], _ :: _, h => by simp [beqNs] at h
  | _ :: _, [], h => by simp [beqNs] at h
def beqSto (S T : Sto) : Bool := beqOs S.objs T.objs && beqNs S.bs T.bs && (S.dirty == T.dirty)
theorem beqSto_ok {S T : Sto} (h : beqSto S T = true) : S = T := by
  unfold beqSto at h
  simp only [Bool.and_eq_true] at h
  cases S; cases T
  simp only at h
  rw [beqOs_ok h.1.1, beqNs_ok h.1.2, eq_of_beq h.2]
/-- a known result -/
structure Mo where
  i : Nat
  ds : List D
  S : Sto
  d : D
  T : Sto
def Mo.hit (e : Mo) (i : Nat) (ds : List D) (S : Sto) : Bool := Nat.beq e.i i && beqDs e.ds ds && beqSto e.S S
def memoF (F : Nat → Fn) : List Mo → Nat → Fn
  | [], i, ds, S => F i ds S
  | e :: r, i, ds, S => match e.hit i ds S with
    | true => .ok e.d e.T
    | false => memoF F r i ds S
def Mo.Ok (F : Nat → Fn) (e : Mo) : Prop := F e.i e.ds e.S = .ok e.d e.T
theorem memoF_eq {F : Nat → Fn} : ∀ {es : List Mo}, (∀ e ∈ es, e.Ok F) → memoF F es = F
  | [], _ => rfl
  | e :: r, h => by
    have ih := memoF_eq (F := F) (es := r) fun e he => h e (List.mem_cons_of_mem _ he)
    have h0 := h e List.mem_cons_self
    funext i ds S
    simp only [memoF]
    split
    · rename_i hh
      unfold Mo.hit at hh
      simp only [Bool.and_eq_true] at hh
      rw [← Nat.eq_of_beq_eq_true hh.1.1, ← beqDs_ok hh.1.2, ← beqSto_ok hh.2]
      exact h0.symm
    · rw [ih]
theorem tab_at {bs : List Bd} {k i : Nat} {b : Bd} (h : bs[i]? = some b) : tabF bs (k + 1) i = fnSem b.n b.ar (svs (tabF bs k) b.b) := by
  rw [tabF, h]
theorem mo_nil {F : Nat → Fn} : ∀ e ∈ ([] : List Mo), e.Ok F := fun _ h => nomatch h
theorem mo_cons {F : Nat → Fn} {e : Mo} {r : List Mo} (h : e.Ok F) (t : ∀ e ∈ r, e.Ok F) : ∀ x ∈ e :: r, x.Ok F := fun x hx => (List.mem_cons.mp hx).elim (fun z => z ▸ h) fun z => t x z
/-! ### a law that looks at nothing -/
def isRT : SR → Bool
  | .rt (.bl true) _ => true
  | _ => false
def spG : Sp := fun vs _ Q _ => vs.length = 1 ∧ ∀ H', Q (.bl true) H'
theorem law_ground {P : Program} {w : World} {K : Frg} {mg : Str → Option Value} {base : Heap} {fs : List Str} {cs : List (Str × D)} {fu k : Nat} {bs : List Bd} {d : Df} {b : Bd} {f : Addr} {fd : FuncData}
    (hA : AllOk K mg fs cs fu fs bs) (hH : Home mg cs) (h : DfOk K mg fs cs fu d b) (h1 : d.ps.length = 1) (F : FunD K d.x d.x (defArgs d.st) (defBody d.st) (defScope d.st) [] [] f fd)
    (ev : isRT (svs (tabF bs k) b.b (List.replicate d.N.length none) ⟨[], [], false⟩) = true) (hN : 1 ≤ d.N.length) : FnOk P w K mg base CX0 (k + 1) f fd d.ps spG := by
  refine F.ok h.sc (fun vs H Q E q => q.1.trans h1.symm) (fun cdv A outer s H vs Q E hr q => ?_)
  have G : Good (d.cc fs cs) (cxOf CX0 P w K mg base d.N d.x (defScope d.st) f cdv A outer s H E).nox (tabF bs k) k :=
    { N := rfl, nd := h.sc.nd, sc := rfl, kind := h.sc.kind, fn := fun _ => rfl, calm := rfl, xe := rfl, room := hr, defs := fun i x e => defs_ok hA hH k i x e, con := hH.con, blt := hH.blt }
  have T := cTs_ok G fu (defBody d.st)
  rw [h.tx] at T
  refine ⟨_, PSs.nox T, fun _ => 0, ⟨[], [], false⟩, List.replicate d.N.length none, ⟨fun n o e => by simp at e, fun i j hi => absurd hi (by simp [Sto.len]), fun _ b hb => by simp at hb, fun b hb => by simp at hb, fun b hb => by simp at hb⟩, ⟨?_, fun i d e => ?_⟩, ?_⟩
  · simp only [List.length_replicate, L2.start, List.length_append, List.length_map, q.1]
    omega
  · rw [List.getElem?_replicate] at e
    split at e <;> cases e
  · unfold isRT at ev
    split at ev
    · rename_i S' hS
      rw [hS]
      intro m' H' v X r
      rw [show v = .bl true from r]
      exact q.2 H'
    · cases ev
theorem con_nil {mg : Str → Option Value} : ∀ x d, ([] : List (Str × D)).lookup x = some d → ∃ v u, mg x = some u ∧ RelV v u ∧ ∀ m k H, RD m k H d v := fun _ _ h => nomatch h
theorem con_cons {mg : Str → Option Value} {x : Str} {d : D} {cs : List (Str × D)} (h : ∃ v u, mg x = some u ∧ RelV v u ∧ ∀ m k H, RD m k H d v) (r : ∀ y e, cs.lookup y = some e → ∃ v u, mg y = some u ∧ RelV v u ∧ ∀ m k H, RD m k H e v) :
    ∀ y e, ((x, d) :: cs).lookup y = some e → ∃ v u, mg y = some u ∧ RelV v u ∧ ∀ m k H, RD m k H e v := fun y e hl => by
  rw [List.lookup_cons] at hl
  split at hl
  · rename_i hb
    cases hl
    rw [eq_of_beq hb]
    exact h
  · exact r y e hl
theorem con_int {mg : Str → Option Value} {x : Str} {i : Int} (h : ∃ t, mg x = some (.int i t)) : ∃ v u, mg x = some u ∧ RelV v u ∧ ∀ m k H, RD m k H (.int i) v := by
  obtain ⟨t, ht⟩ := h
  exact ⟨.int i, _, ht, ⟨t, rfl⟩, fun _ _ _ => rfl⟩
theorem con_str {mg : Str → Option Value} {x z : Str} (h : ∃ t, mg x = some (.str z t)) : ∃ v u, mg x = some u ∧ RelV v u ∧ ∀ m k H, RD m k H (.str z) v := by
  obtain ⟨t, ht⟩ := h
  exact ⟨.str z, _, ht, ⟨t, rfl⟩, fun _ _ _ => rfl⟩
end Sw

namespace K22
open PySem PySem.Spec PyProof.Rows L2
/-! the head -/
def tp (i : Nat) : Stmt := PySem.Challenge.pw_swaprails_k22_tracks_by_hand.main.body.getD i (.Pass ⟨0, 0, 0, 0⟩)
def e0 : He.DefD := ⟨("is_integer", none), "is_integer", "is_integer", defArgs (tp 13), defBody (tp 13), defScope (tp 13), [], []⟩
def e1 : He.DefD := ⟨("are_lengths", none), "are_lengths", "are_lengths", defArgs (tp 14), defBody (tp 14), defScope (tp 14), [], []⟩
def e2 : He.DefD := ⟨("is_pair_to", none), "is_pair_to", "is_pair_to", defArgs (tp 15), defBody (tp 15), defScope (tp 15), [], []⟩
def e3 : He.DefD := ⟨("is_branch", none), "is_branch", "is_branch", defArgs (tp 16), defBody (tp 16), defScope (tp 16), [], []⟩
def e4 : He.DefD := ⟨("is_joint", none), "is_joint", "is_joint", defArgs (tp 17), defBody (tp 17), defScope (tp 17), [], []⟩
def e5 : He.DefD := ⟨("all_ends", none), "all_ends", "all_ends", defArgs (tp 18), defBody (tp 18), defScope (tp 18), [], []⟩
def e6 : He.DefD := ⟨("are_feeds", none), "are_feeds", "are_feeds", defArgs (tp 19), defBody (tp 19), defScope (tp 19), [], []⟩
def e7 : He.DefD := ⟨("wrong_joint", none), "wrong_joint", "wrong_joint", defArgs (tp 20), defBody (tp 20), defScope (tp 20), [], []⟩
def e8 : He.DefD := ⟨("need_layout", none), "need_layout", "need_layout", defArgs (tp 21), defBody (tp 21), defScope (tp 21), [], []⟩
def e9 : He.DefD := ⟨("links_of", none), "links_of", "links_of", defArgs (tp 22), defBody (tp 22), defScope (tp 22), [], []⟩
def e10 : He.DefD := ⟨("is_link", none), "is_link", "is_link", defArgs (tp 23), defBody (tp 23), defScope (tp 23), [], []⟩
def e11 : He.DefD := ⟨("ends_in", none), "ends_in", "ends_in", defArgs (tp 24), defBody (tp 24), defScope (tp 24), [], []⟩
def e12 : He.DefD := ⟨("is_cut_in", none), "is_cut_in", "is_cut_in", defArgs (tp 25), defBody (tp 25), defScope (tp 25), [], []⟩
def e13 : He.DefD := ⟨("crossing", none), "crossing", "crossing", defArgs (tp 26), defBody (tp 26), defScope (tp 26), [], []⟩
def e14 : He.DefD := ⟨("link_between", none), "link_between", "link_between", defArgs (tp 27), defBody (tp 27), defScope (tp 27), [], []⟩
def e15 : He.DefD := ⟨("need_span", none), "need_span", "need_span", defArgs (tp 32), defBody (tp 32), defScope (tp 32), [], []⟩
def e16 : He.DefD := ⟨("ties_in", none), "ties_in", "ties_in", defArgs (tp 33), defBody (tp 33), defScope (tp 33), [], []⟩
def e17 : He.DefD := ⟨("spread", none), "spread", "spread", defArgs (tp 34), defBody (tp 34), defScope (tp 34), [], []⟩
def e18 : He.DefD := ⟨("signs_in", none), "signs_in", "signs_in", defArgs (tp 35), defBody (tp 35), defScope (tp 35), [], []⟩
def e19 : He.DefD := ⟨("signs", none), "signs", "signs", defArgs (tp 36), defBody (tp 36), defScope (tp 36), [], []⟩
def e20 : He.DefD := ⟨("is_sound", none), "is_sound", "is_sound", defArgs (tp 37), defBody (tp 37), defScope (tp 37), [], []⟩
def e21 : He.DefD := ⟨("walk_from", none), "walk_from", "walk_from", defArgs (tp 38), defBody (tp 38), defScope (tp 38), [], []⟩
def e22 : He.DefD := ⟨("walk_in", none), "walk_in", "walk_in", defArgs (tp 39), defBody (tp 39), defScope (tp 39), [], []⟩
def e23 : He.DefD := ⟨("odd_walk", none), "odd_walk", "odd_walk", defArgs (tp 40), defBody (tp 40), defScope (tp 40), [], []⟩
def e24 : He.DefD := ⟨("links_along", none), "links_along", "links_along", defArgs (tp 42), defBody (tp 42), defScope (tp 42), [], []⟩
def e25 : He.DefD := ⟨("is_route", none), "is_route", "is_route", defArgs (tp 43), defBody (tp 43), defScope (tp 43), [], []⟩
def e26 : He.DefD := ⟨("is_stand_in", none), "is_stand_in", "is_stand_in", defArgs (tp 44), defBody (tp 44), defScope (tp 44), [], []⟩
def e27 : He.DefD := ⟨("is_stand", none), "is_stand", "is_stand", defArgs (tp 45), defBody (tp 45), defScope (tp 45), [], []⟩
def e28 : He.DefD := ⟨("need_stand", none), "need_stand", "need_stand", defArgs (tp 46), defBody (tp 46), defScope (tp 46), [], []⟩
def e29 : He.DefD := ⟨("cells_in", none), "cells_in", "cells_in", defArgs (tp 47), defBody (tp 47), defScope (tp 47), [], []⟩
def e30 : He.DefD := ⟨("length_of", none), "length_of", "length_of", defArgs (tp 48), defBody (tp 48), defScope (tp 48), [], []⟩
def e31 : He.DefD := ⟨("need_sound", none), "need_sound", "need_sound", defArgs (tp 50), defBody (tp 50), defScope (tp 50), [], []⟩
def e32 : He.DefD := ⟨("next_pairs", none), "next_pairs", "next_pairs", defArgs (tp 51), defBody (tp 51), defScope (tp 51), [], []⟩
def e33 : He.DefD := ⟨("cost_of", none), "cost_of", "cost_of", defArgs (tp 52), defBody (tp 52), defScope (tp 52), [], []⟩
def e34 : He.DefD := ⟨("routes_from", none), "routes_from", "routes_from", defArgs (tp 53), defBody (tp 53), defScope (tp 53), [], []⟩
def e35 : He.DefD := ⟨("least_bad_in", none), "least_bad_in", "least_bad_in", defArgs (tp 54), defBody (tp 54), defScope (tp 54), [], []⟩
def e36 : He.DefD := ⟨("least_bad", none), "least_bad", "least_bad", defArgs (tp 55), defBody (tp 55), defScope (tp 55), [], []⟩
def e37 : He.DefD := ⟨("limit", none), "limit", "limit", defArgs (tp 56), defBody (tp 56), defScope (tp 56), [], []⟩
def e38 : He.DefD := ⟨("are_cuts", none), "are_cuts", "are_cuts", defArgs (tp 58), defBody (tp 58), defScope (tp 58), [], []⟩
def e39 : He.DefD := ⟨("cut_by", none), "cut_by", "cut_by", defArgs (tp 59), defBody (tp 59), defScope (tp 59), [], []⟩
def e40 : He.DefD := ⟨("with_cuts", none), "with_cuts", "with_cuts", defArgs (tp 60), defBody (tp 60), defScope (tp 60), [], []⟩
def e41 : He.DefD := ⟨("one_longer", none), "one_longer", "one_longer", defArgs (tp 61), defBody (tp 61), defScope (tp 61), [], []⟩
def e42 : He.DefD := ⟨("least_cuts", none), "least_cuts", "least_cuts", defArgs (tp 62), defBody (tp 62), defScope (tp 62), [], []⟩
def e43 : He.DefD := ⟨("settings_in", none), "settings_in", "settings_in", defArgs (tp 64), defBody (tp 64), defScope (tp 64), [], []⟩
def e44 : He.DefD := ⟨("chosen_in", none), "chosen_in", "chosen_in", defArgs (tp 65), defBody (tp 65), defScope (tp 65), [], []⟩
def e45 : He.DefD := ⟨("bad_setting_in", none), "bad_setting_in", "bad_setting_in", defArgs (tp 66), defBody (tp 66), defScope (tp 66), [], []⟩
def e46 : He.DefD := ⟨("is_free", none), "is_free", "is_free", defArgs (tp 67), defBody (tp 67), defScope (tp 67), [], []⟩
def e47 : He.DefD := ⟨("bad_setting", none), "bad_setting", "bad_setting", defArgs (tp 68), defBody (tp 68), defScope (tp 68), [], []⟩
def e48 : He.DefD := ⟨("crowds_in", none), "crowds_in", "crowds_in", defArgs (tp 69), defBody (tp 69), defScope (tp 69), [], []⟩
def e49 : He.DefD := ⟨("crowd_in", none), "crowd_in", "crowd_in", defArgs (tp 70), defBody (tp 70), defScope (tp 70), [], []⟩
def e50 : He.DefD := ⟨("crowd", none), "crowd", "crowd", defArgs (tp 71), defBody (tp 71), defScope (tp 71), [], []⟩
def e51 : He.DefD := ⟨("_law_balloon", none), "_law_balloon", "_law_balloon", defArgs (tp 73), defBody (tp 73), defScope (tp 73), [], []⟩
def e52 : He.DefD := ⟨("_law_loops_right", none), "_law_loops_right", "_law_loops_right", defArgs (tp 74), defBody (tp 74), defScope (tp 74), [], []⟩
def e53 : He.DefD := ⟨("law", none), "law", "law", defArgs (tp 75), defBody (tp 75), defScope (tp 75), [], []⟩
def fn : List He.DefD := [e0, e1, e2, e3, e4, e5, e6, e7, e8, e9, e10, e11, e12, e13, e14, e15, e16, e17, e18, e19, e20, e21, e22, e23, e24, e25, e26, e27, e28, e29] ++ [e30, e31, e32, e33, e34, e35, e36, e37, e38, e39, e40, e41, e42, e43, e44, e45, e46, e47, e48, e49, e50, e51, e52, e53]
def fa : List He.Fa := [.glo "is_integer", .glo "are_lengths", .glo "is_pair_to", .glo "is_branch", .glo "is_joint", .glo "all_ends", .glo "are_feeds", .glo "wrong_joint", .glo "need_layout", .glo "links_of", .glo "is_link", .glo "ends_in", .glo "is_cut_in", .glo "crossing", .glo "link_between", .glo "need_span", .glo "ties_in", .glo "spread", .glo "signs_in", .glo "signs", .glo "is_sound", .glo "walk_from", .glo "walk_in", .glo "odd_walk", .glo "links_along", .glo "is_route", .glo "is_stand_in", .glo "is_stand", .glo "need_stand", .glo "cells_in"] ++ [.glo "length_of", .glo "need_sound", .glo "next_pairs", .glo "cost_of", .glo "routes_from", .glo "least_bad_in", .glo "least_bad", .glo "limit", .glo "are_cuts", .glo "cut_by", .glo "with_cuts", .glo "one_longer", .glo "least_cuts", .glo "settings_in", .glo "chosen_in", .glo "bad_setting_in", .glo "is_free", .glo "bad_setting", .glo "crowds_in", .glo "crowd_in", .glo "crowd", .glo "_law_balloon", .glo "_law_loops_right", .glo "law", .free "len", .free "int", .free "min", .free "max", .free "all", .free "any"] ++ [.free "sum", .free "tuple", .free "list", .free "isinstance", .free "bool", .free "str", .free "dict", .free "range", .free "enumerate", .free "zip", .free "sorted", .int "MOST_PIECES" 10, .int "LEAST_CELLS" 2, .int "MOST_CELLS" 9, .int "MOST_JOINTS" 10, .int "MOST_BRANCHES" 3, .int "POWER" (-1), .str "LINK" "link", .str "FEED" "feed"]
def loose : List Str := (["__name__", "RailError", "BadLayout", "BadSpan", "BadStand", "BadCuts", "NotSound", "MOST_PIECES", "LEAST_CELLS", "MOST_CELLS", "MOST_JOINTS", "MOST_BRANCHES", "is_integer", "are_lengths", "is_pair_to", "is_branch", "is_joint", "all_ends", "are_feeds", "wrong_joint", "need_layout", "links_of", "is_link", "ends_in", "is_cut_in", "crossing", "link_between", "POWER", "LINK", "FEED"] : List Str) ++ (["need_span", "ties_in", "spread", "signs_in", "signs", "is_sound", "walk_from", "walk_in", "odd_walk", "links_along", "is_route", "is_stand_in", "is_stand", "need_stand", "cells_in", "length_of", "need_sound", "next_pairs", "cost_of", "routes_from", "least_bad_in", "least_bad", "limit", "are_cuts", "cut_by", "with_cuts", "one_longer", "least_cuts", "settings_in", "chosen_in"] : List Str) ++ (["bad_setting_in", "is_free", "bad_setting", "crowds_in", "crowd_in", "crowd", "_law_balloon", "_law_loops_right"] : List Str)
abbrev R : PySem.W.OpenRow := PySem.W.OpenLaw.row PySem.Challenge.rw_swaprails_k22_tracks_by_hand
abbrev hk : PySem.W.Hook := He.hookD 4 fa fn
def ob (s : PySem.W.SharedT) : He.AlD := He.obsDG 4 fa fn (HandSHeadRun.getT s)
theorem ob_eq (s : PySem.W.SharedT) : ob s = hk.obs s.abs := He.obsDG_eq (HandSHeadRun.getT_eq s)
theorem run (w : World) : HandSHeadRun.RunEq R (PySem.W.view R.prog [75]) hk ob 4000 loose w := by
  intro os
  kernel_rfl
end K22


namespace K22
open PySem PySem.Spec PyProof.Rows L2 Sw
/-! the text -/
def top (i : Nat) : Stmt := PySem.Challenge.pw_swaprails_k22_tracks_by_hand.main.body.getD i (.Pass ⟨0, 0, 0, 0⟩)
def d0 : Df := ⟨"is_integer", top 13, ["value", "least", "most"], ["value", "least", "most"], false, 200⟩
def d1 : Df := ⟨"are_lengths", top 14, ["value"], ["value", "one"], false, 200⟩
def d2 : Df := ⟨"is_pair_to", top 15, ["value", "most"], ["value", "most"], false, 200⟩
def d3 : Df := ⟨"is_branch", top 16, ["value", "most"], ["value", "most"], false, 200⟩
def d4 : Df := ⟨"is_joint", top 17, ["value", "most"], ["value", "most", "one"], false, 200⟩
def d5 : Df := ⟨"all_ends", top 18, ["joint"], ["joint", "branch"], false, 200⟩
def d6 : Df := ⟨"are_feeds", top 19, ["value", "most"], ["value", "most", "one", "other"], false, 200⟩
def d7 : Df := ⟨"wrong_joint", top 20, ["joints", "most"], ["joints", "most", "met", "number", "joint", "end"], false, 200⟩
def d8 : Df := ⟨"need_layout", top 21, ["thing"], ["thing", "most", "number"], false, 200⟩
def d9 : Df := ⟨"links_of", top 22, ["layout"], ["layout", "found", "number", "joint", "place"], false, 200⟩
def d10 : Df := ⟨"is_link", top 23, ["layout", "value"], ["layout", "value"], false, 200⟩
def d11 : Df := ⟨"ends_in", top 24, ["layout", "link"], ["layout", "link", "joint"], false, 200⟩
def d12 : Df := ⟨"is_cut_in", top 25, ["layout", "link"], ["layout", "link"], false, 200⟩
def d13 : Df := ⟨"crossing", top 26, ["layout", "link"], ["layout", "link", "one", "other"], false, 200⟩
def d14 : Df := ⟨"link_between", top 27, ["layout", "one", "other"], ["layout", "one", "other", "link"], false, 200⟩
def d15 : Df := ⟨"need_span", top 32, ["layout", "span"], ["layout", "span", "link"], false, 200⟩
def d16 : Df := ⟨"ties_in", top 33, ["layout", "span"], ["layout", "span", "found", "link", "one", "other", "piece", "bit"], false, 200⟩
def d17 : Df := ⟨"spread", top 34, ["ties", "node", "sign", "known"], ["ties", "node", "sign", "known", "waiting", "here", "one", "other", "unlike", "step", "near", "far", "due"], false, 200⟩
def d18 : Df := ⟨"signs_in", top 35, ["layout", "span"], ["layout", "span", "piece", "ties", "known"], false, 200⟩
def d19 : Df := ⟨"signs", top 36, ["layout", "span"], ["layout", "span"], false, 200⟩
def d20 : Df := ⟨"is_sound", top 37, ["layout"], ["layout"], false, 200⟩
def d21 : Df := ⟨"walk_from", top 38, ["ties", "begin"], ["ties", "begin", "found", "waiting", "here", "odd", "one", "other", "unlike", "step", "near", "far", "place"], true, 200⟩
def d22 : Df := ⟨"walk_in", top 39, ["layout", "span"], ["layout", "span", "begin", "ties", "best", "walk"], false, 200⟩
def d23 : Df := ⟨"odd_walk", top 40, ["layout", "span"], ["layout", "span"], false, 200⟩
def d24 : Df := ⟨"links_along", top 42, ["layout", "route"], ["layout", "route", "found", "piece", "to", "other", "way"], false, 200⟩
def d25 : Df := ⟨"is_route", top 43, ["layout", "value"], ["layout", "value", "inner", "one"], false, 200⟩
def d26 : Df := ⟨"is_stand_in", top 44, ["layout", "value"], ["layout", "value", "route", "tail", "head", "first", "last"], false, 200⟩
def d27 : Df := ⟨"is_stand", top 45, ["layout", "value"], ["layout", "value"], false, 200⟩
def d28 : Df := ⟨"need_stand", top 46, ["layout", "stand"], ["layout", "stand"], false, 200⟩
def d29 : Df := ⟨"cells_in", top 47, ["layout", "stand"], ["layout", "stand", "found", "route", "tail", "head", "place", "many", "row", "piece", "to", "begin", "end", "number"], false, 200⟩
def d30 : Df := ⟨"length_of", top 48, ["layout", "stand"], ["layout", "stand"], false, 200⟩
def d31 : Df := ⟨"need_sound", top 50, ["layout"], ["layout"], false, 200⟩
def d32 : Df := ⟨"next_pairs", top 51, ["layout", "pair"], ["layout", "pair", "found", "link", "one", "other", "near", "far"], false, 200⟩
def d33 : Df := ⟨"cost_of", top 52, ["layout", "route"], ["layout", "route", "piece", "to"], false, 200⟩
def d34 : Df := ⟨"routes_from", top 53, ["layout", "route", "most"], ["layout", "route", "most", "pair", "met", "found", "piece", "to"], false, 200⟩
def d35 : Df := ⟨"least_bad_in", top 54, ["layout"], ["layout", "best", "piece", "to", "route"], false, 200⟩
def d36 : Df := ⟨"least_bad", top 55, ["layout"], ["layout"], false, 200⟩
def d37 : Df := ⟨"limit", top 56, ["layout"], ["layout", "found"], false, 200⟩
def d38 : Df := ⟨"are_cuts", top 58, ["layout", "value"], ["layout", "value", "link", "one", "other"], false, 200⟩
def d39 : Df := ⟨"cut_by", top 59, ["layout", "cuts"], ["layout", "cuts", "joints", "number", "row", "stem", "branches", "place", "end", "cut"], false, 200⟩
def d40 : Df := ⟨"with_cuts", top 60, ["layout", "cuts"], ["layout", "cuts"], false, 200⟩
def d41 : Df := ⟨"one_longer", top 61, ["rows", "some"], ["rows", "some", "row", "link"], false, 200⟩
def d42 : Df := ⟨"least_cuts", top 62, ["layout"], ["layout", "some", "rows", "row", "link"], false, 200⟩
def d43 : Df := ⟨"settings_in", top 64, ["layout"], ["layout", "found", "joint", "setting", "place"], false, 200⟩
def d44 : Df := ⟨"chosen_in", top 65, ["setting"], ["setting"], false, 200⟩
def d45 : Df := ⟨"bad_setting_in", top 66, ["layout"], ["layout", "setting"], false, 200⟩
def d46 : Df := ⟨"is_free", top 67, ["layout"], ["layout"], false, 200⟩
def d47 : Df := ⟨"bad_setting", top 68, ["layout"], ["layout"], false, 200⟩
def d48 : Df := ⟨"crowds_in", top 69, ["layout"], ["layout", "found", "number", "joint", "row", "place", "many"], false, 200⟩
def d49 : Df := ⟨"crowd_in", top 70, ["layout"], ["layout", "row"], false, 200⟩
def d50 : Df := ⟨"crowd", top 71, ["layout"], ["layout"], false, 200⟩
def d51 : Df := ⟨"_law_balloon", top 73, ["_law_first", "_law_second", "_law_middle", "_law_fed"], ["_law_first", "_law_second", "_law_middle", "_law_fed", "_law_back"], false, 200⟩
def d52 : Df := ⟨"_law_loops_right", top 74, [], ["_law_parted", "_law_stands", "_law_whole", "_law_once", "_law_twice", "_law_fed"], false, 200⟩
def d53 : Df := ⟨"law", top 75, ["_law_script"], ["_law_script", "_law_ring_so", "_law_told", "_law_oval", "_law_parts", "_law_two", "_law_apart"], false, 200⟩
def fs : List Str := d0.x :: d1.x :: d2.x :: d3.x :: d4.x :: d5.x :: d6.x :: d7.x :: d8.x :: d9.x :: d10.x :: d11.x :: d12.x :: d13.x :: d14.x :: d15.x :: d16.x :: d17.x :: d18.x :: d19.x :: d20.x :: d21.x :: d22.x :: d23.x :: d24.x :: d25.x :: d26.x :: d27.x :: d28.x :: d29.x :: d30.x :: d31.x :: d32.x :: d33.x :: d34.x :: d35.x :: d36.x :: d37.x :: d38.x :: d39.x :: d40.x :: d41.x :: d42.x :: d43.x :: d44.x :: d45.x :: d46.x :: d47.x :: d48.x :: d49.x :: d50.x :: d51.x :: d52.x :: d53.x :: []
def cs : List (Str × D) := [("MOST_PIECES", .int 10), ("LEAST_CELLS", .int 2), ("MOST_CELLS", .int 9), ("MOST_JOINTS", .int 10), ("MOST_BRANCHES", .int 3), ("POWER", .int (-1)), ("LINK", .str "link"), ("FEED", .str "feed")]
def b0 : Bd := ⟨3, 3, (.cons (.ret (.and (.isi [.int] (.var 0)) (.and (.not (.isi [.bool] (.var 0))) (.chain .le .le (.var 1) (.var 0) (.var 2))))) .nil)⟩
def b1 : Bd := ⟨2, 1, (.cons (.ite (.or (.not (.isi [.tuple] (.var 0))) (.not (.chain .le .le (.lit (.int 1)) (.bi .len (.cons (.var 0) .nil)) (.lit (.int 10))))) (.cons (.ret (.lit (.bl false))) .nil) .nil) (.cons (.ret (.bi .all (.cons (.comp (.e (.var 0)) [1] (.name 1) (.lit (.bl true)) (.call 0 (.cons (.var 1) (.cons (.lit (.int 2)) (.cons (.lit (.int 9)) .nil))))) .nil))) .nil))⟩
def b2 : Bd := ⟨2, 2, (.cons (.ret (.and (.isi [.tuple] (.var 0)) (.and (.cmp .eq (.bi .len (.cons (.var 0) .nil)) (.lit (.int 2))) (.and (.call 0 (.cons (.ix (.var 0) (.lit (.int 0))) (.cons (.lit (.int 0)) (.cons (.var 1) .nil)))) (.call 0 (.cons (.ix (.var 0) (.lit (.int 1))) (.cons (.lit (.int 0)) (.cons (.lit (.int 1)) .nil)))))))) .nil)⟩
def b3 : Bd := ⟨2, 2, (.cons (.ret (.and (.isi [.tuple] (.var 0)) (.and (.cmp .eq (.bi .len (.cons (.var 0) .nil)) (.lit (.int 2))) (.and (.call 2 (.cons (.ix (.var 0) (.lit (.int 0))) (.cons (.var 1) .nil))) (.call 0 (.cons (.ix (.var 0) (.lit (.int 1))) (.cons (.lit (.int 0)) (.cons (.lit (.int 1)) .nil)))))))) .nil)⟩
def b4 : Bd := ⟨3, 2, (.cons (.ite (.or (.not (.isi [.tuple] (.var 0))) (.or (.cmp .ne (.bi .len (.cons (.var 0) .nil)) (.lit (.int 2))) (.not (.call 2 (.cons (.ix (.var 0) (.lit (.int 0))) (.cons (.var 1) .nil)))))) (.cons (.ret (.lit (.bl false))) .nil) .nil) (.cons (.ite (.or (.not (.isi [.tuple] (.ix (.var 0) (.lit (.int 1))))) (.not (.chain .le .le (.lit (.int 1)) (.bi .len (.cons (.ix (.var 0) (.lit (.int 1))) .nil)) (.lit (.int 3))))) (.cons (.ret (.lit (.bl false))) .nil) .nil) (.cons (.ret (.bi .all (.cons (.comp (.e (.ix (.var 0) (.lit (.int 1)))) [2] (.name 2) (.lit (.bl true)) (.call 3 (.cons (.var 2) (.cons (.var 1) .nil)))) .nil))) .nil)))⟩
def b5 : Bd := ⟨2, 1, (.cons (.ret (.bin .add (.lst (.cons (.ix (.var 0) (.lit (.int 0))) .nil)) (.comp (.e (.ix (.var 0) (.lit (.int 1)))) [1] (.name 1) (.lit (.bl true)) (.ix (.var 1) (.lit (.int 0)))))) .nil)⟩
def b6 : Bd := ⟨4, 2, (.cons (.ite (.or (.not (.isi [.tuple] (.var 0))) (.not (.bi .all (.cons (.comp (.e (.var 0)) [2] (.name 2) (.lit (.bl true)) (.call 2 (.cons (.var 2) (.cons (.var 1) .nil)))) .nil)))) (.cons (.ret (.lit (.bl false))) .nil) .nil) (.cons (.ret (.bi .all (.cons (.comp (.zip (.cons (.var 0) (.cons (.sl (.var 0) (.some (.lit (.int 1))) .none) .nil))) [2, 3] (.tup 2 (.cons (.name 2) (.cons (.name 3) .nil))) (.lit (.bl true)) (.cmp .lt (.ix (.var 2) (.lit (.int 0))) (.ix (.var 3) (.lit (.int 0))))) .nil))) .nil))⟩
def b7 : Bd := ⟨6, 2, (.cons (.asg (.lst .nil) (.name 2)) (.cons (.fo (.enum (.cons (.var 0) .nil)) (.tup 2 (.cons (.name 3) (.cons (.name 4) .nil))) (.cons (.ite (.not (.call 4 (.cons (.var 4) (.cons (.var 1) .nil)))) (.cons (.ret (.var 3)) .nil) .nil) (.cons (.fo (.e (.call 5 (.cons (.var 4) .nil))) (.name 5) (.cons (.ite (.cmp .is_in (.var 5) (.var 2)) (.cons (.ret (.var 3)) .nil) .nil) (.cons (.expr (.meth .append (.var 2) (.cons (.var 5) .nil))) .nil))) .nil))) (.cons (.ret (.lit .non)) .nil)))⟩
def b8 : Bd := ⟨3, 1, (.cons (.ite (.or (.not (.isi [.tuple] (.var 0))) (.cmp .ne (.bi .len (.cons (.var 0) .nil)) (.lit (.int 3)))) (.cons .bad .nil) .nil) (.cons (.ite (.not (.call 1 (.cons (.ix (.var 0) (.lit (.int 0))) .nil))) (.cons .bad .nil) .nil) (.cons (.asg (.bin .sub (.bi .len (.cons (.ix (.var 0) (.lit (.int 0))) .nil)) (.lit (.int 1))) (.name 1)) (.cons (.ite (.or (.not (.isi [.tuple] (.ix (.var 0) (.lit (.int 1))))) (.cmp .gt (.bi .len (.cons (.ix (.var 0) (.lit (.int 1))) .nil)) (.lit (.int 10)))) (.cons .bad .nil) .nil) (.cons (.asg (.call 7 (.cons (.ix (.var 0) (.lit (.int 1))) (.cons (.var 1) .nil))) (.name 2)) (.cons (.ite (.cmp .isNot (.var 2) (.lit .non)) (.cons .bad .nil) .nil) (.cons (.ite (.not (.call 6 (.cons (.ix (.var 0) (.lit (.int 2))) (.cons (.var 1) .nil)))) (.cons .bad .nil) .nil) (.cons (.ret (.var 0)) .nil))))))))⟩
def b9 : Bd := ⟨5, 1, (.cons (.asg (.lst .nil) (.name 1)) (.cons (.fo (.enum (.cons (.ix (.var 0) (.lit (.int 1))) .nil)) (.tup 2 (.cons (.name 2) (.cons (.name 3) .nil))) (.cons (.aug 1 .add (.comp (.range1 (.cons (.bi .len (.cons (.ix (.var 3) (.lit (.int 1))) .nil)) .nil)) [4] (.name 4) (.lit (.bl true)) (.tup (.cons (.var 2) (.cons (.var 4) .nil))))) .nil)) (.cons (.ret (.var 1)) .nil)))⟩
def b10 : Bd := ⟨2, 2, (.cons (.ite (.or (.not (.isi [.tuple] (.var 1))) (.or (.cmp .ne (.bi .len (.cons (.var 1) .nil)) (.lit (.int 2))) (.not (.call 0 (.cons (.ix (.var 1) (.lit (.int 0))) (.cons (.lit (.int 0)) (.cons (.bin .sub (.bi .len (.cons (.ix (.var 0) (.lit (.int 1))) .nil)) (.lit (.int 1))) .nil))))))) (.cons (.ret (.lit (.bl false))) .nil) .nil) (.cons (.ret (.call 0 (.cons (.ix (.var 1) (.lit (.int 1))) (.cons (.lit (.int 0)) (.cons (.bin .sub (.bi .len (.cons (.ix (.ix (.ix (.var 0) (.lit (.int 1))) (.ix (.var 1) (.lit (.int 0)))) (.lit (.int 1))) .nil)) (.lit (.int 1))) .nil))))) .nil))⟩
def b11 : Bd := ⟨3, 2, (.cons (.asg (.ix (.ix (.var 0) (.lit (.int 1))) (.ix (.var 1) (.lit (.int 0)))) (.name 2)) (.cons (.ret (.tup (.cons (.ix (.var 2) (.lit (.int 0))) (.cons (.ix (.ix (.ix (.var 2) (.lit (.int 1))) (.ix (.var 1) (.lit (.int 1)))) (.lit (.int 0))) .nil)))) .nil))⟩
def b12 : Bd := ⟨2, 2, (.cons (.ret (.cmp .eq (.ix (.ix (.ix (.ix (.ix (.var 0) (.lit (.int 1))) (.ix (.var 1) (.lit (.int 0)))) (.lit (.int 1))) (.ix (.var 1) (.lit (.int 1)))) (.lit (.int 1))) (.lit (.int 1)))) .nil)⟩
def b13 : Bd := ⟨4, 2, (.cons (.asg (.call 11 (.cons (.var 0) (.cons (.var 1) .nil))) (.tup 2 (.cons (.name 2) (.cons (.name 3) .nil)))) (.cons (.ret (.bi .int (.cons (.cmp .eq (.ix (.var 2) (.lit (.int 1))) (.ix (.var 3) (.lit (.int 1)))) .nil))) .nil))⟩
def b14 : Bd := ⟨4, 3, (.cons (.fo (.e (.call 9 (.cons (.var 0) .nil))) (.name 3) (.cons (.ite (.cmp .is_in (.call 11 (.cons (.var 0) (.cons (.var 3) .nil))) (.tup (.cons (.tup (.cons (.var 1) (.cons (.var 2) .nil))) (.cons (.tup (.cons (.var 2) (.cons (.var 1) .nil))) .nil)))) (.cons (.ret (.var 3)) .nil) .nil) .nil)) (.cons (.ret (.lit .non)) .nil))⟩
def b15 : Bd := ⟨3, 2, (.cons (.expr (.call 8 (.cons (.var 0) .nil))) (.cons (.ite (.or (.not (.isi [.list, .tuple] (.var 1))) (.not (.bi .all (.cons (.comp (.e (.var 1)) [2] (.name 2) (.lit (.bl true)) (.call 10 (.cons (.var 0) (.cons (.var 2) .nil)))) .nil)))) (.cons .bad .nil) .nil) .nil))⟩
def b16 : Bd := ⟨8, 2, (.cons (.asg (.lst .nil) (.name 2)) (.cons (.fo (.e (.call 9 (.cons (.var 0) .nil))) (.name 3) (.cons (.ite (.or (.not (.call 12 (.cons (.var 0) (.cons (.var 3) .nil)))) (.cmp .is_in (.var 3) (.var 1))) (.cons (.asg (.call 11 (.cons (.var 0) (.cons (.var 3) .nil))) (.tup 2 (.cons (.name 4) (.cons (.name 5) .nil)))) (.cons (.expr (.meth .append (.var 2) (.cons (.tup (.cons (.ix (.var 4) (.lit (.int 0))) (.cons (.ix (.var 5) (.lit (.int 0))) (.cons (.call 13 (.cons (.var 0) (.cons (.var 3) .nil))) (.cons (.tup (.cons (.lit (.str "link")) (.cons (.ix (.var 3) (.lit (.int 0))) (.cons (.ix (.var 3) (.lit (.int 1))) .nil)))) .nil))))) .nil))) .nil)) .nil) .nil)) (.cons (.ret (.bin .add (.var 2) (.comp (.e (.ix (.var 0) (.lit (.int 2)))) [6, 7] (.tup 2 (.cons (.name 6) (.cons (.name 7) .nil))) (.lit (.bl true)) (.tup (.cons (.var 6) (.cons (.lit (.int (-1))) (.cons (.var 7) (.cons (.tup (.cons (.lit (.str "feed")) (.cons (.var 6) .nil))) .nil)))))))) .nil)))⟩
def b17 : Bd := ⟨13, 4, (.cons (.put (.var 3) (.var 1) (.var 2)) (.cons (.asg (.lst (.cons (.var 1) .nil)) (.name 4)) (.cons (.wh 200 (.cmp .ne (.var 4) (.lst .nil)) (.cons (.asg (.meth .pop (.var 4) .nil) (.name 5)) (.cons (.fo (.e (.var 0)) (.tup 4 (.cons (.name 6) (.cons (.name 7) (.cons (.name 8) (.cons (.name 9) .nil))))) (.cons (.fo (.e (.tup (.cons (.tup (.cons (.var 6) (.cons (.var 7) .nil))) (.cons (.tup (.cons (.var 7) (.cons (.var 6) .nil))) .nil)))) (.tup 2 (.cons (.name 10) (.cons (.name 11) .nil))) (.cons (.ite (.cmp .eq (.var 10) (.var 5)) (.cons (.asg (.bi .int (.cons (.cmp .ne (.ix (.var 3) (.var 10)) (.var 8)) .nil)) (.name 12)) (.cons (.ite (.cmp .notIn (.var 11) (.var 3)) (.cons (.put (.var 3) (.var 11) (.var 12)) (.cons (.expr (.meth .append (.var 4) (.cons (.var 11) .nil))) .nil)) (.cons (.ite (.cmp .ne (.ix (.var 3) (.var 11)) (.var 12)) (.cons (.ret (.lit (.bl false))) .nil) .nil) .nil)) .nil)) .nil) .nil)) .nil)) .nil))) (.cons (.ret (.lit (.bl true))) .nil))))⟩
def b18 : Bd := ⟨5, 2, (.cons (.asg (.tup (.cons (.call 16 (.cons (.var 0) (.cons (.var 1) .nil))) (.cons (.dnew false) .nil))) (.tup 2 (.cons (.name 3) (.cons (.name 4) .nil)))) (.cons (.ite (.not (.call 17 (.cons (.var 3) (.cons (.lit (.int (-1))) (.cons (.lit (.int 0)) (.cons (.var 4) .nil)))))) (.cons (.ret (.lit .non)) .nil) .nil) (.cons (.fo (.range1 (.cons (.bi .len (.cons (.ix (.var 0) (.lit (.int 0))) .nil)) .nil)) (.name 2) (.cons (.ite (.and (.cmp .notIn (.var 2) (.var 4)) (.not (.call 17 (.cons (.var 3) (.cons (.var 2) (.cons (.lit (.int 0)) (.cons (.var 4) .nil))))))) (.cons (.ret (.lit .non)) .nil) .nil) .nil)) (.cons (.ret (.bi .tuple (.cons (.comp (.range1 (.cons (.bi .len (.cons (.ix (.var 0) (.lit (.int 0))) .nil)) .nil)) [2] (.name 2) (.lit (.bl true)) (.ix (.var 4) (.var 2))) .nil))) .nil))))⟩
def b19 : Bd := ⟨2, 2, (.cons (.expr (.call 15 (.cons (.var 0) (.cons (.var 1) .nil)))) (.cons (.ret (.call 18 (.cons (.var 0) (.cons (.var 1) .nil)))) .nil))⟩
def b20 : Bd := ⟨1, 1, (.cons (.ret (.cmp .isNot (.call 18 (.cons (.call 8 (.cons (.var 0) .nil)) (.cons (.tup .nil) .nil))) (.lit .non))) .nil)⟩
def b21 : Bd := ⟨13, 2, (.cons (.asg (.tup (.cons (.disp (.tup (.cons (.var 1) (.cons (.lit (.int 0)) .nil))) (.lst .nil)) (.cons (.lst (.cons (.tup (.cons (.var 1) (.cons (.lit (.int 0)) .nil))) .nil)) .nil))) (.tup 2 (.cons (.name 2) (.cons (.name 3) .nil)))) (.cons (.wh 200 (.cmp .ne (.var 3) (.lst .nil)) (.cons (.asg (.meth .pop (.var 3) (.cons (.lit (.int 0)) .nil)) (.tup 2 (.cons (.name 4) (.cons (.name 5) .nil)))) (.cons (.fo (.e (.var 0)) (.tup 4 (.cons (.name 6) (.cons (.name 7) (.cons (.name 8) (.cons (.name 9) .nil))))) (.cons (.fo (.e (.tup (.cons (.tup (.cons (.var 6) (.cons (.var 7) .nil))) (.cons (.tup (.cons (.var 7) (.cons (.var 6) .nil))) .nil)))) (.tup 2 (.cons (.name 10) (.cons (.name 11) .nil))) (.cons (.asg (.tup (.cons (.var 11) (.cons (.bi .int (.cons (.cmp .ne (.var 5) (.var 8)) .nil)) .nil))) (.name 12)) (.cons (.ite (.and (.cmp .eq (.var 10) (.var 4)) (.cmp .notIn (.var 12) (.var 2))) (.cons (.put (.var 2) (.var 12) (.bin .add (.ix (.var 2) (.tup (.cons (.var 4) (.cons (.var 5) .nil)))) (.lst (.cons (.var 9) .nil)))) (.cons (.expr (.meth .append (.var 3) (.cons (.var 12) .nil))) .nil)) .nil) .nil))) .nil)) .nil))) (.cons (.ret (.meth .get (.var 2) (.cons (.tup (.cons (.var 1) (.cons (.lit (.int 1)) .nil))) .nil))) .nil)))⟩
def b22 : Bd := ⟨6, 2, (.cons (.asg (.tup (.cons (.call 16 (.cons (.var 0) (.cons (.var 1) .nil))) (.cons (.lit .non) .nil))) (.tup 2 (.cons (.name 3) (.cons (.name 4) .nil)))) (.cons (.fo (.range2 (.cons (.lit (.int (-1))) (.cons (.bi .len (.cons (.ix (.var 0) (.lit (.int 0))) .nil)) .nil))) (.name 2) (.cons (.asg (.call 21 (.cons (.var 3) (.cons (.var 2) .nil))) (.name 5)) (.cons (.ite (.and (.cmp .isNot (.var 5) (.lit .non)) (.or (.cmp .is (.var 4) (.lit .non)) (.cmp .lt (.bi .len (.cons (.var 5) .nil)) (.bi .len (.cons (.var 4) .nil))))) (.cons (.asg (.var 5) (.name 4)) .nil) .nil) .nil))) (.cons (.ret (.ite (.cmp .is (.var 4) (.lit .non)) (.lit .non) (.bi .tuple (.cons (.var 4) .nil)))) .nil)))⟩
def b23 : Bd := ⟨2, 2, (.cons (.expr (.call 15 (.cons (.var 0) (.cons (.var 1) .nil)))) (.cons (.ret (.call 22 (.cons (.var 0) (.cons (.var 1) .nil)))) .nil))⟩
def b24 : Bd := ⟨7, 2, (.cons (.asg (.lst .nil) (.name 2)) (.cons (.fo (.zip (.cons (.var 1) (.cons (.sl (.var 1) (.some (.lit (.int 1))) .none) .nil))) (.tup 2 (.cons (.tup 2 (.cons (.name 3) (.cons (.name 4) .nil))) (.cons (.tup 2 (.cons (.name 5) (.cons (.name 6) .nil))) .nil))) (.cons (.expr (.meth .append (.var 2) (.cons (.call 14 (.cons (.var 0) (.cons (.tup (.cons (.var 3) (.cons (.var 4) .nil))) (.cons (.tup (.cons (.var 5) (.cons (.bin .sub (.lit (.int 1)) (.var 6)) .nil))) .nil)))) .nil))) .nil)) (.cons (.ret (.var 2)) .nil)))⟩
def b25 : Bd := ⟨4, 2, (.cons (.ite (.or (.not (.isi [.tuple] (.var 1))) (.or (.cmp .eq (.var 1) (.tup .nil)) (.not (.bi .all (.cons (.comp (.e (.var 1)) [3] (.name 3) (.lit (.bl true)) (.call 2 (.cons (.var 3) (.cons (.bin .sub (.bi .len (.cons (.ix (.var 0) (.lit (.int 0))) .nil)) (.lit (.int 1))) .nil)))) .nil))))) (.cons (.ret (.lit (.bl false))) .nil) .nil) (.cons (.asg (.ite (.and (.cmp .gt (.bi .len (.cons (.var 1) .nil)) (.lit (.int 1))) (.cmp .eq (.ix (.var 1) (.lit (.int 0))) (.ix (.var 1) (.neg (.lit (.int 1)))))) (.sl (.var 1) .none (.some (.neg (.lit (.int 1))))) (.var 1)) (.name 2)) (.cons (.ite (.cmp .lt (.scl (.e (.var 2)) [3] (.name 3) (.lit (.bl true)) (.ix (.var 3) (.lit (.int 0)))) (.bi .len (.cons (.var 2) .nil))) (.cons (.ret (.lit (.bl false))) .nil) .nil) (.cons (.ret (.cmp .notIn (.lit .non) (.call 24 (.cons (.var 0) (.cons (.var 1) .nil))))) .nil))))⟩
def b26 : Bd := ⟨7, 2, (.cons (.ite (.or (.not (.isi [.tuple] (.var 1))) (.or (.cmp .ne (.bi .len (.cons (.var 1) .nil)) (.lit (.int 3))) (.not (.call 25 (.cons (.var 0) (.cons (.ix (.var 1) (.lit (.int 0))) .nil)))))) (.cons (.ret (.lit (.bl false))) .nil) .nil) (.cons (.asg (.var 1) (.tup 3 (.cons (.name 2) (.cons (.name 3) (.cons (.name 4) .nil))))) (.cons (.asg (.tup (.cons (.ix (.ix (.var 0) (.lit (.int 0))) (.ix (.ix (.var 2) (.lit (.int 0))) (.lit (.int 0)))) (.cons (.ix (.ix (.var 0) (.lit (.int 0))) (.ix (.ix (.var 2) (.neg (.lit (.int 1)))) (.lit (.int 0)))) .nil))) (.tup 2 (.cons (.name 5) (.cons (.name 6) .nil)))) (.cons (.ite (.or (.not (.call 0 (.cons (.var 3) (.cons (.lit (.int 0)) (.cons (.bin .sub (.var 5) (.lit (.int 1))) .nil))))) (.not (.call 0 (.cons (.var 4) (.cons (.lit (.int 1)) (.cons (.var 6) .nil)))))) (.cons (.ret (.lit (.bl false))) .nil) .nil) (.cons (.ite (.cmp .eq (.bi .len (.cons (.var 2) .nil)) (.lit (.int 1))) (.cons (.ret (.cmp .ge (.bin .sub (.var 4) (.var 3)) (.lit (.int 2)))) .nil) .nil) (.cons (.ret (.or (.cmp .ne (.ix (.ix (.var 2) (.lit (.int 0))) (.lit (.int 0))) (.ix (.ix (.var 2) (.neg (.lit (.int 1)))) (.lit (.int 0)))) (.cmp .le (.var 4) (.var 3)))) .nil))))))⟩
def b27 : Bd := ⟨2, 2, (.cons (.expr (.call 8 (.cons (.var 0) .nil))) (.cons (.ret (.call 26 (.cons (.var 0) (.cons (.var 1) .nil)))) .nil))⟩
def b28 : Bd := ⟨2, 2, (.cons (.ite (.not (.call 27 (.cons (.var 0) (.cons (.var 1) .nil)))) (.cons .bad .nil) .nil) .nil)⟩
def b29 : Bd := ⟨14, 2, (.cons (.asg (.var 1) (.tup 3 (.cons (.name 3) (.cons (.name 4) (.cons (.name 5) .nil))))) (.cons (.asg (.lst .nil) (.name 2)) (.cons (.fo (.enum (.cons (.var 3) .nil)) (.tup 2 (.cons (.name 6) (.cons (.tup 2 (.cons (.name 9) (.cons (.name 10) .nil))) .nil))) (.cons (.asg (.ix (.ix (.var 0) (.lit (.int 0))) (.var 9)) (.name 7)) (.cons (.asg (.comp (.range1 (.cons (.var 7) .nil)) [13] (.name 13) (.lit (.bl true)) (.tup (.cons (.var 9) (.cons (.ite (.cmp .eq (.var 10) (.lit (.int 1))) (.var 13) (.bin .sub (.bin .sub (.var 7) (.lit (.int 1))) (.var 13))) .nil)))) (.name 8)) (.cons (.asg (.tup (.cons (.ite (.cmp .eq (.var 6) (.lit (.int 0))) (.var 4) (.lit (.int 0))) (.cons (.ite (.cmp .eq (.var 6) (.bin .sub (.bi .len (.cons (.var 3) .nil)) (.lit (.int 1)))) (.var 5) (.var 7)) .nil))) (.tup 2 (.cons (.name 11) (.cons (.name 12) .nil)))) (.cons (.aug 2 .add (.sl (.var 8) (.some (.var 11)) (.some (.var 12)))) .nil))))) (.cons (.ret (.var 2)) .nil))))⟩
def b30 : Bd := ⟨2, 2, (.cons (.expr (.call 28 (.cons (.var 0) (.cons (.var 1) .nil)))) (.cons (.ret (.bi .len (.cons (.call 29 (.cons (.var 0) (.cons (.var 1) .nil))) .nil))) .nil))⟩
def b31 : Bd := ⟨1, 1, (.cons (.ite (.cmp .is (.call 18 (.cons (.call 8 (.cons (.var 0) .nil)) (.cons (.tup .nil) .nil))) (.lit .non)) (.cons .bad .nil) .nil) .nil)⟩
def b32 : Bd := ⟨8, 2, (.cons (.asg (.lst .nil) (.name 2)) (.cons (.fo (.e (.call 9 (.cons (.var 0) .nil))) (.name 3) (.cons (.asg (.call 11 (.cons (.var 0) (.cons (.var 3) .nil))) (.tup 2 (.cons (.name 4) (.cons (.name 5) .nil)))) (.cons (.aug 2 .add (.comp (.e (.tup (.cons (.tup (.cons (.var 4) (.cons (.var 5) .nil))) (.cons (.tup (.cons (.var 5) (.cons (.var 4) .nil))) .nil)))) [6, 7] (.tup 2 (.cons (.name 6) (.cons (.name 7) .nil))) (.cmp .eq (.var 6) (.var 1)) (.tup (.cons (.ix (.var 7) (.lit (.int 0))) (.cons (.bin .sub (.lit (.int 1)) (.ix (.var 7) (.lit (.int 1)))) .nil))))) .nil))) (.cons (.ret (.var 2)) .nil)))⟩
def b33 : Bd := ⟨4, 2, (.cons (.ret (.bin .add (.lit (.int 2)) (.bi .sum (.cons (.comp (.e (.sl (.var 1) (.some (.lit (.int 1))) (.some (.neg (.lit (.int 1)))))) [2, 3] (.tup 2 (.cons (.name 2) (.cons (.name 3) .nil))) (.lit (.bl true)) (.ix (.ix (.var 0) (.lit (.int 0))) (.var 2))) .nil)))) .nil)⟩
def b34 : Bd := ⟨8, 3, (.cons (.ite (.and (.cmp .isNot (.var 2) (.lit .non)) (.and (.cmp .gt (.bi .len (.cons (.var 1) .nil)) (.lit (.int 1))) (.cmp .gt (.call 33 (.cons (.var 0) (.cons (.var 1) .nil))) (.var 2)))) (.cons (.ret (.lst .nil)) .nil) .nil) (.cons (.ite (.and (.cmp .gt (.bi .len (.cons (.var 1) .nil)) (.lit (.int 1))) (.cmp .is (.call 18 (.cons (.var 0) (.cons (.call 24 (.cons (.var 0) (.cons (.var 1) .nil))) .nil))) (.lit .non))) (.cons (.ret (.lst (.cons (.var 1) .nil))) .nil) .nil) (.cons (.ite (.and (.cmp .gt (.bi .len (.cons (.var 1) .nil)) (.lit (.int 1))) (.cmp .eq (.ix (.ix (.var 1) (.lit (.int 0))) (.lit (.int 0))) (.ix (.ix (.var 1) (.neg (.lit (.int 1)))) (.lit (.int 0))))) (.cons (.ret (.lst .nil)) .nil) .nil) (.cons (.asg (.tup (.cons (.comp (.e (.sl (.var 1) (.some (.lit (.int 1))) .none)) [6, 7] (.tup 2 (.cons (.name 6) (.cons (.name 7) .nil))) (.lit (.bl true)) (.var 6)) (.cons (.lst .nil) .nil))) (.tup 2 (.cons (.name 4) (.cons (.name 5) .nil)))) (.cons (.fo (.e (.call 32 (.cons (.var 0) (.cons (.ix (.var 1) (.neg (.lit (.int 1)))) .nil)))) (.name 3) (.cons (.ite (.and (.cmp .notIn (.ix (.var 3) (.lit (.int 0))) (.var 4)) (.or (.cmp .ne (.ix (.var 3) (.lit (.int 0))) (.ix (.ix (.var 1) (.lit (.int 0))) (.lit (.int 0)))) (.cmp .eq (.var 3) (.ix (.var 1) (.lit (.int 0)))))) (.cons (.aug 5 .add (.call 34 (.cons (.var 0) (.cons (.tup (.star (.var 1) (.cons (.var 3) .nil))) (.cons (.var 2) .nil))))) .nil) .nil) .nil)) (.cons (.ret (.var 5)) .nil))))))⟩
def b35 : Bd := ⟨5, 1, (.cons (.asg (.lit .non) (.name 1)) (.cons (.fo (.range1 (.cons (.bi .len (.cons (.ix (.var 0) (.lit (.int 0))) .nil)) .nil)) (.name 2) (.cons (.fo (.e (.tup (.cons (.lit (.int 0)) (.cons (.lit (.int 1)) .nil)))) (.name 3) (.cons (.fo (.e (.call 34 (.cons (.var 0) (.cons (.tup (.cons (.tup (.cons (.var 2) (.cons (.var 3) .nil))) .nil)) (.cons (.ite (.cmp .is (.var 1) (.lit .non)) (.lit .non) (.call 33 (.cons (.var 0) (.cons (.var 1) .nil)))) .nil))))) (.name 4) (.cons (.ite (.or (.cmp .is (.var 1) (.lit .non)) (.cmp .lt (.call 33 (.cons (.var 0) (.cons (.var 4) .nil))) (.call 33 (.cons (.var 0) (.cons (.var 1) .nil))))) (.cons (.asg (.var 4) (.name 1)) .nil) .nil) .nil)) .nil)) .nil)) (.cons (.ret (.ite (.cmp .is (.var 1) (.lit .non)) (.lit .non) (.tup (.cons (.var 1) (.cons (.bin .sub (.ix (.ix (.var 0) (.lit (.int 0))) (.ix (.ix (.var 1) (.lit (.int 0))) (.lit (.int 0)))) (.lit (.int 1))) (.cons (.lit (.int 1)) .nil)))))) .nil)))⟩
def b36 : Bd := ⟨1, 1, (.cons (.expr (.call 31 (.cons (.var 0) .nil))) (.cons (.ret (.call 35 (.cons (.var 0) .nil))) .nil))⟩
def b37 : Bd := ⟨2, 1, (.cons (.asg (.call 36 (.cons (.var 0) .nil)) (.name 1)) (.cons (.ret (.ite (.cmp .is (.var 1) (.lit .non)) (.lit .non) (.bin .sub (.call 33 (.cons (.var 0) (.cons (.ix (.var 1) (.lit (.int 0))) .nil))) (.lit (.int 1))))) .nil))⟩
def b38 : Bd := ⟨5, 2, (.cons (.ite (.or (.not (.isi [.tuple] (.var 1))) (.not (.bi .all (.cons (.comp (.e (.var 1)) [2] (.name 2) (.lit (.bl true)) (.call 10 (.cons (.var 0) (.cons (.var 2) .nil)))) .nil)))) (.cons (.ret (.lit (.bl false))) .nil) .nil) (.cons (.ite (.not (.bi .all (.cons (.comp (.zip (.cons (.var 1) (.cons (.sl (.var 1) (.some (.lit (.int 1))) .none) .nil))) [3, 4] (.tup 2 (.cons (.name 3) (.cons (.name 4) .nil))) (.lit (.bl true)) (.cmp .lt (.var 3) (.var 4))) .nil))) (.cons (.ret (.lit (.bl false))) .nil) .nil) (.cons (.ret (.not (.bi .any (.cons (.comp (.e (.var 1)) [2] (.name 2) (.lit (.bl true)) (.call 12 (.cons (.var 0) (.cons (.var 2) .nil)))) .nil)))) .nil)))⟩
def b39 : Bd := ⟨10, 2, (.cons (.asg (.lst .nil) (.name 2)) (.cons (.fo (.enum (.cons (.ix (.var 0) (.lit (.int 1))) .nil)) (.tup 2 (.cons (.name 3) (.cons (.tup 2 (.cons (.name 5) (.cons (.name 6) .nil))) .nil))) (.cons (.asg (.comp (.enum (.cons (.var 6) .nil)) [7, 8, 9] (.tup 2 (.cons (.name 7) (.cons (.tup 2 (.cons (.name 8) (.cons (.name 9) .nil))) .nil))) (.lit (.bl true)) (.tup (.cons (.var 8) (.cons (.bi .int (.cons (.or (.cmp .eq (.var 9) (.lit (.int 1))) (.cmp .is_in (.tup (.cons (.var 3) (.cons (.var 7) .nil))) (.var 1))) .nil)) .nil)))) (.name 4)) (.cons (.expr (.meth .append (.var 2) (.cons (.tup (.cons (.var 5) (.cons (.bi .tuple (.cons (.var 4) .nil)) .nil))) .nil))) .nil))) (.cons (.ret (.tup (.cons (.ix (.var 0) (.lit (.int 0))) (.cons (.bi .tuple (.cons (.var 2) .nil)) (.cons (.ix (.var 0) (.lit (.int 2))) .nil))))) .nil)))⟩
def b40 : Bd := ⟨2, 2, (.cons (.expr (.call 8 (.cons (.var 0) .nil))) (.cons (.ite (.not (.call 38 (.cons (.var 0) (.cons (.var 1) .nil)))) (.cons .bad .nil) .nil) (.cons (.ret (.call 39 (.cons (.var 0) (.cons (.var 1) .nil)))) .nil)))⟩
def b41 : Bd := ⟨4, 2, (.cons (.ret (.comp2 (.e (.var 0)) [2, 3] (.name 2) (.lit (.bl true)) (.e (.var 1)) [3] (.name 3) (.or (.cmp .eq (.var 2) (.tup .nil)) (.cmp .gt (.var 3) (.ix (.var 2) (.neg (.lit (.int 1)))))) (.tup (.star (.var 2) (.cons (.var 3) .nil))))) .nil)⟩
def b42 : Bd := ⟨5, 1, (.cons (.expr (.call 8 (.cons (.var 0) .nil))) (.cons (.asg (.comp (.e (.call 9 (.cons (.var 0) .nil))) [4] (.name 4) (.not (.call 12 (.cons (.var 0) (.cons (.var 4) .nil)))) (.var 4)) (.name 1)) (.cons (.asg (.lst (.cons (.tup .nil) .nil)) (.name 2)) (.cons (.wh 200 (.lit (.bl true)) (.cons (.fo (.e (.var 2)) (.name 3) (.cons (.ite (.cmp .isNot (.call 18 (.cons (.call 39 (.cons (.var 0) (.cons (.var 3) .nil))) (.cons (.tup .nil) .nil))) (.lit .non)) (.cons (.ret (.var 3)) .nil) .nil) .nil)) (.cons (.asg (.call 41 (.cons (.var 2) (.cons (.var 1) .nil))) (.name 2)) .nil))) .nil))))⟩
def b43 : Bd := ⟨5, 1, (.cons (.asg (.lst (.cons (.tup .nil) .nil)) (.name 1)) (.cons (.fo (.e (.ix (.var 0) (.lit (.int 1)))) (.name 2) (.cons (.asg (.comp2 (.e (.var 1)) [3, 4] (.name 3) (.lit (.bl true)) (.range1 (.cons (.bi .len (.cons (.ix (.var 2) (.lit (.int 1))) .nil)) .nil)) [4] (.name 4) (.lit (.bl true)) (.tup (.star (.var 3) (.cons (.var 4) .nil)))) (.name 1)) .nil)) (.cons (.ret (.var 1)) .nil)))⟩
def b44 : Bd := ⟨1, 1, (.cons (.ret (.lenum (.cons (.var 0) .nil))) .nil)⟩
def b45 : Bd := ⟨2, 1, (.cons (.fo (.e (.call 43 (.cons (.var 0) .nil))) (.name 1) (.cons (.ite (.cmp .is (.call 18 (.cons (.var 0) (.cons (.call 44 (.cons (.var 1) .nil)) .nil))) (.lit .non)) (.cons (.ret (.var 1)) .nil) .nil) .nil)) (.cons (.ret (.lit .non)) .nil))⟩
def b46 : Bd := ⟨1, 1, (.cons (.expr (.call 31 (.cons (.var 0) .nil))) (.cons (.ret (.cmp .is (.call 45 (.cons (.var 0) .nil)) (.lit .non))) .nil))⟩
def b47 : Bd := ⟨1, 1, (.cons (.expr (.call 31 (.cons (.var 0) .nil))) (.cons (.ret (.call 45 (.cons (.var 0) .nil))) .nil))⟩
def b48 : Bd := ⟨7, 1, (.cons (.asg (.lst (.cons (.tup .nil) .nil)) (.name 1)) (.cons (.fo (.enum (.cons (.ix (.var 0) (.lit (.int 1))) .nil)) (.tup 2 (.cons (.name 2) (.cons (.name 3) .nil))) (.cons (.aug 1 .add (.comp2 (.e (.var 1)) [4, 5] (.name 4) (.lit (.bl true)) (.range1 (.cons (.bi .len (.cons (.ix (.var 3) (.lit (.int 1))) .nil)) .nil)) [5] (.name 5) (.lit (.bl true)) (.tup (.star (.var 4) (.cons (.tup (.cons (.var 2) (.cons (.var 5) .nil))) .nil))))) .nil)) (.cons (.ret (.comp (.e (.bi .sorted (.cons (.comp (.e (.var 1)) [4] (.name 4) (.lit (.bl true)) (.tup (.cons (.bi .len (.cons (.var 4) .nil)) (.cons (.var 4) .nil)))) .nil))) [6, 4] (.tup 2 (.cons (.name 6) (.cons (.name 4) .nil))) (.lit (.bl true)) (.var 4))) .nil)))⟩
def b49 : Bd := ⟨2, 1, (.cons (.fo (.e (.ite (.cmp .isNot (.call 45 (.cons (.var 0) .nil)) (.lit .non)) (.call 48 (.cons (.var 0) .nil)) (.lst .nil))) (.name 1) (.cons (.ite (.cmp .is (.call 18 (.cons (.var 0) (.cons (.var 1) .nil))) (.lit .non)) (.cons (.ret (.var 1)) .nil) .nil) .nil)) (.cons (.ret (.lit .non)) .nil))⟩
def b50 : Bd := ⟨1, 1, (.cons (.expr (.call 31 (.cons (.var 0) .nil))) (.cons (.ret (.call 49 (.cons (.var 0) .nil))) .nil))⟩
def b51 : Bd := ⟨5, 4, (.cons (.asg (.tup (.cons (.tup (.cons (.lit (.int 0)) (.cons (.lit (.int 1)) .nil))) (.cons (.tup (.cons (.tup (.cons (.tup (.cons (.lit (.int 1)) (.cons (.lit (.int 0)) .nil))) (.cons (.var 0) .nil))) (.cons (.tup (.cons (.tup (.cons (.lit (.int 2)) (.cons (.lit (.int 1)) .nil))) (.cons (.var 1) .nil))) .nil))) .nil))) (.name 4)) (.cons (.ret (.tup (.cons (.tup (.cons (.lit (.int 4)) (.cons (.lit (.int 3)) (.cons (.lit (.int 5)) .nil)))) (.cons (.tup (.cons (.var 4) (.cons (.tup (.cons (.tup (.cons (.lit (.int 1)) (.cons (.lit (.int 1)) .nil))) (.cons (.tup (.cons (.tup (.cons (.tup (.cons (.lit (.int 2)) (.cons (.lit (.int 0)) .nil))) (.cons (.var 2) .nil))) .nil)) .nil))) .nil))) (.cons (.var 3) .nil))))) .nil))⟩
def b52 : Bd := ⟨6, 0, (.cons (.asg (.tup (.cons (.call 51 (.cons (.lit (.int 0)) (.cons (.lit (.int 0)) (.cons (.lit (.int 0)) (.cons (.tup .nil) .nil))))) (.cons (.call 51 (.cons (.lit (.int 1)) (.cons (.lit (.int 0)) (.cons (.lit (.int 0)) (.cons (.tup .nil) .nil))))) .nil))) (.tup 2 (.cons (.name 2) (.cons (.name 3) .nil)))) (.cons (.ite (.or (.call 20 (.cons (.var 2) .nil)) (.or (.cmp .ne (.bi .len (.cons (.call 23 (.cons (.var 2) (.cons (.tup .nil) .nil))) .nil)) (.lit (.int 3))) (.cmp .ne (.call 42 (.cons (.var 2) .nil)) (.tup (.cons (.tup (.cons (.lit (.int 0)) (.cons (.lit (.int 0)) .nil))) .nil))))) (.cons (.ret (.lit (.bl false))) .nil) .nil) (.cons (.ite (.or (.cmp .ne (.call 19 (.cons (.var 3) (.cons (.tup .nil) .nil))) (.tup (.cons (.lit (.int 0)) (.cons (.lit (.int 1)) (.cons (.lit (.int 1)) .nil))))) (.or (.cmp .ne (.call 37 (.cons (.var 3) .nil)) (.lit (.int 1))) (.cmp .ne (.call 30 (.cons (.var 3) (.cons (.call 36 (.cons (.var 3) .nil)) .nil))) (.lit (.int 2))))) (.cons (.ret (.lit (.bl false))) .nil) .nil) (.cons (.ite (.or (.cmp .ne (.call 47 (.cons (.var 3) .nil)) (.tup (.cons (.lit (.int 0)) (.cons (.lit (.int 0)) .nil)))) (.or (.cmp .ne (.call 50 (.cons (.var 3) .nil)) (.tup (.cons (.tup (.cons (.lit (.int 0)) (.cons (.lit (.int 0)) .nil))) .nil))) (.cmp .isNot (.call 19 (.cons (.var 3) (.cons (.lst (.cons (.tup (.cons (.lit (.int 0)) (.cons (.lit (.int 0)) .nil))) .nil)) .nil))) (.lit .non)))) (.cons (.ret (.lit (.bl false))) .nil) .nil) (.cons (.asg (.tup (.cons (.call 51 (.cons (.lit (.int 1)) (.cons (.lit (.int 1)) (.cons (.lit (.int 0)) (.cons (.tup .nil) .nil))))) (.cons (.call 51 (.cons (.lit (.int 1)) (.cons (.lit (.int 1)) (.cons (.lit (.int 0)) (.cons (.tup (.cons (.tup (.cons (.lit (.int 0)) (.cons (.lit (.int 0)) .nil))) (.cons (.tup (.cons (.lit (.int 1)) (.cons (.lit (.int 0)) .nil))) .nil))) .nil))))) .nil))) (.tup 2 (.cons (.name 4) (.cons (.name 5) .nil)))) (.cons (.ite (.cmp .ne (.lst (.cons (.call 46 (.cons (.var 4) .nil)) (.cons (.call 37 (.cons (.var 4) .nil)) (.cons (.call 50 (.cons (.var 4) .nil)) (.cons (.call 47 (.cons (.var 4) .nil)) .nil))))) (.lst (.cons (.lit (.bl true)) (.cons (.lit .non) (.cons (.lit .non) (.cons (.lit .non) .nil)))))) (.cons (.ret (.lit (.bl false))) .nil) .nil) (.cons (.ite (.cmp .ne (.lst (.cons (.call 46 (.cons (.var 5) .nil)) (.cons (.call 37 (.cons (.var 5) .nil)) (.cons (.call 50 (.cons (.var 5) .nil)) (.cons (.call 47 (.cons (.var 5) .nil)) .nil))))) (.lst (.cons (.lit (.bl false)) (.cons (.lit (.int 1)) (.cons (.tup (.cons (.tup (.cons (.lit (.int 0)) (.cons (.lit (.int 1)) .nil))) .nil)) (.cons (.tup (.cons (.lit (.int 1)) (.cons (.lit (.int 0)) .nil))) .nil)))))) (.cons (.ret (.lit (.bl false))) .nil) .nil) (.cons (.asg (.call 51 (.cons (.lit (.int 1)) (.cons (.lit (.int 1)) (.cons (.lit (.int 1)) (.cons (.tup (.cons (.tup (.cons (.lit (.int 0)) (.cons (.lit (.int 0)) .nil))) (.cons (.tup (.cons (.lit (.int 1)) (.cons (.lit (.int 0)) .nil))) .nil))) .nil))))) (.name 0)) (.cons (.ite (.cmp .ne (.lst (.cons (.call 37 (.cons (.var 0) .nil)) (.cons (.call 50 (.cons (.var 0) .nil)) (.cons (.call 47 (.cons (.var 0) .nil)) .nil)))) (.lst (.cons (.lit (.int 6)) (.cons (.tup (.cons (.tup (.cons (.lit (.int 0)) (.cons (.lit (.int 1)) .nil))) (.cons (.tup (.cons (.lit (.int 1)) (.cons (.lit (.int 0)) .nil))) .nil))) (.cons (.tup (.cons (.lit (.int 1)) (.cons (.lit (.int 0)) .nil))) .nil))))) (.cons (.ret (.lit (.bl false))) .nil) .nil) (.cons (.asg (.lst (.cons (.tup (.cons (.tup (.cons (.tup (.cons (.lit (.int 1)) (.cons (.lit (.int 1)) .nil))) (.cons (.tup (.cons (.lit (.int 2)) (.cons (.lit (.int 1)) .nil))) (.cons (.tup (.cons (.lit (.int 0)) (.cons (.lit (.int 0)) .nil))) .nil)))) (.cons (.lit (.int 2)) (.cons (.lit (.int 1)) .nil)))) (.cons (.tup (.cons (.tup (.cons (.tup (.cons (.lit (.int 0)) (.cons (.lit (.int 1)) .nil))) (.cons (.tup (.cons (.lit (.int 2)) (.cons (.lit (.int 0)) .nil))) (.cons (.tup (.cons (.lit (.int 1)) (.cons (.lit (.int 0)) .nil))) .nil)))) (.cons (.lit (.int 3)) (.cons (.lit (.int 1)) .nil)))) .nil))) (.name 1)) (.cons (.ret (.and (.cmp .is_in (.call 36 (.cons (.var 0) .nil)) (.var 1)) (.cmp .eq (.call 19 (.cons (.var 0) (.cons (.tup .nil) .nil))) (.tup (.cons (.lit (.int 0)) (.cons (.lit (.int 0)) (.cons (.lit (.int 0)) .nil))))))) .nil)))))))))))⟩
def b53 : Bd := ⟨7, 1, (.cons (.asg (.tup (.cons (.tup (.cons (.lit (.int 5)) .nil)) (.cons (.tup (.cons (.tup (.cons (.tup (.cons (.lit (.int 0)) (.cons (.lit (.int 0)) .nil))) (.cons (.tup (.cons (.tup (.cons (.tup (.cons (.lit (.int 0)) (.cons (.lit (.int 1)) .nil))) (.cons (.lit (.int 0)) .nil))) .nil)) .nil))) .nil)) (.cons (.tup (.cons (.tup (.cons (.lit (.int 0)) (.cons (.lit (.int 1)) .nil))) .nil)) .nil)))) (.name 1)) (.cons (.asg (.lst (.cons (.call 20 (.cons (.var 1) .nil)) (.cons (.call 19 (.cons (.var 1) (.cons (.tup .nil) .nil))) (.cons (.call 37 (.cons (.var 1) .nil)) (.cons (.call 46 (.cons (.var 1) .nil)) (.cons (.call 42 (.cons (.var 1) .nil)) .nil)))))) (.name 2)) (.cons (.ite (.cmp .ne (.var 2) (.lst (.cons (.lit (.bl true)) (.cons (.tup (.cons (.lit (.int 1)) .nil)) (.cons (.lit .non) (.cons (.lit (.bl true)) (.cons (.tup .nil) .nil))))))) (.cons (.ret (.lit (.bl false))) .nil) .nil) (.cons (.asg (.tup (.cons (.tup (.cons (.lit (.int 3)) (.cons (.lit (.int 3)) .nil))) (.cons (.tup (.cons (.tup (.cons (.tup (.cons (.lit (.int 0)) (.cons (.lit (.int 1)) .nil))) (.cons (.tup (.cons (.tup (.cons (.tup (.cons (.lit (.int 1)) (.cons (.lit (.int 0)) .nil))) (.cons (.lit (.int 0)) .nil))) .nil)) .nil))) (.cons (.tup (.cons (.tup (.cons (.lit (.int 1)) (.cons (.lit (.int 1)) .nil))) (.cons (.tup (.cons (.tup (.cons (.tup (.cons (.lit (.int 0)) (.cons (.lit (.int 0)) .nil))) (.cons (.lit (.int 0)) .nil))) .nil)) .nil))) .nil))) (.cons (.tup (.cons (.tup (.cons (.lit (.int 0)) (.cons (.lit (.int 0)) .nil))) (.cons (.tup (.cons (.lit (.int 1)) (.cons (.lit (.int 1)) .nil))) .nil))) .nil)))) (.name 3)) (.cons (.ite (.or (.call 20 (.cons (.var 3) .nil)) (.or (.cmp .ne (.bi .len (.cons (.call 23 (.cons (.var 3) (.cons (.tup .nil) .nil))) .nil)) (.lit (.int 3))) (.cmp .ne (.call 42 (.cons (.var 3) .nil)) (.tup (.cons (.tup (.cons (.lit (.int 0)) (.cons (.lit (.int 0)) .nil))) (.cons (.tup (.cons (.lit (.int 1)) (.cons (.lit (.int 0)) .nil))) .nil)))))) (.cons (.ret (.lit (.bl false))) .nil) .nil) (.cons (.asg (.call 40 (.cons (.var 3) (.cons (.tup (.cons (.tup (.cons (.lit (.int 0)) (.cons (.lit (.int 0)) .nil))) (.cons (.tup (.cons (.lit (.int 1)) (.cons (.lit (.int 0)) .nil))) .nil))) .nil))) (.name 4)) (.cons (.asg (.lst (.cons (.call 37 (.cons (.var 4) .nil)) (.cons (.call 46 (.cons (.var 4) .nil)) (.cons (.call 47 (.cons (.var 4) .nil)) .nil)))) (.name 2)) (.cons (.ite (.or (.cmp .ne (.var 2) (.lst (.cons (.lit (.int 1)) (.cons (.lit (.bl false)) (.cons (.tup (.cons (.lit (.int 0)) (.cons (.lit (.int 0)) .nil))) .nil))))) (.cmp .notIn (.call 50 (.cons (.var 4) .nil)) (.lst (.cons (.tup (.cons (.tup (.cons (.lit (.int 0)) (.cons (.lit (.int 0)) .nil))) .nil)) (.cons (.tup (.cons (.tup (.cons (.lit (.int 1)) (.cons (.lit (.int 0)) .nil))) .nil)) .nil))))) (.cons (.ret (.lit (.bl false))) .nil) .nil) (.cons (.asg (.tup (.cons (.tup (.cons (.tup (.cons (.lit (.int 0)) (.cons (.lit (.int 1)) .nil))) (.cons (.tup (.cons (.tup (.cons (.tup (.cons (.lit (.int 1)) (.cons (.lit (.int 0)) .nil))) (.cons (.lit (.int 1)) .nil))) .nil)) .nil))) (.cons (.tup (.cons (.tup (.cons (.lit (.int 1)) (.cons (.lit (.int 1)) .nil))) (.cons (.tup (.cons (.tup (.cons (.tup (.cons (.lit (.int 2)) (.cons (.lit (.int 0)) .nil))) (.cons (.lit (.int 1)) .nil))) .nil)) .nil))) .nil))) (.name 5)) (.cons (.asg (.tup (.cons (.bin .mul (.tup (.cons (.lit (.int 2)) .nil)) (.lit (.int 6))) (.cons (.bin .add (.var 5) (.tup (.cons (.tup (.cons (.tup (.cons (.lit (.int 3)) (.cons (.lit (.int 1)) .nil))) (.cons (.tup (.cons (.tup (.cons (.tup (.cons (.lit (.int 5)) (.cons (.lit (.int 0)) .nil))) (.cons (.lit (.int 1)) .nil))) (.cons (.tup (.cons (.tup (.cons (.lit (.int 4)) (.cons (.lit (.int 0)) .nil))) (.cons (.lit (.int 1)) .nil))) .nil))) .nil))) .nil))) (.cons (.tup (.cons (.tup (.cons (.lit (.int 0)) (.cons (.lit (.int 0)) .nil))) (.cons (.tup (.cons (.lit (.int 2)) (.cons (.lit (.int 1)) .nil))) (.cons (.tup (.cons (.lit (.int 3)) (.cons (.lit (.int 0)) .nil))) (.cons (.tup (.cons (.lit (.int 4)) (.cons (.lit (.int 1)) .nil))) .nil))))) .nil)))) (.name 6)) (.cons (.ite (.or (.cmp .ne (.call 47 (.cons (.var 6) .nil)) (.tup (.cons (.lit (.int 0)) (.cons (.lit (.int 0)) (.cons (.lit (.int 0)) .nil))))) (.cmp .ne (.call 50 (.cons (.var 6) .nil)) (.tup (.cons (.tup (.cons (.lit (.int 2)) (.cons (.lit (.int 1)) .nil))) .nil)))) (.cons (.ret (.lit (.bl false))) .nil) .nil) (.cons (.ret (.call 52 .nil)) .nil))))))))))))⟩
def bs : List Bd := b0 :: b1 :: b2 :: b3 :: b4 :: b5 :: b6 :: b7 :: b8 :: b9 :: b10 :: b11 :: b12 :: b13 :: b14 :: b15 :: b16 :: b17 :: b18 :: b19 :: b20 :: b21 :: b22 :: b23 :: b24 :: b25 :: b26 :: b27 :: b28 :: b29 :: b30 :: b31 :: b32 :: b33 :: b34 :: b35 :: b36 :: b37 :: b38 :: b39 :: b40 :: b41 :: b42 :: b43 :: b44 :: b45 :: b46 :: b47 :: b48 :: b49 :: b50 :: b51 :: b52 :: b53 :: []
/-! each def -/
section
variable {K : Frg} {mg : Str → Option Value}
theorem o0 (h : ∃ f fd, FunD K "is_integer" "is_integer" (defArgs (top 13)) (defBody (top 13)) (defScope (top 13)) [] [] f fd ∧ mg "is_integer" = some (.ref f)) : DfOk K mg fs cs 60 d0 b0 where
  fn := h
  sc := ⟨rfl, rfl, rfl, by decide +kernel, rfl, by decide +kernel, by decide +kernel⟩
  bd := fun _ _ _ _ _ _ us hl => match us, hl with | [_, _, _], _ => rfl
  tx := by kernel_rfl
  n := rfl
  ar := rfl
theorem o1 (h : ∃ f fd, FunD K "are_lengths" "are_lengths" (defArgs (top 14)) (defBody (top 14)) (defScope (top 14)) [] [] f fd ∧ mg "are_lengths" = some (.ref f)) : DfOk K mg fs cs 60 d1 b1 where
  fn := h
  sc := ⟨rfl, rfl, rfl, by decide +kernel, rfl, by decide +kernel, by decide +kernel⟩
  bd := fun _ _ _ _ _ _ us hl => match us, hl with | [_], _ => rfl
  tx := by kernel_rfl
  n := rfl
  ar := rfl
theorem o2 (h : ∃ f fd, FunD K "is_pair_to" "is_pair_to" (defArgs (top 15)) (defBody (top 15)) (defScope (top 15)) [] [] f fd ∧ mg "is_pair_to" = some (.ref f)) : DfOk K mg fs cs 60 d2 b2 where
  fn := h
  sc := ⟨rfl, rfl, rfl, by decide +kernel, rfl, by decide +kernel, by decide +kernel⟩
  bd := fun _ _ _ _ _ _ us hl => match us, hl with | [_, _], _ => rfl
  tx := by kernel_rfl
  n := rfl
  ar := rfl
theorem o3 (h : ∃ f fd, FunD K "is_branch" "is_branch" (defArgs (top 16)) (defBody (top 16)) (defScope (top 16)) [] [] f fd ∧ mg "is_branch" = some (.ref f)) : DfOk K mg fs cs 60 d3 b3 where
  fn := h
  sc := ⟨rfl, rfl, rfl, by decide +kernel, rfl, by decide +kernel, by decide +kernel⟩
  bd := fun _ _ _ _ _ _ us hl => match us, hl with | [_, _], _ => rfl
  tx := by kernel_rfl
  n := rfl
  ar := rfl
theorem o4 (h : ∃ f fd, FunD K "is_joint" "is_joint" (defArgs (top 17)) (defBody (top 17)) (defScope (top 17)) [] [] f fd ∧ mg "is_joint" = some (.ref f)) : DfOk K mg fs cs 60 d4 b4 where
  fn := h
  sc := ⟨rfl, rfl, rfl, by decide +kernel, rfl, by decide +kernel, by decide +kernel⟩
  bd := fun _ _ _ _ _ _ us hl => match us, hl with | [_, _], _ => rfl
  tx := by kernel_rfl
  n := rfl
  ar := rfl
theorem o5 (h : ∃ f fd, FunD K "all_ends" "all_ends" (defArgs (top 18)) (defBody (top 18)) (defScope (top 18)) [] [] f fd ∧ mg "all_ends" = some (.ref f)) : DfOk K mg fs cs 60 d5 b5 where
  fn := h
  sc := ⟨rfl, rfl, rfl, by decide +kernel, rfl, by decide +kernel, by decide +kernel⟩
  bd := fun _ _ _ _ _ _ us hl => match us, hl with | [_], _ => rfl
  tx := by kernel_rfl
  n := rfl
  ar := rfl
theorem o6 (h : ∃ f fd, FunD K "are_feeds" "are_feeds" (defArgs (top 19)) (defBody (top 19)) (defScope (top 19)) [] [] f fd ∧ mg "are_feeds" = some (.ref f)) : DfOk K mg fs cs 60 d6 b6 where
  fn := h
  sc := ⟨rfl, rfl, rfl, by decide +kernel, rfl, by decide +kernel, by decide +kernel⟩
  bd := fun _ _ _ _ _ _ us hl => match us, hl with | [_, _], _ => rfl
  tx := by kernel_rfl
  n := rfl
  ar := rfl
theorem o7 (h : ∃ f fd, FunD K "wrong_joint" "wrong_joint" (defArgs (top 20)) (defBody (top 20)) (defScope (top 20)) [] [] f fd ∧ mg "wrong_joint" = some (.ref f)) : DfOk K mg fs cs 60 d7 b7 where
  fn := h
  sc := ⟨rfl, rfl, rfl, by decide +kernel, rfl, by decide +kernel, by decide +kernel⟩
  bd := fun _ _ _ _ _ _ us hl => match us, hl with | [_, _], _ => rfl
  tx := by kernel_rfl
  n := rfl
  ar := rfl
theorem o8 (h : ∃ f fd, FunD K "need_layout" "need_layout" (defArgs (top 21)) (defBody (top 21)) (defScope (top 21)) [] [] f fd ∧ mg "need_layout" = some (.ref f)) : DfOk K mg fs cs 60 d8 b8 where
  fn := h
  sc := ⟨rfl, rfl, rfl, by decide +kernel, rfl, by decide +kernel, by decide +kernel⟩
  bd := fun _ _ _ _ _ _ us hl => match us, hl with | [_], _ => rfl
  tx := by kernel_rfl
  n := rfl
  ar := rfl
theorem o9 (h : ∃ f fd, FunD K "links_of" "links_of" (defArgs (top 22)) (defBody (top 22)) (defScope (top 22)) [] [] f fd ∧ mg "links_of" = some (.ref f)) : DfOk K mg fs cs 60 d9 b9 where
  fn := h
  sc := ⟨rfl, rfl, rfl, by decide +kernel, rfl, by decide +kernel, by decide +kernel⟩
  bd := fun _ _ _ _ _ _ us hl => match us, hl with | [_], _ => rfl
  tx := by kernel_rfl
  n := rfl
  ar := rfl
theorem o10 (h : ∃ f fd, FunD K "is_link" "is_link" (defArgs (top 23)) (defBody (top 23)) (defScope (top 23)) [] [] f fd ∧ mg "is_link" = some (.ref f)) : DfOk K mg fs cs 60 d10 b10 where
  fn := h
  sc := ⟨rfl, rfl, rfl, by decide +kernel, rfl, by decide +kernel, by decide +kernel⟩
  bd := fun _ _ _ _ _ _ us hl => match us, hl with | [_, _], _ => rfl
  tx := by kernel_rfl
  n := rfl
  ar := rfl
theorem o11 (h : ∃ f fd, FunD K "ends_in" "ends_in" (defArgs (top 24)) (defBody (top 24)) (defScope (top 24)) [] [] f fd ∧ mg "ends_in" = some (.ref f)) : DfOk K mg fs cs 60 d11 b11 where
  fn := h
  sc := ⟨rfl, rfl, rfl, by decide +kernel, rfl, by decide +kernel, by decide +kernel⟩
  bd := fun _ _ _ _ _ _ us hl => match us, hl with | [_, _], _ => rfl
  tx := by kernel_rfl
  n := rfl
  ar := rfl
theorem o12 (h : ∃ f fd, FunD K "is_cut_in" "is_cut_in" (defArgs (top 25)) (defBody (top 25)) (defScope (top 25)) [] [] f fd ∧ mg "is_cut_in" = some (.ref f)) : DfOk K mg fs cs 60 d12 b12 where
  fn := h
  sc := ⟨rfl, rfl, rfl, by decide +kernel, rfl, by decide +kernel, by decide +kernel⟩
  bd := fun _ _ _ _ _ _ us hl => match us, hl with | [_, _], _ => rfl
  tx := by kernel_rfl
  n := rfl
  ar := rfl
theorem o13 (h : ∃ f fd, FunD K "crossing" "crossing" (defArgs (top 26)) (defBody (top 26)) (defScope (top 26)) [] [] f fd ∧ mg "crossing" = some (.ref f)) : DfOk K mg fs cs 60 d13 b13 where
  fn := h
  sc := ⟨rfl, rfl, rfl, by decide +kernel, rfl, by decide +kernel, by decide +kernel⟩
  bd := fun _ _ _ _ _ _ us hl => match us, hl with | [_, _], _ => rfl
  tx := by kernel_rfl
  n := rfl
  ar := rfl
theorem o14 (h : ∃ f fd, FunD K "link_between" "link_between" (defArgs (top 27)) (defBody (top 27)) (defScope (top 27)) [] [] f fd ∧ mg "link_between" = some (.ref f)) : DfOk K mg fs cs 60 d14 b14 where
  fn := h
  sc := ⟨rfl, rfl, rfl, by decide +kernel, rfl, by decide +kernel, by decide +kernel⟩
  bd := fun _ _ _ _ _ _ us hl => match us, hl with | [_, _, _], _ => rfl
  tx := by kernel_rfl
  n := rfl
  ar := rfl
theorem o15 (h : ∃ f fd, FunD K "need_span" "need_span" (defArgs (top 32)) (defBody (top 32)) (defScope (top 32)) [] [] f fd ∧ mg "need_span" = some (.ref f)) : DfOk K mg fs cs 60 d15 b15 where
  fn := h
  sc := ⟨rfl, rfl, rfl, by decide +kernel, rfl, by decide +kernel, by decide +kernel⟩
  bd := fun _ _ _ _ _ _ us hl => match us, hl with | [_, _], _ => rfl
  tx := by kernel_rfl
  n := rfl
  ar := rfl
theorem o16 (h : ∃ f fd, FunD K "ties_in" "ties_in" (defArgs (top 33)) (defBody (top 33)) (defScope (top 33)) [] [] f fd ∧ mg "ties_in" = some (.ref f)) : DfOk K mg fs cs 60 d16 b16 where
  fn := h
  sc := ⟨rfl, rfl, rfl, by decide +kernel, rfl, by decide +kernel, by decide +kernel⟩
  bd := fun _ _ _ _ _ _ us hl => match us, hl with | [_, _], _ => rfl
  tx := by kernel_rfl
  n := rfl
  ar := rfl
theorem o17 (h : ∃ f fd, FunD K "spread" "spread" (defArgs (top 34)) (defBody (top 34)) (defScope (top 34)) [] [] f fd ∧ mg "spread" = some (.ref f)) : DfOk K mg fs cs 60 d17 b17 where
  fn := h
  sc := ⟨rfl, rfl, rfl, by decide +kernel, rfl, by decide +kernel, by decide +kernel⟩
  bd := fun _ _ _ _ _ _ us hl => match us, hl with | [_, _, _, _], _ => rfl
  tx := by kernel_rfl
  n := rfl
  ar := rfl
theorem o18 (h : ∃ f fd, FunD K "signs_in" "signs_in" (defArgs (top 35)) (defBody (top 35)) (defScope (top 35)) [] [] f fd ∧ mg "signs_in" = some (.ref f)) : DfOk K mg fs cs 60 d18 b18 where
  fn := h
  sc := ⟨rfl, rfl, rfl, by decide +kernel, rfl, by decide +kernel, by decide +kernel⟩
  bd := fun _ _ _ _ _ _ us hl => match us, hl with | [_, _], _ => rfl
  tx := by kernel_rfl
  n := rfl
  ar := rfl
theorem o19 (h : ∃ f fd, FunD K "signs" "signs" (defArgs (top 36)) (defBody (top 36)) (defScope (top 36)) [] [] f fd ∧ mg "signs" = some (.ref f)) : DfOk K mg fs cs 60 d19 b19 where
  fn := h
  sc := ⟨rfl, rfl, rfl, by decide +kernel, rfl, by decide +kernel, by decide +kernel⟩
  bd := fun _ _ _ _ _ _ us hl => match us, hl with | [_, _], _ => rfl
  tx := by kernel_rfl
  n := rfl
  ar := rfl
theorem o20 (h : ∃ f fd, FunD K "is_sound" "is_sound" (defArgs (top 37)) (defBody (top 37)) (defScope (top 37)) [] [] f fd ∧ mg "is_sound" = some (.ref f)) : DfOk K mg fs cs 60 d20 b20 where
  fn := h
  sc := ⟨rfl, rfl, rfl, by decide +kernel, rfl, by decide +kernel, by decide +kernel⟩
  bd := fun _ _ _ _ _ _ us hl => match us, hl with | [_], _ => rfl
  tx := by kernel_rfl
  n := rfl
  ar := rfl
theorem o21 (h : ∃ f fd, FunD K "walk_from" "walk_from" (defArgs (top 38)) (defBody (top 38)) (defScope (top 38)) [] [] f fd ∧ mg "walk_from" = some (.ref f)) : DfOk K mg fs cs 60 d21 b21 where
  fn := h
  sc := ⟨rfl, rfl, rfl, by decide +kernel, rfl, by decide +kernel, by decide +kernel⟩
  bd := fun _ _ _ _ _ _ us hl => match us, hl with | [_, _], _ => rfl
  tx := by kernel_rfl
  n := rfl
  ar := rfl
theorem o22 (h : ∃ f fd, FunD K "walk_in" "walk_in" (defArgs (top 39)) (defBody (top 39)) (defScope (top 39)) [] [] f fd ∧ mg "walk_in" = some (.ref f)) : DfOk K mg fs cs 60 d22 b22 where
  fn := h
  sc := ⟨rfl, rfl, rfl, by decide +kernel, rfl, by decide +kernel, by decide +kernel⟩
  bd := fun _ _ _ _ _ _ us hl => match us, hl with | [_, _], _ => rfl
  tx := by kernel_rfl
  n := rfl
  ar := rfl
theorem o23 (h : ∃ f fd, FunD K "odd_walk" "odd_walk" (defArgs (top 40)) (defBody (top 40)) (defScope (top 40)) [] [] f fd ∧ mg "odd_walk" = some (.ref f)) : DfOk K mg fs cs 60 d23 b23 where
  fn := h
  sc := ⟨rfl, rfl, rfl, by decide +kernel, rfl, by decide +kernel, by decide +kernel⟩
  bd := fun _ _ _ _ _ _ us hl => match us, hl with | [_, _], _ => rfl
  tx := by kernel_rfl
  n := rfl
  ar := rfl
theorem o24 (h : ∃ f fd, FunD K "links_along" "links_along" (defArgs (top 42)) (defBody (top 42)) (defScope (top 42)) [] [] f fd ∧ mg "links_along" = some (.ref f)) : DfOk K mg fs cs 60 d24 b24 where
  fn := h
  sc := ⟨rfl, rfl, rfl, by decide +kernel, rfl, by decide +kernel, by decide +kernel⟩
  bd := fun _ _ _ _ _ _ us hl => match us, hl with | [_, _], _ => rfl
  tx := by kernel_rfl
  n := rfl
  ar := rfl
theorem o25 (h : ∃ f fd, FunD K "is_route" "is_route" (defArgs (top 43)) (defBody (top 43)) (defScope (top 43)) [] [] f fd ∧ mg "is_route" = some (.ref f)) : DfOk K mg fs cs 60 d25 b25 where
  fn := h
  sc := ⟨rfl, rfl, rfl, by decide +kernel, rfl, by decide +kernel, by decide +kernel⟩
  bd := fun _ _ _ _ _ _ us hl => match us, hl with | [_, _], _ => rfl
  tx := by kernel_rfl
  n := rfl
  ar := rfl
theorem o26 (h : ∃ f fd, FunD K "is_stand_in" "is_stand_in" (defArgs (top 44)) (defBody (top 44)) (defScope (top 44)) [] [] f fd ∧ mg "is_stand_in" = some (.ref f)) : DfOk K mg fs cs 60 d26 b26 where
  fn := h
  sc := ⟨rfl, rfl, rfl, by decide +kernel, rfl, by decide +kernel, by decide +kernel⟩
  bd := fun _ _ _ _ _ _ us hl => match us, hl with | [_, _], _ => rfl
  tx := by kernel_rfl
  n := rfl
  ar := rfl
theorem o27 (h : ∃ f fd, FunD K "is_stand" "is_stand" (defArgs (top 45)) (defBody (top 45)) (defScope (top 45)) [] [] f fd ∧ mg "is_stand" = some (.ref f)) : DfOk K mg fs cs 60 d27 b27 where
  fn := h
  sc := ⟨rfl, rfl, rfl, by decide +kernel, rfl, by decide +kernel, by decide +kernel⟩
  bd := fun _ _ _ _ _ _ us hl => match us, hl with | [_, _], _ => rfl
  tx := by kernel_rfl
  n := rfl
  ar := rfl
theorem o28 (h : ∃ f fd, FunD K "need_stand" "need_stand" (defArgs (top 46)) (defBody (top 46)) (defScope (top 46)) [] [] f fd ∧ mg "need_stand" = some (.ref f)) : DfOk K mg fs cs 60 d28 b28 where
  fn := h
  sc := ⟨rfl, rfl, rfl, by decide +kernel, rfl, by decide +kernel, by decide +kernel⟩
  bd := fun _ _ _ _ _ _ us hl => match us, hl with | [_, _], _ => rfl
  tx := by kernel_rfl
  n := rfl
  ar := rfl
theorem o29 (h : ∃ f fd, FunD K "cells_in" "cells_in" (defArgs (top 47)) (defBody (top 47)) (defScope (top 47)) [] [] f fd ∧ mg "cells_in" = some (.ref f)) : DfOk K mg fs cs 60 d29 b29 where
  fn := h
  sc := ⟨rfl, rfl, rfl, by decide +kernel, rfl, by decide +kernel, by decide +kernel⟩
  bd := fun _ _ _ _ _ _ us hl => match us, hl with | [_, _], _ => rfl
  tx := by kernel_rfl
  n := rfl
  ar := rfl
theorem o30 (h : ∃ f fd, FunD K "length_of" "length_of" (defArgs (top 48)) (defBody (top 48)) (defScope (top 48)) [] [] f fd ∧ mg "length_of" = some (.ref f)) : DfOk K mg fs cs 60 d30 b30 where
  fn := h
  sc := ⟨rfl, rfl, rfl, by decide +kernel, rfl, by decide +kernel, by decide +kernel⟩
  bd := fun _ _ _ _ _ _ us hl => match us, hl with | [_, _], _ => rfl
  tx := by kernel_rfl
  n := rfl
  ar := rfl
theorem o31 (h : ∃ f fd, FunD K "need_sound" "need_sound" (defArgs (top 50)) (defBody (top 50)) (defScope (top 50)) [] [] f fd ∧ mg "need_sound" = some (.ref f)) : DfOk K mg fs cs 60 d31 b31 where
  fn := h
  sc := ⟨rfl, rfl, rfl, by decide +kernel, rfl, by decide +kernel, by decide +kernel⟩
  bd := fun _ _ _ _ _ _ us hl => match us, hl with | [_], _ => rfl
  tx := by kernel_rfl
  n := rfl
  ar := rfl
theorem o32 (h : ∃ f fd, FunD K "next_pairs" "next_pairs" (defArgs (top 51)) (defBody (top 51)) (defScope (top 51)) [] [] f fd ∧ mg "next_pairs" = some (.ref f)) : DfOk K mg fs cs 60 d32 b32 where
  fn := h
  sc := ⟨rfl, rfl, rfl, by decide +kernel, rfl, by decide +kernel, by decide +kernel⟩
  bd := fun _ _ _ _ _ _ us hl => match us, hl with | [_, _], _ => rfl
  tx := by kernel_rfl
  n := rfl
  ar := rfl
theorem o33 (h : ∃ f fd, FunD K "cost_of" "cost_of" (defArgs (top 52)) (defBody (top 52)) (defScope (top 52)) [] [] f fd ∧ mg "cost_of" = some (.ref f)) : DfOk K mg fs cs 60 d33 b33 where
  fn := h
  sc := ⟨rfl, rfl, rfl, by decide +kernel, rfl, by decide +kernel, by decide +kernel⟩
  bd := fun _ _ _ _ _ _ us hl => match us, hl with | [_, _], _ => rfl
  tx := by kernel_rfl
  n := rfl
  ar := rfl
theorem o34 (h : ∃ f fd, FunD K "routes_from" "routes_from" (defArgs (top 53)) (defBody (top 53)) (defScope (top 53)) [] [] f fd ∧ mg "routes_from" = some (.ref f)) : DfOk K mg fs cs 60 d34 b34 where
  fn := h
  sc := ⟨rfl, rfl, rfl, by decide +kernel, rfl, by decide +kernel, by decide +kernel⟩
  bd := fun _ _ _ _ _ _ us hl => match us, hl with | [_, _, _], _ => rfl
  tx := by kernel_rfl
  n := rfl
  ar := rfl
theorem o35 (h : ∃ f fd, FunD K "least_bad_in" "least_bad_in" (defArgs (top 54)) (defBody (top 54)) (defScope (top 54)) [] [] f fd ∧ mg "least_bad_in" = some (.ref f)) : DfOk K mg fs cs 60 d35 b35 where
  fn := h
  sc := ⟨rfl, rfl, rfl, by decide +kernel, rfl, by decide +kernel, by decide +kernel⟩
  bd := fun _ _ _ _ _ _ us hl => match us, hl with | [_], _ => rfl
  tx := by kernel_rfl
  n := rfl
  ar := rfl
theorem o36 (h : ∃ f fd, FunD K "least_bad" "least_bad" (defArgs (top 55)) (defBody (top 55)) (defScope (top 55)) [] [] f fd ∧ mg "least_bad" = some (.ref f)) : DfOk K mg fs cs 60 d36 b36 where
  fn := h
  sc := ⟨rfl, rfl, rfl, by decide +kernel, rfl, by decide +kernel, by decide +kernel⟩
  bd := fun _ _ _ _ _ _ us hl => match us, hl with | [_], _ => rfl
  tx := by kernel_rfl
  n := rfl
  ar := rfl
theorem o37 (h : ∃ f fd, FunD K "limit" "limit" (defArgs (top 56)) (defBody (top 56)) (defScope (top 56)) [] [] f fd ∧ mg "limit" = some (.ref f)) : DfOk K mg fs cs 60 d37 b37 where
  fn := h
  sc := ⟨rfl, rfl, rfl, by decide +kernel, rfl, by decide +kernel, by decide +kernel⟩
  bd := fun _ _ _ _ _ _ us hl => match us, hl with | [_], _ => rfl
  tx := by kernel_rfl
  n := rfl
  ar := rfl
theorem o38 (h : ∃ f fd, FunD K "are_cuts" "are_cuts" (defArgs (top 58)) (defBody (top 58)) (defScope (top 58)) [] [] f fd ∧ mg "are_cuts" = some (.ref f)) : DfOk K mg fs cs 60 d38 b38 where
  fn := h
  sc := ⟨rfl, rfl, rfl, by decide +kernel, rfl, by decide +kernel, by decide +kernel⟩
  bd := fun _ _ _ _ _ _ us hl => match us, hl with | [_, _], _ => rfl
  tx := by kernel_rfl
  n := rfl
  ar := rfl
theorem o39 (h : ∃ f fd, FunD K "cut_by" "cut_by" (defArgs (top 59)) (defBody (top 59)) (defScope (top 59)) [] [] f fd ∧ mg "cut_by" = some (.ref f)) : DfOk K mg fs cs 60 d39 b39 where
  fn := h
  sc := ⟨rfl, rfl, rfl, by decide +kernel, rfl, by decide +kernel, by decide +kernel⟩
  bd := fun _ _ _ _ _ _ us hl => match us, hl with | [_, _], _ => rfl
  tx := by kernel_rfl
  n := rfl
  ar := rfl
theorem o40 (h : ∃ f fd, FunD K "with_cuts" "with_cuts" (defArgs (top 60)) (defBody (top 60)) (defScope (top 60)) [] [] f fd ∧ mg "with_cuts" = some (.ref f)) : DfOk K mg fs cs 60 d40 b40 where
  fn := h
  sc := ⟨rfl, rfl, rfl, by decide +kernel, rfl, by decide +kernel, by decide +kernel⟩
  bd := fun _ _ _ _ _ _ us hl => match us, hl with | [_, _], _ => rfl
  tx := by kernel_rfl
  n := rfl
  ar := rfl
theorem o41 (h : ∃ f fd, FunD K "one_longer" "one_longer" (defArgs (top 61)) (defBody (top 61)) (defScope (top 61)) [] [] f fd ∧ mg "one_longer" = some (.ref f)) : DfOk K mg fs cs 60 d41 b41 where
  fn := h
  sc := ⟨rfl, rfl, rfl, by decide +kernel, rfl, by decide +kernel, by decide +kernel⟩
  bd := fun _ _ _ _ _ _ us hl => match us, hl with | [_, _], _ => rfl
  tx := by kernel_rfl
  n := rfl
  ar := rfl
theorem o42 (h : ∃ f fd, FunD K "least_cuts" "least_cuts" (defArgs (top 62)) (defBody (top 62)) (defScope (top 62)) [] [] f fd ∧ mg "least_cuts" = some (.ref f)) : DfOk K mg fs cs 60 d42 b42 where
  fn := h
  sc := ⟨rfl, rfl, rfl, by decide +kernel, rfl, by decide +kernel, by decide +kernel⟩
  bd := fun _ _ _ _ _ _ us hl => match us, hl with | [_], _ => rfl
  tx := by kernel_rfl
  n := rfl
  ar := rfl
theorem o43 (h : ∃ f fd, FunD K "settings_in" "settings_in" (defArgs (top 64)) (defBody (top 64)) (defScope (top 64)) [] [] f fd ∧ mg "settings_in" = some (.ref f)) : DfOk K mg fs cs 60 d43 b43 where
  fn := h
  sc := ⟨rfl, rfl, rfl, by decide +kernel, rfl, by decide +kernel, by decide +kernel⟩
  bd := fun _ _ _ _ _ _ us hl => match us, hl with | [_], _ => rfl
  tx := by kernel_rfl
  n := rfl
  ar := rfl
theorem o44 (h : ∃ f fd, FunD K "chosen_in" "chosen_in" (defArgs (top 65)) (defBody (top 65)) (defScope (top 65)) [] [] f fd ∧ mg "chosen_in" = some (.ref f)) : DfOk K mg fs cs 60 d44 b44 where
  fn := h
  sc := ⟨rfl, rfl, rfl, by decide +kernel, rfl, by decide +kernel, by decide +kernel⟩
  bd := fun _ _ _ _ _ _ us hl => match us, hl with | [_], _ => rfl
  tx := by kernel_rfl
  n := rfl
  ar := rfl
theorem o45 (h : ∃ f fd, FunD K "bad_setting_in" "bad_setting_in" (defArgs (top 66)) (defBody (top 66)) (defScope (top 66)) [] [] f fd ∧ mg "bad_setting_in" = some (.ref f)) : DfOk K mg fs cs 60 d45 b45 where
  fn := h
  sc := ⟨rfl, rfl, rfl, by decide +kernel, rfl, by decide +kernel, by decide +kernel⟩
  bd := fun _ _ _ _ _ _ us hl => match us, hl with | [_], _ => rfl
  tx := by kernel_rfl
  n := rfl
  ar := rfl
theorem o46 (h : ∃ f fd, FunD K "is_free" "is_free" (defArgs (top 67)) (defBody (top 67)) (defScope (top 67)) [] [] f fd ∧ mg "is_free" = some (.ref f)) : DfOk K mg fs cs 60 d46 b46 where
  fn := h
  sc := ⟨rfl, rfl, rfl, by decide +kernel, rfl, by decide +kernel, by decide +kernel⟩
  bd := fun _ _ _ _ _ _ us hl => match us, hl with | [_], _ => rfl
  tx := by kernel_rfl
  n := rfl
  ar := rfl
theorem o47 (h : ∃ f fd, FunD K "bad_setting" "bad_setting" (defArgs (top 68)) (defBody (top 68)) (defScope (top 68)) [] [] f fd ∧ mg "bad_setting" = some (.ref f)) : DfOk K mg fs cs 60 d47 b47 where
  fn := h
  sc := ⟨rfl, rfl, rfl, by decide +kernel, rfl, by decide +kernel, by decide +kernel⟩
  bd := fun _ _ _ _ _ _ us hl => match us, hl with | [_], _ => rfl
  tx := by kernel_rfl
  n := rfl
  ar := rfl
theorem o48 (h : ∃ f fd, FunD K "crowds_in" "crowds_in" (defArgs (top 69)) (defBody (top 69)) (defScope (top 69)) [] [] f fd ∧ mg "crowds_in" = some (.ref f)) : DfOk K mg fs cs 60 d48 b48 where
  fn := h
  sc := ⟨rfl, rfl, rfl, by decide +kernel, rfl, by decide +kernel, by decide +kernel⟩
  bd := fun _ _ _ _ _ _ us hl => match us, hl with | [_], _ => rfl
  tx := by kernel_rfl
  n := rfl
  ar := rfl
theorem o49 (h : ∃ f fd, FunD K "crowd_in" "crowd_in" (defArgs (top 70)) (defBody (top 70)) (defScope (top 70)) [] [] f fd ∧ mg "crowd_in" = some (.ref f)) : DfOk K mg fs cs 60 d49 b49 where
  fn := h
  sc := ⟨rfl, rfl, rfl, by decide +kernel, rfl, by decide +kernel, by decide +kernel⟩
  bd := fun _ _ _ _ _ _ us hl => match us, hl with | [_], _ => rfl
  tx := by kernel_rfl
  n := rfl
  ar := rfl
theorem o50 (h : ∃ f fd, FunD K "crowd" "crowd" (defArgs (top 71)) (defBody (top 71)) (defScope (top 71)) [] [] f fd ∧ mg "crowd" = some (.ref f)) : DfOk K mg fs cs 60 d50 b50 where
  fn := h
  sc := ⟨rfl, rfl, rfl, by decide +kernel, rfl, by decide +kernel, by decide +kernel⟩
  bd := fun _ _ _ _ _ _ us hl => match us, hl with | [_], _ => rfl
  tx := by kernel_rfl
  n := rfl
  ar := rfl
theorem o51 (h : ∃ f fd, FunD K "_law_balloon" "_law_balloon" (defArgs (top 73)) (defBody (top 73)) (defScope (top 73)) [] [] f fd ∧ mg "_law_balloon" = some (.ref f)) : DfOk K mg fs cs 60 d51 b51 where
  fn := h
  sc := ⟨rfl, rfl, rfl, by decide +kernel, rfl, by decide +kernel, by decide +kernel⟩
  bd := fun _ _ _ _ _ _ us hl => match us, hl with | [_, _, _, _], _ => rfl
  tx := by kernel_rfl
  n := rfl
  ar := rfl
theorem o52 (h : ∃ f fd, FunD K "_law_loops_right" "_law_loops_right" (defArgs (top 74)) (defBody (top 74)) (defScope (top 74)) [] [] f fd ∧ mg "_law_loops_right" = some (.ref f)) : DfOk K mg fs cs 60 d52 b52 where
  fn := h
  sc := ⟨rfl, rfl, rfl, by decide +kernel, rfl, by decide +kernel, by decide +kernel⟩
  bd := fun _ _ _ _ _ _ us hl => match us, hl with | [], _ => rfl
  tx := by kernel_rfl
  n := rfl
  ar := rfl
theorem o53 (h : ∃ f fd, FunD K "law" "law" (defArgs (top 75)) (defBody (top 75)) (defScope (top 75)) [] [] f fd ∧ mg "law" = some (.ref f)) : DfOk K mg fs cs 60 d53 b53 where
  fn := h
  sc := ⟨rfl, rfl, rfl, by decide +kernel, rfl, by decide +kernel, by decide +kernel⟩
  bd := fun _ _ _ _ _ _ us hl => match us, hl with | [_], _ => rfl
  tx := by kernel_rfl
  n := rfl
  ar := rfl
end
end K22


namespace K22
open PySem Sw
def m0 : Mo := ⟨20, [.tup [.tup [.int 5], .tup [.tup [.tup [.int 0, .int 0], .tup [.tup [.tup [.int 0, .int 1], .int 0]]]], .tup [.tup [.int 0, .int 1]]]], ⟨[], [], false⟩, .bl true, ⟨[], [], false⟩⟩
theorem v0 : m0.Ok (tabF bs 20) := by
  unfold Mo.Ok
  kernel_rfl
def m1 : Mo := ⟨19, [.tup [.tup [.int 5], .tup [.tup [.tup [.int 0, .int 0], .tup [.tup [.tup [.int 0, .int 1], .int 0]]]], .tup [.tup [.int 0, .int 1]]], .tup []], ⟨[], [], false⟩, .tup [.int 1], ⟨[], [], false⟩⟩
theorem v1 : m1.Ok (tabF bs 20) := by
  unfold Mo.Ok
  kernel_rfl
def m2 : Mo := ⟨37, [.tup [.tup [.int 5], .tup [.tup [.tup [.int 0, .int 0], .tup [.tup [.tup [.int 0, .int 1], .int 0]]]], .tup [.tup [.int 0, .int 1]]]], ⟨[], [], false⟩, .non, ⟨[], [], false⟩⟩
theorem v2 : m2.Ok (tabF bs 20) := by
  unfold Mo.Ok
  kernel_rfl
def m3 : Mo := ⟨46, [.tup [.tup [.int 5], .tup [.tup [.tup [.int 0, .int 0], .tup [.tup [.tup [.int 0, .int 1], .int 0]]]], .tup [.tup [.int 0, .int 1]]]], ⟨[], [], false⟩, .bl true, ⟨[], [], false⟩⟩
theorem v3 : m3.Ok (tabF bs 20) := by
  unfold Mo.Ok
  kernel_rfl
def m4 : Mo := ⟨42, [.tup [.tup [.int 5], .tup [.tup [.tup [.int 0, .int 0], .tup [.tup [.tup [.int 0, .int 1], .int 0]]]], .tup [.tup [.int 0, .int 1]]]], ⟨[], [], false⟩, .tup [], ⟨[], [], false⟩⟩
theorem v4 : m4.Ok (tabF bs 20) := by
  unfold Mo.Ok
  kernel_rfl
def m5 : Mo := ⟨20, [.tup [.tup [.int 3, .int 3], .tup [.tup [.tup [.int 0, .int 1], .tup [.tup [.tup [.int 1, .int 0], .int 0]]], .tup [.tup [.int 1, .int 1], .tup [.tup [.tup [.int 0, .int 0], .int 0]]]], .tup [.tup [.int 0, .int 0], .tup [.int 1, .int 1]]]], ⟨[.lst [.bl true, .tup [.int 1], .non, .bl true, .tup []], .lst [.bl true, .tup [.int 1], .non, .bl true, .tup []]], [], false⟩, .bl false, ⟨[.lst [.bl true, .tup [.int 1], .non, .bl true, .tup []], .lst [.bl true, .tup [.int 1], .non, .bl true, .tup []]], [], false⟩⟩
theorem v5 : m5.Ok (tabF bs 20) := by
  unfold Mo.Ok
  kernel_rfl
def m6 : Mo := ⟨23, [.tup [.tup [.int 3, .int 3], .tup [.tup [.tup [.int 0, .int 1], .tup [.tup [.tup [.int 1, .int 0], .int 0]]], .tup [.tup [.int 1, .int 1], .tup [.tup [.tup [.int 0, .int 0], .int 0]]]], .tup [.tup [.int 0, .int 0], .tup [.int 1, .int 1]]], .tup []], ⟨[.lst [.bl true, .tup [.int 1], .non, .bl true, .tup []], .lst [.bl true, .tup [.int 1], .non, .bl true, .tup []]], [], false⟩, .tup [.tup [.str "feed", .int 0], .tup [.str "link", .int 0, .int 0], .tup [.str "feed", .int 1]], ⟨[.lst [.bl true, .tup [.int 1], .non, .bl true, .tup []], .lst [.bl true, .tup [.int 1], .non, .bl true, .tup []]], [], false⟩⟩
theorem v6 : m6.Ok (tabF bs 20) := by
  unfold Mo.Ok
  kernel_rfl
def m7 : Mo := ⟨42, [.tup [.tup [.int 3, .int 3], .tup [.tup [.tup [.int 0, .int 1], .tup [.tup [.tup [.int 1, .int 0], .int 0]]], .tup [.tup [.int 1, .int 1], .tup [.tup [.tup [.int 0, .int 0], .int 0]]]], .tup [.tup [.int 0, .int 0], .tup [.int 1, .int 1]]]], ⟨[.lst [.bl true, .tup [.int 1], .non, .bl true, .tup []], .lst [.bl true, .tup [.int 1], .non, .bl true, .tup []]], [], false⟩, .tup [.tup [.int 0, .int 0], .tup [.int 1, .int 0]], ⟨[.lst [.bl true, .tup [.int 1], .non, .bl true, .tup []], .lst [.bl true, .tup [.int 1], .non, .bl true, .tup []]], [], false⟩⟩
theorem v7 : m7.Ok (tabF bs 20) := by
  unfold Mo.Ok
  kernel_rfl
def m8 : Mo := ⟨40, [.tup [.tup [.int 3, .int 3], .tup [.tup [.tup [.int 0, .int 1], .tup [.tup [.tup [.int 1, .int 0], .int 0]]], .tup [.tup [.int 1, .int 1], .tup [.tup [.tup [.int 0, .int 0], .int 0]]]], .tup [.tup [.int 0, .int 0], .tup [.int 1, .int 1]]], .tup [.tup [.int 0, .int 0], .tup [.int 1, .int 0]]], ⟨[.lst [.bl true, .tup [.int 1], .non, .bl true, .tup []], .lst [.bl true, .tup [.int 1], .non, .bl true, .tup []]], [], false⟩, .tup [.tup [.int 3, .int 3], .tup [.tup [.tup [.int 0, .int 1], .tup [.tup [.tup [.int 1, .int 0], .int 1]]], .tup [.tup [.int 1, .int 1], .tup [.tup [.tup [.int 0, .int 0], .int 1]]]], .tup [.tup [.int 0, .int 0], .tup [.int 1, .int 1]]], ⟨[.lst [.bl true, .tup [.int 1], .non, .bl true, .tup []], .lst [.bl true, .tup [.int 1], .non, .bl true, .tup []]], [], false⟩⟩
theorem v8 : m8.Ok (tabF bs 20) := by
  unfold Mo.Ok
  kernel_rfl
def m9 : Mo := ⟨37, [.tup [.tup [.int 3, .int 3], .tup [.tup [.tup [.int 0, .int 1], .tup [.tup [.tup [.int 1, .int 0], .int 1]]], .tup [.tup [.int 1, .int 1], .tup [.tup [.tup [.int 0, .int 0], .int 1]]]], .tup [.tup [.int 0, .int 0], .tup [.int 1, .int 1]]]], ⟨[.lst [.bl true, .tup [.int 1], .non, .bl true, .tup []], .lst [.bl true, .tup [.int 1], .non, .bl true, .tup []]], [], false⟩, .int 1, ⟨[.lst [.bl true, .tup [.int 1], .non, .bl true, .tup []], .lst [.bl true, .tup [.int 1], .non, .bl true, .tup []]], [], false⟩⟩
theorem v9 : m9.Ok (tabF bs 20) := by
  unfold Mo.Ok
  kernel_rfl
def m10 : Mo := ⟨46, [.tup [.tup [.int 3, .int 3], .tup [.tup [.tup [.int 0, .int 1], .tup [.tup [.tup [.int 1, .int 0], .int 1]]], .tup [.tup [.int 1, .int 1], .tup [.tup [.tup [.int 0, .int 0], .int 1]]]], .tup [.tup [.int 0, .int 0], .tup [.int 1, .int 1]]]], ⟨[.lst [.bl true, .tup [.int 1], .non, .bl true, .tup []], .lst [.bl true, .tup [.int 1], .non, .bl true, .tup []]], [], false⟩, .bl false, ⟨[.lst [.bl true, .tup [.int 1], .non, .bl true, .tup []], .lst [.bl true, .tup [.int 1], .non, .bl true, .tup []]], [], false⟩⟩
theorem v10 : m10.Ok (tabF bs 20) := by
  unfold Mo.Ok
  kernel_rfl
def m11 : Mo := ⟨47, [.tup [.tup [.int 3, .int 3], .tup [.tup [.tup [.int 0, .int 1], .tup [.tup [.tup [.int 1, .int 0], .int 1]]], .tup [.tup [.int 1, .int 1], .tup [.tup [.tup [.int 0, .int 0], .int 1]]]], .tup [.tup [.int 0, .int 0], .tup [.int 1, .int 1]]]], ⟨[.lst [.bl true, .tup [.int 1], .non, .bl true, .tup []], .lst [.bl true, .tup [.int 1], .non, .bl true, .tup []]], [], false⟩, .tup [.int 0, .int 0], ⟨[.lst [.bl true, .tup [.int 1], .non, .bl true, .tup []], .lst [.bl true, .tup [.int 1], .non, .bl true, .tup []]], [], false⟩⟩
theorem v11 : m11.Ok (tabF bs 20) := by
  unfold Mo.Ok
  kernel_rfl
def m12 : Mo := ⟨50, [.tup [.tup [.int 3, .int 3], .tup [.tup [.tup [.int 0, .int 1], .tup [.tup [.tup [.int 1, .int 0], .int 1]]], .tup [.tup [.int 1, .int 1], .tup [.tup [.tup [.int 0, .int 0], .int 1]]]], .tup [.tup [.int 0, .int 0], .tup [.int 1, .int 1]]]], ⟨[.lst [.bl true, .tup [.int 1], .non, .bl true, .tup []], .lst [.bl true, .tup [.int 1], .non, .bl true, .tup []], .lst [.int 1, .bl false, .tup [.int 0, .int 0]], .lst [.int 1, .bl false, .tup [.int 0, .int 0]]], [], false⟩, .tup [.tup [.int 0, .int 0]], ⟨[.lst [.bl true, .tup [.int 1], .non, .bl true, .tup []], .lst [.bl true, .tup [.int 1], .non, .bl true, .tup []], .lst [.int 1, .bl false, .tup [.int 0, .int 0]], .lst [.int 1, .bl false, .tup [.int 0, .int 0]]], [], false⟩⟩
theorem v12 : m12.Ok (tabF bs 20) := by
  unfold Mo.Ok
  kernel_rfl
def m13 : Mo := ⟨47, [.tup [.tup [.int 2, .int 2, .int 2, .int 2, .int 2, .int 2], .tup [.tup [.tup [.int 0, .int 1], .tup [.tup [.tup [.int 1, .int 0], .int 1]]], .tup [.tup [.int 1, .int 1], .tup [.tup [.tup [.int 2, .int 0], .int 1]]], .tup [.tup [.int 3, .int 1], .tup [.tup [.tup [.int 5, .int 0], .int 1], .tup [.tup [.int 4, .int 0], .int 1]]]], .tup [.tup [.int 0, .int 0], .tup [.int 2, .int 1], .tup [.int 3, .int 0], .tup [.int 4, .int 1]]]], ⟨[.lst [.bl true, .tup [.int 1], .non, .bl true, .tup []], .lst [.bl true, .tup [.int 1], .non, .bl true, .tup []], .lst [.int 1, .bl false, .tup [.int 0, .int 0]], .lst [.int 1, .bl false, .tup [.int 0, .int 0]], .lst [.tup [.tup [.int 0, .int 0]], .tup [.tup [.int 1, .int 0]]]], [], false⟩, .tup [.int 0, .int 0, .int 0], ⟨[.lst [.bl true, .tup [.int 1], .non, .bl true, .tup []], .lst [.bl true, .tup [.int 1], .non, .bl true, .tup []], .lst [.int 1, .bl false, .tup [.int 0, .int 0]], .lst [.int 1, .bl false, .tup [.int 0, .int 0]], .lst [.tup [.tup [.int 0, .int 0]], .tup [.tup [.int 1, .int 0]]]], [], false⟩⟩
theorem v13 : m13.Ok (tabF bs 20) := by
  unfold Mo.Ok
  kernel_rfl
def m14 : Mo := ⟨50, [.tup [.tup [.int 2, .int 2, .int 2, .int 2, .int 2, .int 2], .tup [.tup [.tup [.int 0, .int 1], .tup [.tup [.tup [.int 1, .int 0], .int 1]]], .tup [.tup [.int 1, .int 1], .tup [.tup [.tup [.int 2, .int 0], .int 1]]], .tup [.tup [.int 3, .int 1], .tup [.tup [.tup [.int 5, .int 0], .int 1], .tup [.tup [.int 4, .int 0], .int 1]]]], .tup [.tup [.int 0, .int 0], .tup [.int 2, .int 1], .tup [.int 3, .int 0], .tup [.int 4, .int 1]]]], ⟨[.lst [.bl true, .tup [.int 1], .non, .bl true, .tup []], .lst [.bl true, .tup [.int 1], .non, .bl true, .tup []], .lst [.int 1, .bl false, .tup [.int 0, .int 0]], .lst [.int 1, .bl false, .tup [.int 0, .int 0]], .lst [.tup [.tup [.int 0, .int 0]], .tup [.tup [.int 1, .int 0]]]], [], false⟩, .tup [.tup [.int 2, .int 1]], ⟨[.lst [.bl true, .tup [.int 1], .non, .bl true, .tup []], .lst [.bl true, .tup [.int 1], .non, .bl true, .tup []], .lst [.int 1, .bl false, .tup [.int 0, .int 0]], .lst [.int 1, .bl false, .tup [.int 0, .int 0]], .lst [.tup [.tup [.int 0, .int 0]], .tup [.tup [.int 1, .int 0]]]], [], false⟩⟩
theorem v14 : m14.Ok (tabF bs 20) := by
  unfold Mo.Ok
  kernel_rfl
def m15 : Mo := ⟨20, [.tup [.tup [.int 4, .int 3, .int 5], .tup [.tup [.tup [.int 0, .int 1], .tup [.tup [.tup [.int 1, .int 0], .int 0], .tup [.tup [.int 2, .int 1], .int 0]]], .tup [.tup [.int 1, .int 1], .tup [.tup [.tup [.int 2, .int 0], .int 0]]]], .tup []]], ⟨[.lst [.bl true, .tup [.int 1], .non, .bl true, .tup []], .lst [.bl true, .tup [.int 1], .non, .bl true, .tup []], .lst [.int 1, .bl false, .tup [.int 0, .int 0]], .lst [.int 1, .bl false, .tup [.int 0, .int 0]], .lst [.tup [.tup [.int 0, .int 0]], .tup [.tup [.int 1, .int 0]]]], [5], false⟩, .bl false, ⟨[.lst [.bl true, .tup [.int 1], .non, .bl true, .tup []], .lst [.bl true, .tup [.int 1], .non, .bl true, .tup []], .lst [.int 1, .bl false, .tup [.int 0, .int 0]], .lst [.int 1, .bl false, .tup [.int 0, .int 0]], .lst [.tup [.tup [.int 0, .int 0]], .tup [.tup [.int 1, .int 0]]]], [5], false⟩⟩
theorem v15 : m15.Ok (tabF bs 19) := by
  unfold Mo.Ok
  kernel_rfl
def m16 : Mo := ⟨23, [.tup [.tup [.int 4, .int 3, .int 5], .tup [.tup [.tup [.int 0, .int 1], .tup [.tup [.tup [.int 1, .int 0], .int 0], .tup [.tup [.int 2, .int 1], .int 0]]], .tup [.tup [.int 1, .int 1], .tup [.tup [.tup [.int 2, .int 0], .int 0]]]], .tup []], .tup []], ⟨[.lst [.bl true, .tup [.int 1], .non, .bl true, .tup []], .lst [.bl true, .tup [.int 1], .non, .bl true, .tup []], .lst [.int 1, .bl false, .tup [.int 0, .int 0]], .lst [.int 1, .bl false, .tup [.int 0, .int 0]], .lst [.tup [.tup [.int 0, .int 0]], .tup [.tup [.int 1, .int 0]]]], [5], false⟩, .tup [.tup [.str "link", .int 0, .int 0], .tup [.str "link", .int 1, .int 0], .tup [.str "link", .int 0, .int 1]], ⟨[.lst [.bl true, .tup [.int 1], .non, .bl true, .tup []], .lst [.bl true, .tup [.int 1], .non, .bl true, .tup []], .lst [.int 1, .bl false, .tup [.int 0, .int 0]], .lst [.int 1, .bl false, .tup [.int 0, .int 0]], .lst [.tup [.tup [.int 0, .int 0]], .tup [.tup [.int 1, .int 0]]]], [5], false⟩⟩
theorem v16 : m16.Ok (tabF bs 19) := by
  unfold Mo.Ok
  kernel_rfl
def m17 : Mo := ⟨42, [.tup [.tup [.int 4, .int 3, .int 5], .tup [.tup [.tup [.int 0, .int 1], .tup [.tup [.tup [.int 1, .int 0], .int 0], .tup [.tup [.int 2, .int 1], .int 0]]], .tup [.tup [.int 1, .int 1], .tup [.tup [.tup [.int 2, .int 0], .int 0]]]], .tup []]], ⟨[.lst [.bl true, .tup [.int 1], .non, .bl true, .tup []], .lst [.bl true, .tup [.int 1], .non, .bl true, .tup []], .lst [.int 1, .bl false, .tup [.int 0, .int 0]], .lst [.int 1, .bl false, .tup [.int 0, .int 0]], .lst [.tup [.tup [.int 0, .int 0]], .tup [.tup [.int 1, .int 0]]]], [5], false⟩, .tup [.tup [.int 0, .int 0]], ⟨[.lst [.bl true, .tup [.int 1], .non, .bl true, .tup []], .lst [.bl true, .tup [.int 1], .non, .bl true, .tup []], .lst [.int 1, .bl false, .tup [.int 0, .int 0]], .lst [.int 1, .bl false, .tup [.int 0, .int 0]], .lst [.tup [.tup [.int 0, .int 0]], .tup [.tup [.int 1, .int 0]]]], [5], false⟩⟩
theorem v17 : m17.Ok (tabF bs 19) := by
  unfold Mo.Ok
  kernel_rfl
def m18 : Mo := ⟨19, [.tup [.tup [.int 4, .int 3, .int 5], .tup [.tup [.tup [.int 0, .int 1], .tup [.tup [.tup [.int 1, .int 0], .int 1], .tup [.tup [.int 2, .int 1], .int 0]]], .tup [.tup [.int 1, .int 1], .tup [.tup [.tup [.int 2, .int 0], .int 0]]]], .tup []], .tup []], ⟨[.lst [.bl true, .tup [.int 1], .non, .bl true, .tup []], .lst [.bl true, .tup [.int 1], .non, .bl true, .tup []], .lst [.int 1, .bl false, .tup [.int 0, .int 0]], .lst [.int 1, .bl false, .tup [.int 0, .int 0]], .lst [.tup [.tup [.int 0, .int 0]], .tup [.tup [.int 1, .int 0]]]], [5], false⟩, .tup [.int 0, .int 1, .int 1], ⟨[.lst [.bl true, .tup [.int 1], .non, .bl true, .tup []], .lst [.bl true, .tup [.int 1], .non, .bl true, .tup []], .lst [.int 1, .bl false, .tup [.int 0, .int 0]], .lst [.int 1, .bl false, .tup [.int 0, .int 0]], .lst [.tup [.tup [.int 0, .int 0]], .tup [.tup [.int 1, .int 0]]]], [5], false⟩⟩
theorem v18 : m18.Ok (tabF bs 19) := by
  unfold Mo.Ok
  kernel_rfl
def m19 : Mo := ⟨37, [.tup [.tup [.int 4, .int 3, .int 5], .tup [.tup [.tup [.int 0, .int 1], .tup [.tup [.tup [.int 1, .int 0], .int 1], .tup [.tup [.int 2, .int 1], .int 0]]], .tup [.tup [.int 1, .int 1], .tup [.tup [.tup [.int 2, .int 0], .int 0]]]], .tup []]], ⟨[.lst [.bl true, .tup [.int 1], .non, .bl true, .tup []], .lst [.bl true, .tup [.int 1], .non, .bl true, .tup []], .lst [.int 1, .bl false, .tup [.int 0, .int 0]], .lst [.int 1, .bl false, .tup [.int 0, .int 0]], .lst [.tup [.tup [.int 0, .int 0]], .tup [.tup [.int 1, .int 0]]]], [5], false⟩, .int 1, ⟨[.lst [.bl true, .tup [.int 1], .non, .bl true, .tup []], .lst [.bl true, .tup [.int 1], .non, .bl true, .tup []], .lst [.int 1, .bl false, .tup [.int 0, .int 0]], .lst [.int 1, .bl false, .tup [.int 0, .int 0]], .lst [.tup [.tup [.int 0, .int 0]], .tup [.tup [.int 1, .int 0]]]], [5], false⟩⟩
theorem v19 : m19.Ok (tabF bs 19) := by
  unfold Mo.Ok
  kernel_rfl
def m20 : Mo := ⟨36, [.tup [.tup [.int 4, .int 3, .int 5], .tup [.tup [.tup [.int 0, .int 1], .tup [.tup [.tup [.int 1, .int 0], .int 1], .tup [.tup [.int 2, .int 1], .int 0]]], .tup [.tup [.int 1, .int 1], .tup [.tup [.tup [.int 2, .int 0], .int 0]]]], .tup []]], ⟨[.lst [.bl true, .tup [.int 1], .non, .bl true, .tup []], .lst [.bl true, .tup [.int 1], .non, .bl true, .tup []], .lst [.int 1, .bl false, .tup [.int 0, .int 0]], .lst [.int 1, .bl false, .tup [.int 0, .int 0]], .lst [.tup [.tup [.int 0, .int 0]], .tup [.tup [.int 1, .int 0]]]], [5], false⟩, .tup [.tup [.tup [.int 0, .int 1], .tup [.int 1, .int 1]], .int 3, .int 1], ⟨[.lst [.bl true, .tup [.int 1], .non, .bl true, .tup []], .lst [.bl true, .tup [.int 1], .non, .bl true, .tup []], .lst [.int 1, .bl false, .tup [.int 0, .int 0]], .lst [.int 1, .bl false, .tup [.int 0, .int 0]], .lst [.tup [.tup [.int 0, .int 0]], .tup [.tup [.int 1, .int 0]]]], [5], false⟩⟩
theorem v20 : m20.Ok (tabF bs 19) := by
  unfold Mo.Ok
  kernel_rfl
def m21 : Mo := ⟨30, [.tup [.tup [.int 4, .int 3, .int 5], .tup [.tup [.tup [.int 0, .int 1], .tup [.tup [.tup [.int 1, .int 0], .int 1], .tup [.tup [.int 2, .int 1], .int 0]]], .tup [.tup [.int 1, .int 1], .tup [.tup [.tup [.int 2, .int 0], .int 0]]]], .tup []], .tup [.tup [.tup [.int 0, .int 1], .tup [.int 1, .int 1]], .int 3, .int 1]], ⟨[.lst [.bl true, .tup [.int 1], .non, .bl true, .tup []], .lst [.bl true, .tup [.int 1], .non, .bl true, .tup []], .lst [.int 1, .bl false, .tup [.int 0, .int 0]], .lst [.int 1, .bl false, .tup [.int 0, .int 0]], .lst [.tup [.tup [.int 0, .int 0]], .tup [.tup [.int 1, .int 0]]]], [5], false⟩, .int 2, ⟨[.lst [.bl true, .tup [.int 1], .non, .bl true, .tup []], .lst [.bl true, .tup [.int 1], .non, .bl true, .tup []], .lst [.int 1, .bl false, .tup [.int 0, .int 0]], .lst [.int 1, .bl false, .tup [.int 0, .int 0]], .lst [.tup [.tup [.int 0, .int 0]], .tup [.tup [.int 1, .int 0]]]], [5], false⟩⟩
theorem v21 : m21.Ok (tabF bs 19) := by
  unfold Mo.Ok
  kernel_rfl
def m22 : Mo := ⟨47, [.tup [.tup [.int 4, .int 3, .int 5], .tup [.tup [.tup [.int 0, .int 1], .tup [.tup [.tup [.int 1, .int 0], .int 1], .tup [.tup [.int 2, .int 1], .int 0]]], .tup [.tup [.int 1, .int 1], .tup [.tup [.tup [.int 2, .int 0], .int 0]]]], .tup []]], ⟨[.lst [.bl true, .tup [.int 1], .non, .bl true, .tup []], .lst [.bl true, .tup [.int 1], .non, .bl true, .tup []], .lst [.int 1, .bl false, .tup [.int 0, .int 0]], .lst [.int 1, .bl false, .tup [.int 0, .int 0]], .lst [.tup [.tup [.int 0, .int 0]], .tup [.tup [.int 1, .int 0]]]], [5], false⟩, .tup [.int 0, .int 0], ⟨[.lst [.bl true, .tup [.int 1], .non, .bl true, .tup []], .lst [.bl true, .tup [.int 1], .non, .bl true, .tup []], .lst [.int 1, .bl false, .tup [.int 0, .int 0]], .lst [.int 1, .bl false, .tup [.int 0, .int 0]], .lst [.tup [.tup [.int 0, .int 0]], .tup [.tup [.int 1, .int 0]]]], [5], false⟩⟩
theorem v22 : m22.Ok (tabF bs 19) := by
  unfold Mo.Ok
  kernel_rfl
def m23 : Mo := ⟨50, [.tup [.tup [.int 4, .int 3, .int 5], .tup [.tup [.tup [.int 0, .int 1], .tup [.tup [.tup [.int 1, .int 0], .int 1], .tup [.tup [.int 2, .int 1], .int 0]]], .tup [.tup [.int 1, .int 1], .tup [.tup [.tup [.int 2, .int 0], .int 0]]]], .tup []]], ⟨[.lst [.bl true, .tup [.int 1], .non, .bl true, .tup []], .lst [.bl true, .tup [.int 1], .non, .bl true, .tup []], .lst [.int 1, .bl false, .tup [.int 0, .int 0]], .lst [.int 1, .bl false, .tup [.int 0, .int 0]], .lst [.tup [.tup [.int 0, .int 0]], .tup [.tup [.int 1, .int 0]]]], [5], false⟩, .tup [.tup [.int 0, .int 0]], ⟨[.lst [.bl true, .tup [.int 1], .non, .bl true, .tup []], .lst [.bl true, .tup [.int 1], .non, .bl true, .tup []], .lst [.int 1, .bl false, .tup [.int 0, .int 0]], .lst [.int 1, .bl false, .tup [.int 0, .int 0]], .lst [.tup [.tup [.int 0, .int 0]], .tup [.tup [.int 1, .int 0]]]], [5], false⟩⟩
theorem v23 : m23.Ok (tabF bs 19) := by
  unfold Mo.Ok
  kernel_rfl
def m24 : Mo := ⟨19, [.tup [.tup [.int 4, .int 3, .int 5], .tup [.tup [.tup [.int 0, .int 1], .tup [.tup [.tup [.int 1, .int 0], .int 1], .tup [.tup [.int 2, .int 1], .int 0]]], .tup [.tup [.int 1, .int 1], .tup [.tup [.tup [.int 2, .int 0], .int 0]]]], .tup []], .ref 5], ⟨[.lst [.bl true, .tup [.int 1], .non, .bl true, .tup []], .lst [.bl true, .tup [.int 1], .non, .bl true, .tup []], .lst [.int 1, .bl false, .tup [.int 0, .int 0]], .lst [.int 1, .bl false, .tup [.int 0, .int 0]], .lst [.tup [.tup [.int 0, .int 0]], .tup [.tup [.int 1, .int 0]]], .lst [.tup [.int 0, .int 0]]], [5], false⟩, .non, ⟨[.lst [.bl true, .tup [.int 1], .non, .bl true, .tup []], .lst [.bl true, .tup [.int 1], .non, .bl true, .tup []], .lst [.int 1, .bl false, .tup [.int 0, .int 0]], .lst [.int 1, .bl false, .tup [.int 0, .int 0]], .lst [.tup [.tup [.int 0, .int 0]], .tup [.tup [.int 1, .int 0]]], .lst [.tup [.int 0, .int 0]]], [5], false⟩⟩
theorem v24 : m24.Ok (tabF bs 19) := by
  unfold Mo.Ok
  kernel_rfl
def m25 : Mo := ⟨46, [.tup [.tup [.int 4, .int 3, .int 5], .tup [.tup [.tup [.int 0, .int 1], .tup [.tup [.tup [.int 1, .int 0], .int 1], .tup [.tup [.int 2, .int 1], .int 1]]], .tup [.tup [.int 1, .int 1], .tup [.tup [.tup [.int 2, .int 0], .int 0]]]], .tup []]], ⟨[.lst [.bl true, .tup [.int 1], .non, .bl true, .tup []], .lst [.bl true, .tup [.int 1], .non, .bl true, .tup []], .lst [.int 1, .bl false, .tup [.int 0, .int 0]], .lst [.int 1, .bl false, .tup [.int 0, .int 0]], .lst [.tup [.tup [.int 0, .int 0]], .tup [.tup [.int 1, .int 0]]], .lst [.tup [.int 0, .int 0]]], [5], false⟩, .bl true, ⟨[.lst [.bl true, .tup [.int 1], .non, .bl true, .tup []], .lst [.bl true, .tup [.int 1], .non, .bl true, .tup []], .lst [.int 1, .bl false, .tup [.int 0, .int 0]], .lst [.int 1, .bl false, .tup [.int 0, .int 0]], .lst [.tup [.tup [.int 0, .int 0]], .tup [.tup [.int 1, .int 0]]], .lst [.tup [.int 0, .int 0]]], [5], false⟩⟩
theorem v25 : m25.Ok (tabF bs 19) := by
  unfold Mo.Ok
  kernel_rfl
def m26 : Mo := ⟨37, [.tup [.tup [.int 4, .int 3, .int 5], .tup [.tup [.tup [.int 0, .int 1], .tup [.tup [.tup [.int 1, .int 0], .int 1], .tup [.tup [.int 2, .int 1], .int 1]]], .tup [.tup [.int 1, .int 1], .tup [.tup [.tup [.int 2, .int 0], .int 0]]]], .tup []]], ⟨[.lst [.bl true, .tup [.int 1], .non, .bl true, .tup []], .lst [.bl true, .tup [.int 1], .non, .bl true, .tup []], .lst [.int 1, .bl false, .tup [.int 0, .int 0]], .lst [.int 1, .bl false, .tup [.int 0, .int 0]], .lst [.tup [.tup [.int 0, .int 0]], .tup [.tup [.int 1, .int 0]]], .lst [.tup [.int 0, .int 0]]], [5], false⟩, .non, ⟨[.lst [.bl true, .tup [.int 1], .non, .bl true, .tup []], .lst [.bl true, .tup [.int 1], .non, .bl true, .tup []], .lst [.int 1, .bl false, .tup [.int 0, .int 0]], .lst [.int 1, .bl false, .tup [.int 0, .int 0]], .lst [.tup [.tup [.int 0, .int 0]], .tup [.tup [.int 1, .int 0]]], .lst [.tup [.int 0, .int 0]]], [5], false⟩⟩
theorem v26 : m26.Ok (tabF bs 19) := by
  unfold Mo.Ok
  kernel_rfl
def m27 : Mo := ⟨50, [.tup [.tup [.int 4, .int 3, .int 5], .tup [.tup [.tup [.int 0, .int 1], .tup [.tup [.tup [.int 1, .int 0], .int 1], .tup [.tup [.int 2, .int 1], .int 1]]], .tup [.tup [.int 1, .int 1], .tup [.tup [.tup [.int 2, .int 0], .int 0]]]], .tup []]], ⟨[.lst [.bl true, .tup [.int 1], .non, .bl true, .tup []], .lst [.bl true, .tup [.int 1], .non, .bl true, .tup []], .lst [.int 1, .bl false, .tup [.int 0, .int 0]], .lst [.int 1, .bl false, .tup [.int 0, .int 0]], .lst [.tup [.tup [.int 0, .int 0]], .tup [.tup [.int 1, .int 0]]], .lst [.tup [.int 0, .int 0]]], [5], false⟩, .non, ⟨[.lst [.bl true, .tup [.int 1], .non, .bl true, .tup []], .lst [.bl true, .tup [.int 1], .non, .bl true, .tup []], .lst [.int 1, .bl false, .tup [.int 0, .int 0]], .lst [.int 1, .bl false, .tup [.int 0, .int 0]], .lst [.tup [.tup [.int 0, .int 0]], .tup [.tup [.int 1, .int 0]]], .lst [.tup [.int 0, .int 0]]], [5], false⟩⟩
theorem v27 : m27.Ok (tabF bs 19) := by
  unfold Mo.Ok
  kernel_rfl
def m28 : Mo := ⟨47, [.tup [.tup [.int 4, .int 3, .int 5], .tup [.tup [.tup [.int 0, .int 1], .tup [.tup [.tup [.int 1, .int 0], .int 1], .tup [.tup [.int 2, .int 1], .int 1]]], .tup [.tup [.int 1, .int 1], .tup [.tup [.tup [.int 2, .int 0], .int 0]]]], .tup []]], ⟨[.lst [.bl true, .tup [.int 1], .non, .bl true, .tup []], .lst [.bl true, .tup [.int 1], .non, .bl true, .tup []], .lst [.int 1, .bl false, .tup [.int 0, .int 0]], .lst [.int 1, .bl false, .tup [.int 0, .int 0]], .lst [.tup [.tup [.int 0, .int 0]], .tup [.tup [.int 1, .int 0]]], .lst [.tup [.int 0, .int 0]]], [5], false⟩, .non, ⟨[.lst [.bl true, .tup [.int 1], .non, .bl true, .tup []], .lst [.bl true, .tup [.int 1], .non, .bl true, .tup []], .lst [.int 1, .bl false, .tup [.int 0, .int 0]], .lst [.int 1, .bl false, .tup [.int 0, .int 0]], .lst [.tup [.tup [.int 0, .int 0]], .tup [.tup [.int 1, .int 0]]], .lst [.tup [.int 0, .int 0]]], [5], false⟩⟩
theorem v28 : m28.Ok (tabF bs 19) := by
  unfold Mo.Ok
  kernel_rfl
def m29 : Mo := ⟨46, [.tup [.tup [.int 4, .int 3, .int 5], .tup [.tup [.tup [.int 0, .int 1], .tup [.tup [.tup [.int 1, .int 0], .int 1], .tup [.tup [.int 2, .int 1], .int 1]]], .tup [.tup [.int 1, .int 1], .tup [.tup [.tup [.int 2, .int 0], .int 0]]]], .tup [.tup [.int 0, .int 0], .tup [.int 1, .int 0]]]], ⟨[.lst [.bl true, .tup [.int 1], .non, .bl true, .tup []], .lst [.bl true, .tup [.int 1], .non, .bl true, .tup []], .lst [.int 1, .bl false, .tup [.int 0, .int 0]], .lst [.int 1, .bl false, .tup [.int 0, .int 0]], .lst [.tup [.tup [.int 0, .int 0]], .tup [.tup [.int 1, .int 0]]], .lst [.tup [.int 0, .int 0]], .lst [.bl true, .non, .non, .non], .lst [.bl true, .non, .non, .non]], [5], false⟩, .bl false, ⟨[.lst [.bl true, .tup [.int 1], .non, .bl true, .tup []], .lst [.bl true, .tup [.int 1], .non, .bl true, .tup []], .lst [.int 1, .bl false, .tup [.int 0, .int 0]], .lst [.int 1, .bl false, .tup [.int 0, .int 0]], .lst [.tup [.tup [.int 0, .int 0]], .tup [.tup [.int 1, .int 0]]], .lst [.tup [.int 0, .int 0]], .lst [.bl true, .non, .non, .non], .lst [.bl true, .non, .non, .non]], [5], false⟩⟩
theorem v29 : m29.Ok (tabF bs 19) := by
  unfold Mo.Ok
  kernel_rfl
def m30 : Mo := ⟨37, [.tup [.tup [.int 4, .int 3, .int 5], .tup [.tup [.tup [.int 0, .int 1], .tup [.tup [.tup [.int 1, .int 0], .int 1], .tup [.tup [.int 2, .int 1], .int 1]]], .tup [.tup [.int 1, .int 1], .tup [.tup [.tup [.int 2, .int 0], .int 0]]]], .tup [.tup [.int 0, .int 0], .tup [.int 1, .int 0]]]], ⟨[.lst [.bl true, .tup [.int 1], .non, .bl true, .tup []], .lst [.bl true, .tup [.int 1], .non, .bl true, .tup []], .lst [.int 1, .bl false, .tup [.int 0, .int 0]], .lst [.int 1, .bl false, .tup [.int 0, .int 0]], .lst [.tup [.tup [.int 0, .int 0]], .tup [.tup [.int 1, .int 0]]], .lst [.tup [.int 0, .int 0]], .lst [.bl true, .non, .non, .non], .lst [.bl true, .non, .non, .non]], [5], false⟩, .int 1, ⟨[.lst [.bl true, .tup [.int 1], .non, .bl true, .tup []], .lst [.bl true, .tup [.int 1], .non, .bl true, .tup []], .lst [.int 1, .bl false, .tup [.int 0, .int 0]], .lst [.int 1, .bl false, .tup [.int 0, .int 0]], .lst [.tup [.tup [.int 0, .int 0]], .tup [.tup [.int 1, .int 0]]], .lst [.tup [.int 0, .int 0]], .lst [.bl true, .non, .non, .non], .lst [.bl true, .non, .non, .non]], [5], false⟩⟩
theorem v30 : m30.Ok (tabF bs 19) := by
  unfold Mo.Ok
  kernel_rfl
def m31 : Mo := ⟨50, [.tup [.tup [.int 4, .int 3, .int 5], .tup [.tup [.tup [.int 0, .int 1], .tup [.tup [.tup [.int 1, .int 0], .int 1], .tup [.tup [.int 2, .int 1], .int 1]]], .tup [.tup [.int 1, .int 1], .tup [.tup [.tup [.int 2, .int 0], .int 0]]]], .tup [.tup [.int 0, .int 0], .tup [.int 1, .int 0]]]], ⟨[.lst [.bl true, .tup [.int 1], .non, .bl true, .tup []], .lst [.bl true, .tup [.int 1], .non, .bl true, .tup []], .lst [.int 1, .bl false, .tup [.int 0, .int 0]], .lst [.int 1, .bl false, .tup [.int 0, .int 0]], .lst [.tup [.tup [.int 0, .int 0]], .tup [.tup [.int 1, .int 0]]], .lst [.tup [.int 0, .int 0]], .lst [.bl true, .non, .non, .non], .lst [.bl true, .non, .non, .non]], [5], false⟩, .tup [.tup [.int 0, .int 1]], ⟨[.lst [.bl true, .tup [.int 1], .non, .bl true, .tup []], .lst [.bl true, .tup [.int 1], .non, .bl true, .tup []], .lst [.int 1, .bl false, .tup [.int 0, .int 0]], .lst [.int 1, .bl false, .tup [.int 0, .int 0]], .lst [.tup [.tup [.int 0, .int 0]], .tup [.tup [.int 1, .int 0]]], .lst [.tup [.int 0, .int 0]], .lst [.bl true, .non, .non, .non], .lst [.bl true, .non, .non, .non]], [5], false⟩⟩
theorem v31 : m31.Ok (tabF bs 19) := by
  unfold Mo.Ok
  kernel_rfl
def m32 : Mo := ⟨47, [.tup [.tup [.int 4, .int 3, .int 5], .tup [.tup [.tup [.int 0, .int 1], .tup [.tup [.tup [.int 1, .int 0], .int 1], .tup [.tup [.int 2, .int 1], .int 1]]], .tup [.tup [.int 1, .int 1], .tup [.tup [.tup [.int 2, .int 0], .int 0]]]], .tup [.tup [.int 0, .int 0], .tup [.int 1, .int 0]]]], ⟨[.lst [.bl true, .tup [.int 1], .non, .bl true, .tup []], .lst [.bl true, .tup [.int 1], .non, .bl true, .tup []], .lst [.int 1, .bl false, .tup [.int 0, .int 0]], .lst [.int 1, .bl false, .tup [.int 0, .int 0]], .lst [.tup [.tup [.int 0, .int 0]], .tup [.tup [.int 1, .int 0]]], .lst [.tup [.int 0, .int 0]], .lst [.bl true, .non, .non, .non], .lst [.bl true, .non, .non, .non]], [5], false⟩, .tup [.int 1, .int 0], ⟨[.lst [.bl true, .tup [.int 1], .non, .bl true, .tup []], .lst [.bl true, .tup [.int 1], .non, .bl true, .tup []], .lst [.int 1, .bl false, .tup [.int 0, .int 0]], .lst [.int 1, .bl false, .tup [.int 0, .int 0]], .lst [.tup [.tup [.int 0, .int 0]], .tup [.tup [.int 1, .int 0]]], .lst [.tup [.int 0, .int 0]], .lst [.bl true, .non, .non, .non], .lst [.bl true, .non, .non, .non]], [5], false⟩⟩
theorem v32 : m32.Ok (tabF bs 19) := by
  unfold Mo.Ok
  kernel_rfl
def m33 : Mo := ⟨37, [.tup [.tup [.int 4, .int 3, .int 5], .tup [.tup [.tup [.int 0, .int 1], .tup [.tup [.tup [.int 1, .int 0], .int 1], .tup [.tup [.int 2, .int 1], .int 1]]], .tup [.tup [.int 1, .int 1], .tup [.tup [.tup [.int 2, .int 0], .int 1]]]], .tup [.tup [.int 0, .int 0], .tup [.int 1, .int 0]]]], ⟨[.lst [.bl true, .tup [.int 1], .non, .bl true, .tup []], .lst [.bl true, .tup [.int 1], .non, .bl true, .tup []], .lst [.int 1, .bl false, .tup [.int 0, .int 0]], .lst [.int 1, .bl false, .tup [.int 0, .int 0]], .lst [.tup [.tup [.int 0, .int 0]], .tup [.tup [.int 1, .int 0]]], .lst [.tup [.int 0, .int 0]], .lst [.bl true, .non, .non, .non], .lst [.bl true, .non, .non, .non], .lst [.bl false, .int 1, .tup [.tup [.int 0, .int 1]], .tup [.int 1, .int 0]], .lst [.bl false, .int 1, .tup [.tup [.int 0, .int 1]], .tup [.int 1, .int 0]]], [5], false⟩, .int 6, ⟨[.lst [.bl true, .tup [.int 1], .non, .bl true, .tup []], .lst [.bl true, .tup [.int 1], .non, .bl true, .tup []], .lst [.int 1, .bl false, .tup [.int 0, .int 0]], .lst [.int 1, .bl false, .tup [.int 0, .int 0]], .lst [.tup [.tup [.int 0, .int 0]], .tup [.tup [.int 1, .int 0]]], .lst [.tup [.int 0, .int 0]], .lst [.bl true, .non, .non, .non], .lst [.bl true, .non, .non, .non], .lst [.bl false, .int 1, .tup [.tup [.int 0, .int 1]], .tup [.int 1, .int 0]], .lst [.bl false, .int 1, .tup [.tup [.int 0, .int 1]], .tup [.int 1, .int 0]]], [5], false⟩⟩
theorem v33 : m33.Ok (tabF bs 19) := by
  unfold Mo.Ok
  kernel_rfl
def m34 : Mo := ⟨50, [.tup [.tup [.int 4, .int 3, .int 5], .tup [.tup [.tup [.int 0, .int 1], .tup [.tup [.tup [.int 1, .int 0], .int 1], .tup [.tup [.int 2, .int 1], .int 1]]], .tup [.tup [.int 1, .int 1], .tup [.tup [.tup [.int 2, .int 0], .int 1]]]], .tup [.tup [.int 0, .int 0], .tup [.int 1, .int 0]]]], ⟨[.lst [.bl true, .tup [.int 1], .non, .bl true, .tup []], .lst [.bl true, .tup [.int 1], .non, .bl true, .tup []], .lst [.int 1, .bl false, .tup [.int 0, .int 0]], .lst [.int 1, .bl false, .tup [.int 0, .int 0]], .lst [.tup [.tup [.int 0, .int 0]], .tup [.tup [.int 1, .int 0]]], .lst [.tup [.int 0, .int 0]], .lst [.bl true, .non, .non, .non], .lst [.bl true, .non, .non, .non], .lst [.bl false, .int 1, .tup [.tup [.int 0, .int 1]], .tup [.int 1, .int 0]], .lst [.bl false, .int 1, .tup [.tup [.int 0, .int 1]], .tup [.int 1, .int 0]]], [5], false⟩, .tup [.tup [.int 0, .int 1], .tup [.int 1, .int 0]], ⟨[.lst [.bl true, .tup [.int 1], .non, .bl true, .tup []], .lst [.bl true, .tup [.int 1], .non, .bl true, .tup []], .lst [.int 1, .bl false, .tup [.int 0, .int 0]], .lst [.int 1, .bl false, .tup [.int 0, .int 0]], .lst [.tup [.tup [.int 0, .int 0]], .tup [.tup [.int 1, .int 0]]], .lst [.tup [.int 0, .int 0]], .lst [.bl true, .non, .non, .non], .lst [.bl true, .non, .non, .non], .lst [.bl false, .int 1, .tup [.tup [.int 0, .int 1]], .tup [.int 1, .int 0]], .lst [.bl false, .int 1, .tup [.tup [.int 0, .int 1]], .tup [.int 1, .int 0]]], [5], false⟩⟩
theorem v34 : m34.Ok (tabF bs 19) := by
  unfold Mo.Ok
  kernel_rfl
def m35 : Mo := ⟨47, [.tup [.tup [.int 4, .int 3, .int 5], .tup [.tup [.tup [.int 0, .int 1], .tup [.tup [.tup [.int 1, .int 0], .int 1], .tup [.tup [.int 2, .int 1], .int 1]]], .tup [.tup [.int 1, .int 1], .tup [.tup [.tup [.int 2, .int 0], .int 1]]]], .tup [.tup [.int 0, .int 0], .tup [.int 1, .int 0]]]], ⟨[.lst [.bl true, .tup [.int 1], .non, .bl true, .tup []], .lst [.bl true, .tup [.int 1], .non, .bl true, .tup []], .lst [.int 1, .bl false, .tup [.int 0, .int 0]], .lst [.int 1, .bl false, .tup [.int 0, .int 0]], .lst [.tup [.tup [.int 0, .int 0]], .tup [.tup [.int 1, .int 0]]], .lst [.tup [.int 0, .int 0]], .lst [.bl true, .non, .non, .non], .lst [.bl true, .non, .non, .non], .lst [.bl false, .int 1, .tup [.tup [.int 0, .int 1]], .tup [.int 1, .int 0]], .lst [.bl false, .int 1, .tup [.tup [.int 0, .int 1]], .tup [.int 1, .int 0]]], [5], false⟩, .tup [.int 1, .int 0], ⟨[.lst [.bl true, .tup [.int 1], .non, .bl true, .tup []], .lst [.bl true, .tup [.int 1], .non, .bl true, .tup []], .lst [.int 1, .bl false, .tup [.int 0, .int 0]], .lst [.int 1, .bl false, .tup [.int 0, .int 0]], .lst [.tup [.tup [.int 0, .int 0]], .tup [.tup [.int 1, .int 0]]], .lst [.tup [.int 0, .int 0]], .lst [.bl true, .non, .non, .non], .lst [.bl true, .non, .non, .non], .lst [.bl false, .int 1, .tup [.tup [.int 0, .int 1]], .tup [.int 1, .int 0]], .lst [.bl false, .int 1, .tup [.tup [.int 0, .int 1]], .tup [.int 1, .int 0]]], [5], false⟩⟩
theorem v35 : m35.Ok (tabF bs 19) := by
  unfold Mo.Ok
  kernel_rfl
def m36 : Mo := ⟨36, [.tup [.tup [.int 4, .int 3, .int 5], .tup [.tup [.tup [.int 0, .int 1], .tup [.tup [.tup [.int 1, .int 0], .int 1], .tup [.tup [.int 2, .int 1], .int 1]]], .tup [.tup [.int 1, .int 1], .tup [.tup [.tup [.int 2, .int 0], .int 1]]]], .tup [.tup [.int 0, .int 0], .tup [.int 1, .int 0]]]], ⟨[.lst [.bl true, .tup [.int 1], .non, .bl true, .tup []], .lst [.bl true, .tup [.int 1], .non, .bl true, .tup []], .lst [.int 1, .bl false, .tup [.int 0, .int 0]], .lst [.int 1, .bl false, .tup [.int 0, .int 0]], .lst [.tup [.tup [.int 0, .int 0]], .tup [.tup [.int 1, .int 0]]], .lst [.tup [.int 0, .int 0]], .lst [.bl true, .non, .non, .non], .lst [.bl true, .non, .non, .non], .lst [.bl false, .int 1, .tup [.tup [.int 0, .int 1]], .tup [.int 1, .int 0]], .lst [.bl false, .int 1, .tup [.tup [.int 0, .int 1]], .tup [.int 1, .int 0]], .lst [.int 6, .tup [.tup [.int 0, .int 1], .tup [.int 1, .int 0]], .tup [.int 1, .int 0]], .lst [.int 6, .tup [.tup [.int 0, .int 1], .tup [.int 1, .int 0]], .tup [.int 1, .int 0]], .lst [.tup [.tup [.tup [.int 1, .int 1], .tup [.int 2, .int 1], .tup [.int 0, .int 0]], .int 2, .int 1], .tup [.tup [.tup [.int 0, .int 1], .tup [.int 2, .int 0], .tup [.int 1, .int 0]], .int 3, .int 1]]], [5], false⟩, .tup [.tup [.tup [.int 0, .int 1], .tup [.int 2, .int 0], .tup [.int 1, .int 0]], .int 3, .int 1], ⟨[.lst [.bl true, .tup [.int 1], .non, .bl true, .tup []], .lst [.bl true, .tup [.int 1], .non, .bl true, .tup []], .lst [.int 1, .bl false, .tup [.int 0, .int 0]], .lst [.int 1, .bl false, .tup [.int 0, .int 0]], .lst [.tup [.tup [.int 0, .int 0]], .tup [.tup [.int 1, .int 0]]], .lst [.tup [.int 0, .int 0]], .lst [.bl true, .non, .non, .non], .lst [.bl true, .non, .non, .non], .lst [.bl false, .int 1, .tup [.tup [.int 0, .int 1]], .tup [.int 1, .int 0]], .lst [.bl false, .int 1, .tup [.tup [.int 0, .int 1]], .tup [.int 1, .int 0]], .lst [.int 6, .tup [.tup [.int 0, .int 1], .tup [.int 1, .int 0]], .tup [.int 1, .int 0]], .lst [.int 6, .tup [.tup [.int 0, .int 1], .tup [.int 1, .int 0]], .tup [.int 1, .int 0]], .lst [.tup [.tup [.tup [.int 1, .int 1], .tup [.int 2, .int 1], .tup [.int 0, .int 0]], .int 2, .int 1], .tup [.tup [.tup [.int 0, .int 1], .tup [.int 2, .int 0], .tup [.int 1, .int 0]], .int 3, .int 1]]], [5], false⟩⟩
theorem v36 : m36.Ok (tabF bs 19) := by
  unfold Mo.Ok
  kernel_rfl
def m37 : Mo := ⟨19, [.tup [.tup [.int 4, .int 3, .int 5], .tup [.tup [.tup [.int 0, .int 1], .tup [.tup [.tup [.int 1, .int 0], .int 1], .tup [.tup [.int 2, .int 1], .int 1]]], .tup [.tup [.int 1, .int 1], .tup [.tup [.tup [.int 2, .int 0], .int 1]]]], .tup [.tup [.int 0, .int 0], .tup [.int 1, .int 0]]], .tup []], ⟨[.lst [.bl true, .tup [.int 1], .non, .bl true, .tup []], .lst [.bl true, .tup [.int 1], .non, .bl true, .tup []], .lst [.int 1, .bl false, .tup [.int 0, .int 0]], .lst [.int 1, .bl false, .tup [.int 0, .int 0]], .lst [.tup [.tup [.int 0, .int 0]], .tup [.tup [.int 1, .int 0]]], .lst [.tup [.int 0, .int 0]], .lst [.bl true, .non, .non, .non], .lst [.bl true, .non, .non, .non], .lst [.bl false, .int 1, .tup [.tup [.int 0, .int 1]], .tup [.int 1, .int 0]], .lst [.bl false, .int 1, .tup [.tup [.int 0, .int 1]], .tup [.int 1, .int 0]], .lst [.int 6, .tup [.tup [.int 0, .int 1], .tup [.int 1, .int 0]], .tup [.int 1, .int 0]], .lst [.int 6, .tup [.tup [.int 0, .int 1], .tup [.int 1, .int 0]], .tup [.int 1, .int 0]], .lst [.tup [.tup [.tup [.int 1, .int 1], .tup [.int 2, .int 1], .tup [.int 0, .int 0]], .int 2, .int 1], .tup [.tup [.tup [.int 0, .int 1], .tup [.int 2, .int 0], .tup [.int 1, .int 0]], .int 3, .int 1]]], [5], false⟩, .tup [.int 0, .int 0, .int 0], ⟨[.lst [.bl true, .tup [.int 1], .non, .bl true, .tup []], .lst [.bl true, .tup [.int 1], .non, .bl true, .tup []], .lst [.int 1, .bl false, .tup [.int 0, .int 0]], .lst [.int 1, .bl false, .tup [.int 0, .int 0]], .lst [.tup [.tup [.int 0, .int 0]], .tup [.tup [.int 1, .int 0]]], .lst [.tup [.int 0, .int 0]], .lst [.bl true, .non, .non, .non], .lst [.bl true, .non, .non, .non], .lst [.bl false, .int 1, .tup [.tup [.int 0, .int 1]], .tup [.int 1, .int 0]], .lst [.bl false, .int 1, .tup [.tup [.int 0, .int 1]], .tup [.int 1, .int 0]], .lst [.int 6, .tup [.tup [.int 0, .int 1], .tup [.int 1, .int 0]], .tup [.int 1, .int 0]], .lst [.int 6, .tup [.tup [.int 0, .int 1], .tup [.int 1, .int 0]], .tup [.int 1, .int 0]], .lst [.tup [.tup [.tup [.int 1, .int 1], .tup [.int 2, .int 1], .tup [.int 0, .int 0]], .int 2, .int 1], .tup [.tup [.tup [.int 0, .int 1], .tup [.int 2, .int 0], .tup [.int 1, .int 0]], .int 3, .int 1]]], [5], false⟩⟩
theorem v37 : m37.Ok (tabF bs 19) := by
  unfold Mo.Ok
  kernel_rfl
def g38 : List Mo := m15 :: m16 :: m17 :: m18 :: m19 :: m20 :: m21 :: m22 :: m23 :: m24 :: m25 :: m26 :: m27 :: m28 :: m29 :: m30 :: m31 :: m32 :: m33 :: m34 :: m35 :: m36 :: m37 :: []
theorem h38 : ∀ e ∈ g38, e.Ok (tabF bs 19) := mo_cons v15 (mo_cons v16 (mo_cons v17 (mo_cons v18 (mo_cons v19 (mo_cons v20 (mo_cons v21 (mo_cons v22 (mo_cons v23 (mo_cons v24 (mo_cons v25 (mo_cons v26 (mo_cons v27 (mo_cons v28 (mo_cons v29 (mo_cons v30 (mo_cons v31 (mo_cons v32 (mo_cons v33 (mo_cons v34 (mo_cons v35 (mo_cons v36 (mo_cons v37 (mo_nil)))))))))))))))))))))))
def m39 : Mo := ⟨52, [], ⟨[.lst [.bl true, .tup [.int 1], .non, .bl true, .tup []], .lst [.bl true, .tup [.int 1], .non, .bl true, .tup []], .lst [.int 1, .bl false, .tup [.int 0, .int 0]], .lst [.int 1, .bl false, .tup [.int 0, .int 0]], .lst [.tup [.tup [.int 0, .int 0]], .tup [.tup [.int 1, .int 0]]]], [], false⟩, .bl true, ⟨[.lst [.bl true, .tup [.int 1], .non, .bl true, .tup []], .lst [.bl true, .tup [.int 1], .non, .bl true, .tup []], .lst [.int 1, .bl false, .tup [.int 0, .int 0]], .lst [.int 1, .bl false, .tup [.int 0, .int 0]], .lst [.tup [.tup [.int 0, .int 0]], .tup [.tup [.int 1, .int 0]]]], [], false⟩⟩
theorem v39 : m39.Ok (tabF bs 20) := by
  unfold Mo.Ok
  rw [show m39.i = 52 from rfl, show tabF bs 20 52 = fnSem b52.n b52.ar (svs (tabF bs 19) b52.b) from tab_at (k := 19) rfl, ← memoF_eq (F := tabF bs 19) (es := g38) h38]
  kernel_rfl
def g40 : List Mo := m0 :: m1 :: m2 :: m3 :: m4 :: m5 :: m6 :: m7 :: m8 :: m9 :: m10 :: m11 :: m12 :: m13 :: m14 :: m39 :: []
theorem h40 : ∀ e ∈ g40, e.Ok (tabF bs 20) := mo_cons v0 (mo_cons v1 (mo_cons v2 (mo_cons v3 (mo_cons v4 (mo_cons v5 (mo_cons v6 (mo_cons v7 (mo_cons v8 (mo_cons v9 (mo_cons v10 (mo_cons v11 (mo_cons v12 (mo_cons v13 (mo_cons v14 (mo_cons v39 (mo_nil))))))))))))))))
theorem ev : isRT (svs (tabF bs 20) b53.b (List.replicate d53.N.length none) ⟨[], [], false⟩) = true := by
  rw [← memoF_eq (F := tabF bs 20) (es := g40) h40]
  kernel_rfl
end K22


namespace K22
open PySem PySem.Spec PyProof.Rows L2 Sw
section
variable {P : Program} {w : World} {K : PySem.W.Frag} {h : Heap} {mg : Str → Option Value}
theorem q0 (X : K.In h) (G : h.Ns mainGlobals mg) (c : He.SaysD fa fn K) : DfOk K mg fs cs 60 d0 b0 := by
  obtain ⟨fd, F⟩ := c.def_ 0 (d := e0) rfl
  exact o0 ⟨_, fd, F, He.glo_ok X G (c.fact 0 (f := .glo "is_integer") rfl)⟩
theorem q1 (X : K.In h) (G : h.Ns mainGlobals mg) (c : He.SaysD fa fn K) : DfOk K mg fs cs 60 d1 b1 := by
  obtain ⟨fd, F⟩ := c.def_ 1 (d := e1) rfl
  exact o1 ⟨_, fd, F, He.glo_ok X G (c.fact 1 (f := .glo "are_lengths") rfl)⟩
theorem q2 (X : K.In h) (G : h.Ns mainGlobals mg) (c : He.SaysD fa fn K) : DfOk K mg fs cs 60 d2 b2 := by
  obtain ⟨fd, F⟩ := c.def_ 2 (d := e2) rfl
  exact o2 ⟨_, fd, F, He.glo_ok X G (c.fact 2 (f := .glo "is_pair_to") rfl)⟩
theorem q3 (X : K.In h) (G : h.Ns mainGlobals mg) (c : He.SaysD fa fn K) : DfOk K mg fs cs 60 d3 b3 := by
  obtain ⟨fd, F⟩ := c.def_ 3 (d := e3) rfl
  exact o3 ⟨_, fd, F, He.glo_ok X G (c.fact 3 (f := .glo "is_branch") rfl)⟩
theorem q4 (X : K.In h) (G : h.Ns mainGlobals mg) (c : He.SaysD fa fn K) : DfOk K mg fs cs 60 d4 b4 := by
  obtain ⟨fd, F⟩ := c.def_ 4 (d := e4) rfl
  exact o4 ⟨_, fd, F, He.glo_ok X G (c.fact 4 (f := .glo "is_joint") rfl)⟩
theorem q5 (X : K.In h) (G : h.Ns mainGlobals mg) (c : He.SaysD fa fn K) : DfOk K mg fs cs 60 d5 b5 := by
  obtain ⟨fd, F⟩ := c.def_ 5 (d := e5) rfl
  exact o5 ⟨_, fd, F, He.glo_ok X G (c.fact 5 (f := .glo "all_ends") rfl)⟩
theorem q6 (X : K.In h) (G : h.Ns mainGlobals mg) (c : He.SaysD fa fn K) : DfOk K mg fs cs 60 d6 b6 := by
  obtain ⟨fd, F⟩ := c.def_ 6 (d := e6) rfl
  exact o6 ⟨_, fd, F, He.glo_ok X G (c.fact 6 (f := .glo "are_feeds") rfl)⟩
theorem q7 (X : K.In h) (G : h.Ns mainGlobals mg) (c : He.SaysD fa fn K) : DfOk K mg fs cs 60 d7 b7 := by
  obtain ⟨fd, F⟩ := c.def_ 7 (d := e7) rfl
  exact o7 ⟨_, fd, F, He.glo_ok X G (c.fact 7 (f := .glo "wrong_joint") rfl)⟩
theorem q8 (X : K.In h) (G : h.Ns mainGlobals mg) (c : He.SaysD fa fn K) : DfOk K mg fs cs 60 d8 b8 := by
  obtain ⟨fd, F⟩ := c.def_ 8 (d := e8) rfl
  exact o8 ⟨_, fd, F, He.glo_ok X G (c.fact 8 (f := .glo "need_layout") rfl)⟩
theorem q9 (X : K.In h) (G : h.Ns mainGlobals mg) (c : He.SaysD fa fn K) : DfOk K mg fs cs 60 d9 b9 := by
  obtain ⟨fd, F⟩ := c.def_ 9 (d := e9) rfl
  exact o9 ⟨_, fd, F, He.glo_ok X G (c.fact 9 (f := .glo "links_of") rfl)⟩
theorem q10 (X : K.In h) (G : h.Ns mainGlobals mg) (c : He.SaysD fa fn K) : DfOk K mg fs cs 60 d10 b10 := by
  obtain ⟨fd, F⟩ := c.def_ 10 (d := e10) rfl
  exact o10 ⟨_, fd, F, He.glo_ok X G (c.fact 10 (f := .glo "is_link") rfl)⟩
theorem q11 (X : K.In h) (G : h.Ns mainGlobals mg) (c : He.SaysD fa fn K) : DfOk K mg fs cs 60 d11 b11 := by
  obtain ⟨fd, F⟩ := c.def_ 11 (d := e11) rfl
  exact o11 ⟨_, fd, F, He.glo_ok X G (c.fact 11 (f := .glo "ends_in") rfl)⟩
theorem q12 (X : K.In h) (G : h.Ns mainGlobals mg) (c : He.SaysD fa fn K) : DfOk K mg fs cs 60 d12 b12 := by
  obtain ⟨fd, F⟩ := c.def_ 12 (d := e12) rfl
  exact o12 ⟨_, fd, F, He.glo_ok X G (c.fact 12 (f := .glo "is_cut_in") rfl)⟩
theorem q13 (X : K.In h) (G : h.Ns mainGlobals mg) (c : He.SaysD fa fn K) : DfOk K mg fs cs 60 d13 b13 := by
  obtain ⟨fd, F⟩ := c.def_ 13 (d := e13) rfl
  exact o13 ⟨_, fd, F, He.glo_ok X G (c.fact 13 (f := .glo "crossing") rfl)⟩
theorem q14 (X : K.In h) (G : h.Ns mainGlobals mg) (c : He.SaysD fa fn K) : DfOk K mg fs cs 60 d14 b14 := by
  obtain ⟨fd, F⟩ := c.def_ 14 (d := e14) rfl
  exact o14 ⟨_, fd, F, He.glo_ok X G (c.fact 14 (f := .glo "link_between") rfl)⟩
theorem q15 (X : K.In h) (G : h.Ns mainGlobals mg) (c : He.SaysD fa fn K) : DfOk K mg fs cs 60 d15 b15 := by
  obtain ⟨fd, F⟩ := c.def_ 15 (d := e15) rfl
  exact o15 ⟨_, fd, F, He.glo_ok X G (c.fact 15 (f := .glo "need_span") rfl)⟩
theorem q16 (X : K.In h) (G : h.Ns mainGlobals mg) (c : He.SaysD fa fn K) : DfOk K mg fs cs 60 d16 b16 := by
  obtain ⟨fd, F⟩ := c.def_ 16 (d := e16) rfl
  exact o16 ⟨_, fd, F, He.glo_ok X G (c.fact 16 (f := .glo "ties_in") rfl)⟩
theorem q17 (X : K.In h) (G : h.Ns mainGlobals mg) (c : He.SaysD fa fn K) : DfOk K mg fs cs 60 d17 b17 := by
  obtain ⟨fd, F⟩ := c.def_ 17 (d := e17) rfl
  exact o17 ⟨_, fd, F, He.glo_ok X G (c.fact 17 (f := .glo "spread") rfl)⟩
theorem q18 (X : K.In h) (G : h.Ns mainGlobals mg) (c : He.SaysD fa fn K) : DfOk K mg fs cs 60 d18 b18 := by
  obtain ⟨fd, F⟩ := c.def_ 18 (d := e18) rfl
  exact o18 ⟨_, fd, F, He.glo_ok X G (c.fact 18 (f := .glo "signs_in") rfl)⟩
theorem q19 (X : K.In h) (G : h.Ns mainGlobals mg) (c : He.SaysD fa fn K) : DfOk K mg fs cs 60 d19 b19 := by
  obtain ⟨fd, F⟩ := c.def_ 19 (d := e19) rfl
  exact o19 ⟨_, fd, F, He.glo_ok X G (c.fact 19 (f := .glo "signs") rfl)⟩
theorem q20 (X : K.In h) (G : h.Ns mainGlobals mg) (c : He.SaysD fa fn K) : DfOk K mg fs cs 60 d20 b20 := by
  obtain ⟨fd, F⟩ := c.def_ 20 (d := e20) rfl
  exact o20 ⟨_, fd, F, He.glo_ok X G (c.fact 20 (f := .glo "is_sound") rfl)⟩
theorem q21 (X : K.In h) (G : h.Ns mainGlobals mg) (c : He.SaysD fa fn K) : DfOk K mg fs cs 60 d21 b21 := by
  obtain ⟨fd, F⟩ := c.def_ 21 (d := e21) rfl
  exact o21 ⟨_, fd, F, He.glo_ok X G (c.fact 21 (f := .glo "walk_from") rfl)⟩
theorem q22 (X : K.In h) (G : h.Ns mainGlobals mg) (c : He.SaysD fa fn K) : DfOk K mg fs cs 60 d22 b22 := by
  obtain ⟨fd, F⟩ := c.def_ 22 (d := e22) rfl
  exact o22 ⟨_, fd, F, He.glo_ok X G (c.fact 22 (f := .glo "walk_in") rfl)⟩
theorem q23 (X : K.In h) (G : h.Ns mainGlobals mg) (c : He.SaysD fa fn K) : DfOk K mg fs cs 60 d23 b23 := by
  obtain ⟨fd, F⟩ := c.def_ 23 (d := e23) rfl
  exact o23 ⟨_, fd, F, He.glo_ok X G (c.fact 23 (f := .glo "odd_walk") rfl)⟩
theorem q24 (X : K.In h) (G : h.Ns mainGlobals mg) (c : He.SaysD fa fn K) : DfOk K mg fs cs 60 d24 b24 := by
  obtain ⟨fd, F⟩ := c.def_ 24 (d := e24) rfl
  exact o24 ⟨_, fd, F, He.glo_ok X G (c.fact 24 (f := .glo "links_along") rfl)⟩
theorem q25 (X : K.In h) (G : h.Ns mainGlobals mg) (c : He.SaysD fa fn K) : DfOk K mg fs cs 60 d25 b25 := by
  obtain ⟨fd, F⟩ := c.def_ 25 (d := e25) rfl
  exact o25 ⟨_, fd, F, He.glo_ok X G (c.fact 25 (f := .glo "is_route") rfl)⟩
theorem q26 (X : K.In h) (G : h.Ns mainGlobals mg) (c : He.SaysD fa fn K) : DfOk K mg fs cs 60 d26 b26 := by
  obtain ⟨fd, F⟩ := c.def_ 26 (d := e26) rfl
  exact o26 ⟨_, fd, F, He.glo_ok X G (c.fact 26 (f := .glo "is_stand_in") rfl)⟩
theorem q27 (X : K.In h) (G : h.Ns mainGlobals mg) (c : He.SaysD fa fn K) : DfOk K mg fs cs 60 d27 b27 := by
  obtain ⟨fd, F⟩ := c.def_ 27 (d := e27) rfl
  exact o27 ⟨_, fd, F, He.glo_ok X G (c.fact 27 (f := .glo "is_stand") rfl)⟩
theorem q28 (X : K.In h) (G : h.Ns mainGlobals mg) (c : He.SaysD fa fn K) : DfOk K mg fs cs 60 d28 b28 := by
  obtain ⟨fd, F⟩ := c.def_ 28 (d := e28) rfl
  exact o28 ⟨_, fd, F, He.glo_ok X G (c.fact 28 (f := .glo "need_stand") rfl)⟩
theorem q29 (X : K.In h) (G : h.Ns mainGlobals mg) (c : He.SaysD fa fn K) : DfOk K mg fs cs 60 d29 b29 := by
  obtain ⟨fd, F⟩ := c.def_ 29 (d := e29) rfl
  exact o29 ⟨_, fd, F, He.glo_ok X G (c.fact 29 (f := .glo "cells_in") rfl)⟩
theorem q30 (X : K.In h) (G : h.Ns mainGlobals mg) (c : He.SaysD fa fn K) : DfOk K mg fs cs 60 d30 b30 := by
  obtain ⟨fd, F⟩ := c.def_ 30 (d := e30) rfl
  exact o30 ⟨_, fd, F, He.glo_ok X G (c.fact 30 (f := .glo "length_of") rfl)⟩
theorem q31 (X : K.In h) (G : h.Ns mainGlobals mg) (c : He.SaysD fa fn K) : DfOk K mg fs cs 60 d31 b31 := by
  obtain ⟨fd, F⟩ := c.def_ 31 (d := e31) rfl
  exact o31 ⟨_, fd, F, He.glo_ok X G (c.fact 31 (f := .glo "need_sound") rfl)⟩
theorem q32 (X : K.In h) (G : h.Ns mainGlobals mg) (c : He.SaysD fa fn K) : DfOk K mg fs cs 60 d32 b32 := by
  obtain ⟨fd, F⟩ := c.def_ 32 (d := e32) rfl
  exact o32 ⟨_, fd, F, He.glo_ok X G (c.fact 32 (f := .glo "next_pairs") rfl)⟩
theorem q33 (X : K.In h) (G : h.Ns mainGlobals mg) (c : He.SaysD fa fn K) : DfOk K mg fs cs 60 d33 b33 := by
  obtain ⟨fd, F⟩ := c.def_ 33 (d := e33) rfl
  exact o33 ⟨_, fd, F, He.glo_ok X G (c.fact 33 (f := .glo "cost_of") rfl)⟩
theorem q34 (X : K.In h) (G : h.Ns mainGlobals mg) (c : He.SaysD fa fn K) : DfOk K mg fs cs 60 d34 b34 := by
  obtain ⟨fd, F⟩ := c.def_ 34 (d := e34) rfl
  exact o34 ⟨_, fd, F, He.glo_ok X G (c.fact 34 (f := .glo "routes_from") rfl)⟩
theorem q35 (X : K.In h) (G : h.Ns mainGlobals mg) (c : He.SaysD fa fn K) : DfOk K mg fs cs 60 d35 b35 := by
  obtain ⟨fd, F⟩ := c.def_ 35 (d := e35) rfl
  exact o35 ⟨_, fd, F, He.glo_ok X G (c.fact 35 (f := .glo "least_bad_in") rfl)⟩
theorem q36 (X : K.In h) (G : h.Ns mainGlobals mg) (c : He.SaysD fa fn K) : DfOk K mg fs cs 60 d36 b36 := by
  obtain ⟨fd, F⟩ := c.def_ 36 (d := e36) rfl
  exact o36 ⟨_, fd, F, He.glo_ok X G (c.fact 36 (f := .glo "least_bad") rfl)⟩
theorem q37 (X : K.In h) (G : h.Ns mainGlobals mg) (c : He.SaysD fa fn K) : DfOk K mg fs cs 60 d37 b37 := by
  obtain ⟨fd, F⟩ := c.def_ 37 (d := e37) rfl
  exact o37 ⟨_, fd, F, He.glo_ok X G (c.fact 37 (f := .glo "limit") rfl)⟩
theorem q38 (X : K.In h) (G : h.Ns mainGlobals mg) (c : He.SaysD fa fn K) : DfOk K mg fs cs 60 d38 b38 := by
  obtain ⟨fd, F⟩ := c.def_ 38 (d := e38) rfl
  exact o38 ⟨_, fd, F, He.glo_ok X G (c.fact 38 (f := .glo "are_cuts") rfl)⟩
theorem q39 (X : K.In h) (G : h.Ns mainGlobals mg) (c : He.SaysD fa fn K) : DfOk K mg fs cs 60 d39 b39 := by
  obtain ⟨fd, F⟩ := c.def_ 39 (d := e39) rfl
  exact o39 ⟨_, fd, F, He.glo_ok X G (c.fact 39 (f := .glo "cut_by") rfl)⟩
theorem q40 (X : K.In h) (G : h.Ns mainGlobals mg) (c : He.SaysD fa fn K) : DfOk K mg fs cs 60 d40 b40 := by
  obtain ⟨fd, F⟩ := c.def_ 40 (d := e40) rfl
  exact o40 ⟨_, fd, F, He.glo_ok X G (c.fact 40 (f := .glo "with_cuts") rfl)⟩
theorem q41 (X : K.In h) (G : h.Ns mainGlobals mg) (c : He.SaysD fa fn K) : DfOk K mg fs cs 60 d41 b41 := by
  obtain ⟨fd, F⟩ := c.def_ 41 (d := e41) rfl
  exact o41 ⟨_, fd, F, He.glo_ok X G (c.fact 41 (f := .glo "one_longer") rfl)⟩
theorem q42 (X : K.In h) (G : h.Ns mainGlobals mg) (c : He.SaysD fa fn K) : DfOk K mg fs cs 60 d42 b42 := by
  obtain ⟨fd, F⟩ := c.def_ 42 (d := e42) rfl
  exact o42 ⟨_, fd, F, He.glo_ok X G (c.fact 42 (f := .glo "least_cuts") rfl)⟩
theorem q43 (X : K.In h) (G : h.Ns mainGlobals mg) (c : He.SaysD fa fn K) : DfOk K mg fs cs 60 d43 b43 := by
  obtain ⟨fd, F⟩ := c.def_ 43 (d := e43) rfl
  exact o43 ⟨_, fd, F, He.glo_ok X G (c.fact 43 (f := .glo "settings_in") rfl)⟩
theorem q44 (X : K.In h) (G : h.Ns mainGlobals mg) (c : He.SaysD fa fn K) : DfOk K mg fs cs 60 d44 b44 := by
  obtain ⟨fd, F⟩ := c.def_ 44 (d := e44) rfl
  exact o44 ⟨_, fd, F, He.glo_ok X G (c.fact 44 (f := .glo "chosen_in") rfl)⟩
theorem q45 (X : K.In h) (G : h.Ns mainGlobals mg) (c : He.SaysD fa fn K) : DfOk K mg fs cs 60 d45 b45 := by
  obtain ⟨fd, F⟩ := c.def_ 45 (d := e45) rfl
  exact o45 ⟨_, fd, F, He.glo_ok X G (c.fact 45 (f := .glo "bad_setting_in") rfl)⟩
theorem q46 (X : K.In h) (G : h.Ns mainGlobals mg) (c : He.SaysD fa fn K) : DfOk K mg fs cs 60 d46 b46 := by
  obtain ⟨fd, F⟩ := c.def_ 46 (d := e46) rfl
  exact o46 ⟨_, fd, F, He.glo_ok X G (c.fact 46 (f := .glo "is_free") rfl)⟩
theorem q47 (X : K.In h) (G : h.Ns mainGlobals mg) (c : He.SaysD fa fn K) : DfOk K mg fs cs 60 d47 b47 := by
  obtain ⟨fd, F⟩ := c.def_ 47 (d := e47) rfl
  exact o47 ⟨_, fd, F, He.glo_ok X G (c.fact 47 (f := .glo "bad_setting") rfl)⟩
theorem q48 (X : K.In h) (G : h.Ns mainGlobals mg) (c : He.SaysD fa fn K) : DfOk K mg fs cs 60 d48 b48 := by
  obtain ⟨fd, F⟩ := c.def_ 48 (d := e48) rfl
  exact o48 ⟨_, fd, F, He.glo_ok X G (c.fact 48 (f := .glo "crowds_in") rfl)⟩
theorem q49 (X : K.In h) (G : h.Ns mainGlobals mg) (c : He.SaysD fa fn K) : DfOk K mg fs cs 60 d49 b49 := by
  obtain ⟨fd, F⟩ := c.def_ 49 (d := e49) rfl
  exact o49 ⟨_, fd, F, He.glo_ok X G (c.fact 49 (f := .glo "crowd_in") rfl)⟩
theorem q50 (X : K.In h) (G : h.Ns mainGlobals mg) (c : He.SaysD fa fn K) : DfOk K mg fs cs 60 d50 b50 := by
  obtain ⟨fd, F⟩ := c.def_ 50 (d := e50) rfl
  exact o50 ⟨_, fd, F, He.glo_ok X G (c.fact 50 (f := .glo "crowd") rfl)⟩
theorem q51 (X : K.In h) (G : h.Ns mainGlobals mg) (c : He.SaysD fa fn K) : DfOk K mg fs cs 60 d51 b51 := by
  obtain ⟨fd, F⟩ := c.def_ 51 (d := e51) rfl
  exact o51 ⟨_, fd, F, He.glo_ok X G (c.fact 51 (f := .glo "_law_balloon") rfl)⟩
theorem q52 (X : K.In h) (G : h.Ns mainGlobals mg) (c : He.SaysD fa fn K) : DfOk K mg fs cs 60 d52 b52 := by
  obtain ⟨fd, F⟩ := c.def_ 52 (d := e52) rfl
  exact o52 ⟨_, fd, F, He.glo_ok X G (c.fact 52 (f := .glo "_law_loops_right") rfl)⟩
theorem q53 (X : K.In h) (G : h.Ns mainGlobals mg) (c : He.SaysD fa fn K) : DfOk K mg fs cs 60 d53 b53 := by
  obtain ⟨fd, F⟩ := c.def_ 53 (d := e53) rfl
  exact o53 ⟨_, fd, F, He.glo_ok X G (c.fact 53 (f := .glo "law") rfl)⟩
theorem all (X : K.In h) (G : h.Ns mainGlobals mg) (c : He.SaysD fa fn K) : AllOk K mg fs cs 60 fs bs := .cons (d := d0) (b := b0) (q0 X G c) (.cons (d := d1) (b := b1) (q1 X G c) (.cons (d := d2) (b := b2) (q2 X G c) (.cons (d := d3) (b := b3) (q3 X G c) (.cons (d := d4) (b := b4) (q4 X G c) (.cons (d := d5) (b := b5) (q5 X G c) (.cons (d := d6) (b := b6) (q6 X G c) (.cons (d := d7) (b := b7) (q7 X G c) (.cons (d := d8) (b := b8) (q8 X G c) (.cons (d := d9) (b := b9) (q9 X G c) (.cons (d := d10) (b := b10) (q10 X G c) (.cons (d := d11) (b := b11) (q11 X G c) (.cons (d := d12) (b := b12) (q12 X G c) (.cons (d := d13) (b := b13) (q13 X G c) (.cons (d := d14) (b := b14) (q14 X G c) (.cons (d := d15) (b := b15) (q15 X G c) (.cons (d := d16) (b := b16) (q16 X G c) (.cons (d := d17) (b := b17) (q17 X G c) (.cons (d := d18) (b := b18) (q18 X G c) (.cons (d := d19) (b := b19) (q19 X G c) (.cons (d := d20) (b := b20) (q20 X G c) (.cons (d := d21) (b := b21) (q21 X G c) (.cons (d := d22) (b := b22) (q22 X G c) (.cons (d := d23) (b := b23) (q23 X G c) (.cons (d := d24) (b := b24) (q24 X G c) (.cons (d := d25) (b := b25) (q25 X G c) (.cons (d := d26) (b := b26) (q26 X G c) (.cons (d := d27) (b := b27) (q27 X G c) (.cons (d := d28) (b := b28) (q28 X G c) (.cons (d := d29) (b := b29) (q29 X G c) (.cons (d := d30) (b := b30) (q30 X G c) (.cons (d := d31) (b := b31) (q31 X G c) (.cons (d := d32) (b := b32) (q32 X G c) (.cons (d := d33) (b := b33) (q33 X G c) (.cons (d := d34) (b := b34) (q34 X G c) (.cons (d := d35) (b := b35) (q35 X G c) (.cons (d := d36) (b := b36) (q36 X G c) (.cons (d := d37) (b := b37) (q37 X G c) (.cons (d := d38) (b := b38) (q38 X G c) (.cons (d := d39) (b := b39) (q39 X G c) (.cons (d := d40) (b := b40) (q40 X G c) (.cons (d := d41) (b := b41) (q41 X G c) (.cons (d := d42) (b := b42) (q42 X G c) (.cons (d := d43) (b := b43) (q43 X G c) (.cons (d := d44) (b := b44) (q44 X G c) (.cons (d := d45) (b := b45) (q45 X G c) (.cons (d := d46) (b := b46) (q46 X G c) (.cons (d := d47) (b := b47) (q47 X G c) (.cons (d := d48) (b := b48) (q48 X G c) (.cons (d := d49) (b := b49) (q49 X G c) (.cons (d := d50) (b := b50) (q50 X G c) (.cons (d := d51) (b := b51) (q51 X G c) (.cons (d := d52) (b := b52) (q52 X G c) (.cons (d := d53) (b := b53) (q53 X G c) (.nil))))))))))))))))))))))))))))))))))))))))))))))))))))))
theorem home (X : K.In h) (G : h.Ns mainGlobals mg) (c : He.SaysD fa fn K) : Home mg cs :=
  ⟨con_cons (con_int (He.int_ok X G (c.fact 71 (f := .int "MOST_PIECES" 10) rfl))) (con_cons (con_int (He.int_ok X G (c.fact 72 (f := .int "LEAST_CELLS" 2) rfl))) (con_cons (con_int (He.int_ok X G (c.fact 73 (f := .int "MOST_CELLS" 9) rfl))) (con_cons (con_int (He.int_ok X G (c.fact 74 (f := .int "MOST_JOINTS" 10) rfl))) (con_cons (con_int (He.int_ok X G (c.fact 75 (f := .int "MOST_BRANCHES" 3) rfl))) (con_cons (con_int (He.int_ok X G (c.fact 76 (f := .int "POWER" (-1)) rfl))) (con_cons (con_str (He.str_ok X G (c.fact 77 (f := .str "LINK" "link") rfl))) (con_cons (con_str (He.str_ok X G (c.fact 78 (f := .str "FEED" "feed") rfl))) (con_nil)))))))),
    List.forall_mem_cons.mpr ⟨He.free_ok X G (c.fact 54 (f := .free "len") rfl), List.forall_mem_cons.mpr ⟨He.free_ok X G (c.fact 55 (f := .free "int") rfl), List.forall_mem_cons.mpr ⟨He.free_ok X G (c.fact 56 (f := .free "min") rfl), List.forall_mem_cons.mpr ⟨He.free_ok X G (c.fact 57 (f := .free "max") rfl), List.forall_mem_cons.mpr ⟨He.free_ok X G (c.fact 58 (f := .free "all") rfl), List.forall_mem_cons.mpr ⟨He.free_ok X G (c.fact 59 (f := .free "any") rfl), List.forall_mem_cons.mpr ⟨He.free_ok X G (c.fact 60 (f := .free "sum") rfl), List.forall_mem_cons.mpr ⟨He.free_ok X G (c.fact 61 (f := .free "tuple") rfl), List.forall_mem_cons.mpr ⟨He.free_ok X G (c.fact 62 (f := .free "list") rfl), List.forall_mem_cons.mpr ⟨He.free_ok X G (c.fact 63 (f := .free "isinstance") rfl), List.forall_mem_cons.mpr ⟨He.free_ok X G (c.fact 64 (f := .free "bool") rfl), List.forall_mem_cons.mpr ⟨He.free_ok X G (c.fact 65 (f := .free "str") rfl), List.forall_mem_cons.mpr ⟨He.free_ok X G (c.fact 66 (f := .free "dict") rfl), List.forall_mem_cons.mpr ⟨He.free_ok X G (c.fact 67 (f := .free "range") rfl), List.forall_mem_cons.mpr ⟨He.free_ok X G (c.fact 68 (f := .free "enumerate") rfl), List.forall_mem_cons.mpr ⟨He.free_ok X G (c.fact 69 (f := .free "zip") rfl), List.forall_mem_cons.mpr ⟨He.free_ok X G (c.fact 70 (f := .free "sorted") rfl), List.forall_mem_nil _⟩⟩⟩⟩⟩⟩⟩⟩⟩⟩⟩⟩⟩⟩⟩⟩⟩⟩
theorem facts {f : Addr} (X : K.In h) (G : h.Ns mainGlobals mg) (hfa : mg ("law" : Str) = some (.ref f)) (c : He.SaysD fa fn K) :
    ∃ fd : FuncData, (∀ (s : Shared) (v : Value), BindsTo s fd ⟨[v], []⟩ [("_law_script", v)]) ∧ ∀ base : Heap, K.In base → base.Ns mainGlobals mg → FnOk P w K mg base CX0 21 f fd ["_law_script"] spG := by
  obtain ⟨fd, F⟩ := c.def_ 53 (d := e53) rfl
  cases hfa.symm.trans (He.glo_ok X G (c.fact 53 (f := .glo "law") rfl))
  have bb := FunD.bindsA (ps := ["_law_script"]) F fun _ _ _ _ _ _ us hl => match us, hl with | [_], _ => rfl
  exact ⟨fd, fun s v => bb s [v] rfl, fun base _ _ => law_ground (d := d53) (b := b53) (k := 20) (all X G c) (home X G c) (q53 X G c) rfl F ev (by decide)⟩
end
end K22
open PySem PySem.W PySem.Calls PyProof.Rows
theorem PySem.Challenge.cw_swaprails_k22_tracks_by_hand_holds : PySem.Challenge.rw_swaprails_k22_tracks_by_hand.Holds := by
  w_on; o_law
  refine HandSHeadRun.head_any (r := OpenLaw.row PySem.Challenge.rw_swaprails_k22_tracks_by_hand) (q := view (OpenLaw.row PySem.Challenge.rw_swaprails_k22_tracks_by_hand).prog [75]) (H := K22.hk) (ob := K22.ob) (M := 4000) (loose := K22.loose) (d := HandSHeadRun.topDef (OpenLaw.row PySem.Challenge.rw_swaprails_k22_tracks_by_hand).prog 75) (kwd := []) K22.ob_eq
    (by kernel_rfl) (fun s => by kernel_rfl) K22.run (by kernel_rfl) (by kernel_rfl) (by kernel_rfl) (by rfl) (by first | assumption | decide +kernel) (by decide +kernel) ⟨rfl, rfl, rfl, rfl, rfl, by decide +kernel⟩ ?hw ?hc
  case hw => w_witness2
  case hc =>
    refine L2.walk_ofE (l := PySem.Challenge.rw_swaprails_k22_tracks_by_hand) (n := 63) (k := 21) (x := "_law_script") (CX := L2.CX0) rfl (by decide) (by kernel_rfl) ⟨rfl, by decide, by decide⟩ ?F (fun _ _ _ _ z => z)
    intro w mg fa h Y G hm0
    obtain ⟨K, KX, c⟩ := Y
    have hm : mg ("law" : PySem.Str) = some (.ref fa) := by
      have e : (HandSHeadRun.topDef (OpenLaw.row PySem.Challenge.rw_swaprails_k22_tracks_by_hand).prog 75).name = ("law" : PySem.Str) := by kernel_rfl
      rw [← e]; exact hm0
    obtain ⟨fd, hb, hF⟩ := K22.facts (P := (PySem.Challenge.rw_swaprails_k22_tracks_by_hand).prog) (w := w) KX G hm c
    exact ⟨K, fd, Sw.spG, KX, hb, fun H a ns hl _ hS => ⟨rfl, fun _ => rfl⟩, hF⟩


