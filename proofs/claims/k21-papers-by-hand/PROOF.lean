import PyProof.Rows.All
import Wide.All
import OpenK.AllK
import Wide.FinOn
import KE.KStateDown
import Lean
import HandS.ForMost
import HandS.HeadHook1
import HandS.HeadHook2
import KE.KExcSuper
import HandS.ExcInit
import HandS.ExcField
import HandS.HeadHook4
import HandS.Base
import HandS.Call
import HandS.Ends
import HandS.More
import HandS.Words
import HandS.WordsExc
import HandS.Defaults
import HandS.Head0
import HandS.Head1
import HandS.Head2
import HandS.HeadEnd
import PySem.Challenge.RW_swaprails_k21_papers_by_hand
import HandS.TupLen
import KE.KeyNested
import KE.KDictKeyed
import KE.KDictDisplayH
import HandS.Conv
import HandS.Flow
import HandS.Zip
import HandS.Star
import HandS.IsInst
import HandS.Style
import KE.DataEq
import HandS.TupAny
import HandS.TupLe
import HandS.Wide
import HandS.Codes
import HandS.TupMul
import HandS.MapSum
import PyProof.Rows.SumGenD
import PyProof.SumAny
import KE.DataMinMax
import HandS.WordsDict
import KE.GoesMore
import KE.GoesEnum
import PyProof.ZipIter
import KE.LtData
import KE.SortData
import KE.DataCmp
import HandS.SetBool
import KE.KDictZip
import HandS.GenList
import KE.KDictPairs
import KE.DataFind
import HandS.TupSets
import HandS.DictComp
import HandS.SortKw
import HandS.Lambda
import HandS.ExcOwn
import HandS.TryOnly
import HandS.EndTab
set_option Elab.async false
set_option linter.all false
set_option maxRecDepth 100000
set_option autoImplicit false
set_option maxHeartbeats 0
/-! Eng0: what a head's hook observes: also that it has no list object. -/
namespace Sw
open PySem PySem.Spec PyProof.Rows L2
def noListO (o : Obj) : Bool := match o.cls with
  | .type c => !decide (c = "list")
  | _ => true
def noLists (K : PySem.W.Frag) : Bool := K.all fun p => noListO p.2
theorem noLists_ok {K : PySem.W.Frag} (h : noLists K = true) {a : Addr} {o : Obj} (e : K.lookup a = some o) : o.cls ≠ .type "list" := fun hc => by
  have hm : (a, o) ∈ K := by
    clear h
    induction K with
    | nil => cases e
    | cons p r ih =>
      obtain ⟨b, u⟩ := p
      rw [List.lookup_cons] at e
      split at e
      · rename_i hb
        cases e
        rw [eq_of_beq hb]
        exact List.mem_cons_self
      · exact List.mem_cons_of_mem _ (ih e)
  have := List.all_eq_true.mp h _ hm
  simp [noListO, hc] at this
theorem noLists_mem {K : PySem.W.Frag} (h : noLists K = true) {a : Addr} {o : Obj} (e : K.lookup a = some o) : noListO o = true := by
  have hm : (a, o) ∈ K := by
    clear h
    induction K with
    | nil => cases e
    | cons p r ih =>
      obtain ⟨b, u⟩ := p
      rw [List.lookup_cons] at e
      split at e
      · rename_i hb
        cases e
        rw [eq_of_beq hb]
        exact List.mem_cons_self
      · exact List.mem_cons_of_mem _ (ih e)
  exact List.all_eq_true.mp h _ hm
def obsN (fa : List He.Fa) (fn : List He.DefD) (K : PySem.W.Frag) : He.AlD × Bool := (He.obsD fa fn K, noLists K)
def obsNG (n : Nat) (fa : List He.Fa) (fn : List He.DefD) (g : Addr → Option Obj) : He.AlD × Bool := obsN fa fn (He.frG g (He.asD g n))
def SaysN (fa : List He.Fa) (fn : List He.DefD) (K : PySem.W.Frag) : Prop := He.SaysD fa fn K ∧ noLists K = true
def hookN (n : Nat) (fa : List He.Fa) (fn : List He.DefD) : PySem.W.Hook where
  α := He.AlD × Bool
  obs := fun s => obsNG n fa fn s.heap.get?
  val := fun _ => (He.valD fn, true)
  says := fun _ h => ∃ K : PySem.W.Frag, K.In h ∧ SaysN fa fn K
  of := fun _ _ e => ⟨_, He.frG_in, congrArg Prod.fst e, congrArg Prod.snd e⟩
  keeps := fun _ _ _ ⟨K, hK, c⟩ k => ⟨K, PySem.W.Frag.In.keeps hK k, c⟩
theorem obsNG_eq {n : Nat} {fa : List He.Fa} {fn : List He.DefD} {g : Addr → Option Obj} {s : Shared} (h : ∀ a, g a = s.heap.get? a) : obsNG n fa fn g = (hookN n fa fn).obs s := by
  have e : g = s.heap.get? := funext h
  rw [e] <;> rfl
/-! ### the looks at a few objects each: a small part of the heap for each name -/
def Sub (K K' : PySem.W.Frag) : Prop := ∀ a o, K.lookup a = some o → K'.lookup a = some o
theorem frG_has {g : Addr → Option Obj} {a : Addr} {o : Obj} (h : g a = some o) : ∀ {as : List Addr}, a ∈ as → (He.frG g as).lookup a = some o
  | [], m => nomatch m
  | b :: r, m => by
    unfold He.frG
    by_cases e : b = a
    · subst e
      rw [List.filterMap_cons, h]
      simp [List.lookup_cons]
    · have m2 : a ∈ r := (List.mem_cons.mp m).resolve_left fun z => e z.symm
      have ih := frG_has h m2
      unfold He.frG at ih
      rw [List.filterMap_cons]
      cases g b with
      | none => exact ih
      | some ob =>
        show List.lookup a ((b, ob) :: _) = some o
        rw [List.lookup_cons, beq_eq_false_iff_ne.mpr fun z => e z.symm]
        exact ih
def noL (g : Addr → Option Obj) (a : Addr) : Option Obj := match g a with
  | some o => match noListO o with
    | true => some o
    | false => none
  | none => none
theorem noL_of {g : Addr → Option Obj} {a : Addr} {o : Obj} (h : noL g a = some o) : g a = some o ∧ noListO o = true := by
  unfold noL at h
  split at h
  · rename_i o' e
    split at h
    · rename_i e2
      cases h
      exact ⟨e, e2⟩
    · cases h
  · cases h
theorem noL_to {g : Addr → Option Obj} {a : Addr} {o : Obj} (h : g a = some o) (h2 : noListO o = true) : noL g a = some o := by
  unfold noL
  rw [h]
  dsimp only
  rw [h2]
/-- all that is no list -/
def bigK (h : Heap) : PySem.W.Frag := He.frG (noL h.get?) (List.range h.objs.size)
theorem bigK_in (h : Heap) : (bigK h).In h := fun a o e => (noL_of (He.frG_at _ e)).1
theorem bigK_noL (h : Heap) : noLists (bigK h) = true := by
  unfold noLists bigK He.frG
  rw [List.all_eq_true]
  intro p hp
  obtain ⟨a, _, e⟩ := List.mem_filterMap.mp hp
  obtain ⟨o, ho, rfl⟩ := Option.map_eq_some_iff.mp e
  exact (noL_of ho).2
theorem bigK_sub {h : Heap} {as : List Addr} (n : noLists (He.frG h.get? as) = true) : Sub (He.frG h.get? as) (bigK h) := fun a o e => by
  have hg := He.frG_at _ e
  refine frG_has (noL_to hg ?_) (List.mem_range.mpr (Heap.lt_size hg))
  have := noLists_mem n e
  exact this
def faS : He.Fa → Bool
  | .glo _ => true
  | .free _ => true
  | .int _ _ => true
  | .str _ _ => true
  | _ => false
def dvS : He.Dv → Bool
  | .glo _ => false
  | .adr _ => false
  | _ => true
def refsF (o : Obj) : List Addr := match o.data with
  | .func fd => He.refV fd.code ++ He.refV fd.defaults
  | _ => []
def kFg (g : Addr → Option Obj) : PySem.W.Frag := He.frG g [mainGlobals]
def kF (g : Addr → Option Obj) (f : Addr) : PySem.W.Frag := He.frG g (mainGlobals :: f :: match g f with
  | some o => refsF o
  | none => [])
def kFd (g : Addr → Option Obj) (d : He.DefD) : PySem.W.Frag := kF g (He.ga (kFg g) d.at_.1)
def okF (g : Addr → Option Obj) (d : He.DefD) : Bool := d.at_.2.isNone && (d.dfl.all dvS && (d.kwd.isEmpty && (noLists (kFd g d) && d.ok (kFd g d))))
def obsF (fa : List He.Fa) (fn : List He.DefD) (g : Addr → Option Obj) : He.AlD := ((fa.all fun f => faS f && f.ok (kFg g)) && (noLists (kFg g) && fn.all fun d => okF g d), fn.map fun d => He.fnW (kFd g d) d.at_)
section
variable {K K' : PySem.W.Frag}
theorem ns_mono (s : Sub K K') {a : Addr} {x : Str} {r : Option Value} (h : PySem.W.nsIn K a x = some r) : PySem.W.nsIn K' a x = some r := by
  unfold PySem.W.nsIn at h ⊢
  cases e : K.lookup a with
  | none => rw [e] at h; cases h
  | some o =>
    rw [e] at h
    rw [s _ _ e]
    exact h
theorem ga_mono (s : Sub K K') {x : Str} {r : Option Value} (h : PySem.W.nsIn K mainGlobals x = some r) : He.ga K' x = He.ga K x := by
  unfold He.ga
  rw [h, ns_mono s h]
theorem fa_mono (s : Sub K K') : ∀ {f : He.Fa}, faS f = true → f.ok K = true → f.ok K' = true
  | .glo x, _, h => by
    have h1 := He.eqO_ok h
    show He.eqO _ _ = true
    rw [ga_mono s h1, ns_mono s h1]
    exact decide_eq_true rfl
  | .free x, _, h => by
    have h1 := He.eqO_ok h
    show He.eqO _ _ = true
    rw [ns_mono s h1]
    exact decide_eq_true rfl
  | .int x i, _, h => by
    have h : (match PySem.W.nsIn K mainGlobals x with
      | some (some (.int j _)) => decide (j = i)
      | _ => false) = true := h
    show (match PySem.W.nsIn K' mainGlobals x with
      | some (some (.int j _)) => decide (j = i)
      | _ => false) = true
    cases e : PySem.W.nsIn K mainGlobals x with
    | none => rw [e] at h; cases h
    | some r => rw [e] at h; rw [ns_mono s e]; exact h
  | .str x i, _, h => by
    have h : (match PySem.W.nsIn K mainGlobals x with
      | some (some (.str j _)) => decide (j = i)
      | _ => false) = true := h
    show (match PySem.W.nsIn K' mainGlobals x with
      | some (some (.str j _)) => decide (j = i)
      | _ => false) = true
    cases e : PySem.W.nsIn K mainGlobals x with
    | none => rw [e] at h; cases h
    | some r => rw [e] at h; rw [ns_mono s e]; exact h
theorem code_mono (s : Sub K K') {c : Value} {q : Str} (h : PySem.W.codeIn K c q = true) : PySem.W.codeIn K' c q = true := by
  cases c with
  | ref a =>
    have h : (match K.lookup a with
      | some ⟨_, _, .fields vs, _⟩ => (match vs.toList with | _ :: .str n _ :: _ => n == q | _ => false)
      | _ => false) = true := h
    show (match K'.lookup a with
      | some ⟨_, _, .fields vs, _⟩ => (match vs.toList with | _ :: .str n _ :: _ => n == q | _ => false)
      | _ => false) = true
    cases e : K.lookup a with
    | none => rw [e] at h; cases h
    | some r => rw [e] at h; rw [s _ _ e]; exact h
  | _ => cases h
theorem dfl_mono (s : Sub K K') {v : Value} {l : List V} (h : He.dflB K v l = true) : He.dflB K' v l = true := by
  cases l with
  | nil => exact h
  | cons y l =>
    cases v with
    | ref T =>
      have h : (match K.lookup T with
        | some ⟨_, _, .seq its _, _⟩ => He.relAll (y :: l) its.toList
        | _ => false) = true := h
      show (match K'.lookup T with
        | some ⟨_, _, .seq its _, _⟩ => He.relAll (y :: l) its.toList
        | _ => false) = true
      cases e : K.lookup T with
      | none => rw [e] at h; cases h
      | some r => rw [e] at h; rw [s _ _ e]; exact h
    | _ => cases h
theorem dvs_same {d : He.DefD} (h : d.dfl.all dvS = true) : d.dvs K = d.dvs K' := by
  unfold He.DefD.dvs
  refine List.map_congr_left fun v hv => ?_
  have := List.all_eq_true.mp h v hv
  cases v <;> first | rfl | cases this
theorem def_mono (s : Sub K K') {d : He.DefD} (h1 : d.at_.2 = none) (h2 : d.dfl.all dvS = true) (h3 : d.kwd = []) (h : d.ok K = true) (g : PySem.W.nsIn K mainGlobals d.at_.1 = some (some (.ref (He.ga K d.at_.1)))) :
    d.ok K' = true ∧ He.fnW K' d.at_ = He.fnW K d.at_ := by
  obtain ⟨⟨x, m⟩, nm, q, ps, bd, sc, dl, kw⟩ := d
  dsimp only at h1 h2 h3 g
  subst h1 h3
  have ef : He.fAd K' (x, none) = He.fAd K (x, none) := ga_mono s g
  obtain ⟨k1, k2⟩ := He.ba h
  have k2 : (match K.lookup (He.fAd K (x, none)) with
    | some ⟨_, _, .func fd, _⟩ => PySem.W.codeIn K fd.code q && (He.dflB K fd.defaults (He.DefD.dvs K ⟨(x, none), nm, q, ps, bd, sc, dl, []⟩) && He.kwdB K fd.kwdefaults [])
    | _ => false) = true := k2
  cases e : K.lookup (He.fAd K (x, none)) with
  | none => rw [e] at k2; cases k2
  | some o =>
    rw [e] at k2
    have e' : K'.lookup (He.fAd K' (x, none)) = some o := by rw [ef]; exact s _ _ e
    obtain ⟨oc, od, dt, osl⟩ := o
    cases dt with
    | func fd =>
      have k2 : (PySem.W.codeIn K fd.code q && (He.dflB K fd.defaults (He.DefD.dvs K ⟨(x, none), nm, q, ps, bd, sc, dl, []⟩) && He.kwdB K fd.kwdefaults [])) = true := k2
      obtain ⟨c1, c2⟩ := He.ba k2
      obtain ⟨c2, c3⟩ := He.ba c2
      refine ⟨?_, ?_⟩
      · show (PySem.W.keepIn K' (.ref (He.fAd K' (x, none))) && (match K'.lookup (He.fAd K' (x, none)) with
          | some ⟨_, _, .func fd, _⟩ => PySem.W.codeIn K' fd.code q && (He.dflB K' fd.defaults (He.DefD.dvs K' ⟨(x, none), nm, q, ps, bd, sc, dl, []⟩) && He.kwdB K' fd.kwdefaults [])
          | _ => false)) = true
        have kp : PySem.W.keepIn K' (.ref (He.fAd K' (x, none))) = true := by
          unfold PySem.W.keepIn
          dsimp only
          rw [e']
        rw [kp, e']
        dsimp only
        rw [code_mono s c1, ← dvs_same (K := K) (K' := K') h2, dfl_mono s c2]
        exact c3
      · unfold He.fnW
        rw [e', e]
    | _ => cases k2
end
theorem kF_g {g : Addr → Option Obj} {f : Addr} : Sub (kFg g) (kF g f) := fun a o e => by
  have hg := He.frG_at _ e
  refine frG_has hg ?_
  by_cases ha : a = mainGlobals
  · rw [ha]; exact List.mem_cons_self
  · exfalso
    unfold kFg He.frG at e
    rw [List.filterMap_cons] at e
    cases hm : g mainGlobals with
    | none => rw [hm] at e; cases e
    | some ob =>
      rw [hm] at e
      have e : List.lookup a [(mainGlobals, ob)] = some o := e
      rw [List.lookup_cons, beq_eq_false_iff_ne.mpr ha] at e
      cases e
theorem says_of {fa : List He.Fa} {fn : List He.DefD} {h : Heap} (e : obsF fa fn h.get? = He.valD fn) (hg : (fn.all fun d => fa.any fun f => match f with
    | .glo x => x == d.at_.1
    | _ => false) = true) : (bigK h).In h ∧ SaysN fa fn (bigK h) := by
  have e1 := congrArg Prod.fst e
  have e2 : (fn.map fun d => He.fnW (kFd h.get? d) d.at_) = fn.map He.DefD.val := congrArg Prod.snd e
  have e1 : ((fa.all fun f => faS f && f.ok (kFg h.get?)) && (noLists (kFg h.get?) && fn.all fun d => okF h.get? d)) = true := e1
  obtain ⟨c1, c2⟩ := He.ba e1
  obtain ⟨c2, c3⟩ := He.ba c2
  have sG : Sub (kFg h.get?) (bigK h) := bigK_sub c2
  have F : ∀ f ∈ fa, f.ok (bigK h) = true := fun f hf => by
    obtain ⟨b1, b2⟩ := He.ba (List.all_eq_true.mp c1 f hf)
    exact fa_mono sG b1 b2
  have D : ∀ d ∈ fn, d.ok (bigK h) = true ∧ He.fnW (bigK h) d.at_ = He.fnW (kFd h.get? d) d.at_ := fun d hd => by
    obtain ⟨b1, b2⟩ := He.ba (List.all_eq_true.mp c3 d hd)
    obtain ⟨b2, b3⟩ := He.ba b2
    obtain ⟨b3, b4⟩ := He.ba b3
    obtain ⟨b4, b5⟩ := He.ba b4
    have hs : Sub (kFd h.get? d) (bigK h) := bigK_sub b4
    refine def_mono hs (Option.isNone_iff_eq_none.mp b1) b2 (List.isEmpty_iff.mp b3) b5 ?_
    obtain ⟨f, hf, hx⟩ := List.any_eq_true.mp (List.all_eq_true.mp hg d hd)
    cases f with
    | glo x =>
      have hx : x = d.at_.1 := eq_of_beq hx
      subst hx
      have b := List.all_eq_true.mp c1 _ hf
      have q := He.eqO_ok (He.ba b).2
      have sD : Sub (kFg h.get?) (kFd h.get? d) := kF_g
      rw [ga_mono sD q]
      exact ns_mono sD q
    | _ => cases hx
  refine ⟨bigK_in h, ?_, bigK_noL h⟩
  show ((fa.all fun f => f.ok (bigK h)) && fn.all fun d => d.ok (bigK h), fn.map fun d => He.fnW (bigK h) d.at_) = (true, fn.map He.DefD.val)
  rw [show (fa.all fun f => f.ok (bigK h)) = true from List.all_eq_true.mpr F, show (fn.all fun d => d.ok (bigK h)) = true from List.all_eq_true.mpr fun d hd => (D d hd).1, ← e2]
  congr 1
  exact List.map_congr_left fun d hd => (D d hd).2
def hookF (fa : List He.Fa) (fn : List He.DefD) (hg : (fn.all fun d => fa.any fun f => match f with
    | .glo x => x == d.at_.1
    | _ => false) = true) : PySem.W.Hook where
  α := He.AlD
  obs := fun s => obsF fa fn s.heap.get?
  val := fun _ => He.valD fn
  says := fun _ h => ∃ K : PySem.W.Frag, K.In h ∧ SaysN fa fn K
  of := fun _ _ e => ⟨_, says_of e hg⟩
  keeps := fun _ _ _ ⟨K, hK, c⟩ k => ⟨K, PySem.W.Frag.In.keeps hK k, c⟩
theorem obsF_eq {fa : List He.Fa} {fn : List He.DefD} {hg : (fn.all fun d => fa.any fun f => match f with
    | .glo x => x == d.at_.1
    | _ => false) = true} {g : Addr → Option Obj} {s : Shared} (h : ∀ a, g a = s.heap.get? a) : obsF fa fn g = (hookF fa fn hg).obs s := by
  have e : g = s.heap.get? := funext h
  rw [e] <;> rfl
/-- the run's equation in parts -/
theorem parts3 {α β γ δ : Type} {o : Option δ} {f : δ → α} {g : δ → β} {k : δ → γ} {a : α} {b : β} {c : γ} (h1 : o.map f = some a) (h2 : o.map g = some b) (h3 : o.map k = some c) : o.map (fun s => (f s, g s, k s)) = some (a, b, c) := by
  cases o with
  | none => cases h1
  | some s =>
    cases h1
    cases h2
    cases h3
    rfl
end Sw

/-! BX: __init__ of an own exception class under ValueError: super().__init__(text), then its fields. -/
namespace Sw
open PySem PySem.Spec PySem.Calls PyProof.Rows L2
open PySem.W (ksEnv ksFn ks_superIn)
/-- self.f = f, one behind the other -/
inductive IsStores : List Str → List Stmt → Prop
  | nil : IsStores [] []
  | cons {f : Str} {fs : List Str} {ss : List Stmt} {k1 k2 k3 k4 : Pos} (r : IsStores fs ss) : IsStores (f :: fs) (.Assign [.Attribute (.Name "self" k1) f k2] (.Name f k3) k4 :: ss)
def initB (msg : Str) (j : Nat) (k0 k1 k2 k3 k4 k5 : Pos) (ss : List Stmt) : List Stmt := .Expr (.Call (.Attribute (.Call (.Name "super" k0) [] [] k1) "__init__" k2) [.Constant (.str msg) j k3] [] k4) k5 :: ss
/-- how super().__init__(text) is asked -/
def SupEv (msg : Str) (j : Nat) (k0 k1 k2 k3 k4 : Pos) : Prop := ∀ env : Env, ∃ pl : Sem Bool, eval (.Call (.Attribute (.Call (.Name "super" k0) [] [] k1) "__init__" k2) [.Constant (.str msg) j k3] [] k4) env = (do
  let ov ← attributeBase (.Call (.Name "super" k0) [] [] k1) "__init__" env (eval (.Call (.Name "super" k0) [] [] k1) env)
  standAt k2.atName
  let (f, first) ← holding [ov] (getMethod ov "__init__" pl)
  callWith k4 f first (backTo k4 (starEach [.Constant (.str msg) j k3] env)) [])
/-- what the written part says of such a class -/
structure ExK (prog : Program) (K : PySem.W.Frag) (C : Addr) (fn : List Str) : Prop where
  T : OexC K C
  ex : ∃ (fI cc cda : Addr) (cd : ClassData) (oc ccl cl : Value) (od cdd cld : Option Addr) (osl ccs csl : Array (Option Value)) (qual : Str) (params : Arguments) (scope : Scope) (dV kV doc pm ct : Value) (an : Option Addr) (ar : Arg) (vs : Array Value) (file : Str) (tf : Tok)
      (msg : Str) (j : Nat) (k0 k1 k2 k3 k4 k5 : Pos) (ss : List Stmt),
    PySem.W.findIn K (.ref C) "__init__" = some (some (.ref fI)) ∧ PySem.W.typeIn K (.ref fI) = some (.type "function") ∧
    PySem.W.clsIn K C = some cd ∧ PySem.W.alongIn K "__init__" ((cd.mro.dropWhile (· != .ref C)).drop 1) = some (some (.builtin "ValueError.__init__")) ∧
    PySem.W.subIn K (.ref C) (.type "ValueError") = some true ∧ PySem.W.mroIn K C (.ref C) = some true ∧ PySem.W.nsIn K cStatics "thirdparty.any" = some none ∧
    K.lookup fI = some ⟨oc, od, .func (ksFn "__init__" qual params (initB msg j k0 k1 k2 k3 k4 k5 ss) scope dV kV doc pm an (.ref cda) ct cc), osl⟩ ∧ PySem.W.codeIn K (.ref cda) qual = true ∧
    K.lookup cda = some ⟨ccl, cdd, .fields vs, ccs⟩ ∧ vs[2]? = some (.str file tf) ∧ ((prog.main.file : Str) == file) = true ∧ K.lookup cc = some ⟨cl, cld, .cell (some (.ref C)), csl⟩ ∧
    IsStores fn ss ∧ (params.posonlyargs ++ params.args).head? = some ar ∧ ar.arg = "self" ∧ scope.kind = .function ∧ scope.isCoroutine = false ∧ scope.isGenerator = false ∧
    scope.names.lookup ("super" : Str) = some .globalImplicit ∧ scope.names.lookup ("__class__" : Str) = some .free ∧ (∀ x ∈ ("self" : Str) :: fn, scope.names.lookup x = some .local ∧ (x == ("__debug__" : Str)) = false) ∧ (∀ x ∈ scope.names, x.2 ≠ .cell) ∧
    (prog.main.scope.names.lookup ("super" : Str)).isSome = false ∧
    (∀ (us : List Value), us.length = fn.length + 1 → bindArgs (ksFn "__init__" qual params (initB msg j k0 k1 k2 k3 k4 k5 ss) scope dV kV doc pm an (.ref cda) ct cc) ⟨us, []⟩ = pure ((("self" : Str) :: fn).zip us)) ∧
    SupEv msg j k0 k1 k2 k3 k4
  nosup : PySem.W.nsIn K mainGlobals "super" = some none
  noat : ∀ f ∈ fn, PySem.W.findIn K (.ref C) f = some none
  nd : (("self" : Str) :: fn).Nodup
abbrev xO (C t : Addr) (d : Option Addr) : Obj := { cls := .ref C, dict := d, data := .fields #[.ref t, .none, .none, .none, .bool false, .none] }
section
variable {prog : Program} {w : World} {A : Around} {E : Value → Shared → Prop} {K : PySem.W.Frag} {C e L : Addr} {env : Env} {m : Str → Option Value}
theorem lookP (f : Str) (u : Value) (got : List (Str × Value)) : (fun y => ((f, u) :: got).lookup y) = fun y => if y = f then some u else got.lookup y := by
  funext y
  by_cases h : y = f
  · subst h; simp [List.lookup]
  · have e : (y == f) = false := by simpa using h
    rw [if_neg h]
    simp [List.lookup, e]
theorem withinP (got : List (Str × Value)) : Within (fun y => got.lookup y) (got.map (·.1)) := fun y hy => by
  induction got with
  | nil => exact absurd rfl hy
  | cons p l ih =>
    obtain ⟨f, z⟩ := p
    by_cases e : y = f
    · subst e; simp
    · refine List.mem_cons_of_mem _ (ih fun z2 => hy ?_)
      have eb : (y == f) = false := by simpa using e
      simp only [List.lookup, eb]
      exact z2
def DdOk (K : PySem.W.Frag) (e L : Addr) (h : Heap) (got : List (Str × Value)) : Option Addr → Prop
  | none => got = []
  | some dx => dx ≠ e ∧ dx ≠ L ∧ (∀ a o, K.lookup a = some o → a ≠ dx) ∧ h.Ns1 dx (fun y => got.lookup y)
/-- the fields are stored -/
theorem stores_run {cd : ClassData} (hcd : PySem.W.clsIn K C = some cd) (hm : PySem.HandSPX.refsVE cd.mro = true) (hh : cd.hasDict = true) (sa : PySem.W.findIn K (.ref C) "__setattr__" = some (some (.builtin "object.__setattr__")))
    (hk : env.scope.kind = .function) (hS : env.kindOf "self" = some .local) (eS : m "self" = some (.ref e)) (hLe : env.locals ≠ e) (hKe : ∀ a o, K.lookup a = some o → a ≠ e) :
    ∀ {fn : List Str} {ss : List Stmt} (hs : IsStores fn ss) (hl : ∀ f ∈ fn, env.kindOf f = some .local ∧ (f == ("__debug__" : Str)) = false ∧ PySem.W.findIn K (.ref C) f = some none) (us : List Value) (hu : us.length = fn.length) (hv : ∀ p ∈ fn.zip us, m p.1 = some p.2)
      {h : Heap} {g : Array GenState} {d : Drawn} {t : Nat} {os : OsState} {Q : Flow → Shared → Prop} (t1 : Addr) (dd : Option Addr) (got : List (Str × Value)) (X : K.In h) (hn : h.Ns env.locals m) (he : h.get? e = some (xO C t1 dd)) (hgl : got.length + fn.length ≤ 900)
      (hd : DdOk K e env.locals h got dd)
      (hq : ∀ h' dd' t', (∀ b o, b ≠ e → dd ≠ some b → h.get? b = some o → h'.get? b = some o) → h'.get? e = some (xO C t1 dd') → (∀ dx, dd = some dx → dd' = some dx) → (dd = none → ∀ dx, dd' = some dx → h.objs.size ≤ dx ∧ dx ≠ e) → (dd = none → fn = [] → dd' = none) → (fn ≠ [] → ∃ dx, dd' = some dx) →
        (∀ dx, dd' = some dx → h'.Ns1 dx (fun y => ((fn.zip us).reverse ++ got).lookup y)) → Q .next ⟨h', g, d, t', os⟩),
      wpAny (model prog w) A (execs ss env) Q E ⟨h, g, d, t, os⟩ := by
  intro fn ss hs
  induction hs with
  | nil =>
    intro hl us hu hv h g d t os Q t1 dd got X hn he hgl hd hq
    refine wpAny_execs_nil (hq h dd t (fun b o _ _ z => z) he (fun dx z => z) (fun z dx z2 => by rw [z] at z2; cases z2) (fun z _ => z) (fun z => absurd rfl z) fun dx z => ?_)
    subst z
    exact hd.2.2.2
  | @cons f fs ss k1 k2 k3 k4 hs ih =>
    intro hl us hu hv h g d t os Q t1 dd got X hn he hgl hd hq
    cases us with
    | nil => cases hu
    | cons u us =>
      obtain ⟨l1, l2, l3⟩ := hl f List.mem_cons_self
      have ef : m f = some u := hv (f, u) (by simp)
      obtain ⟨oL, esL, epL, oL1, oL2⟩ := id hn
      have hgl2 : got.length + (fs.length + 1) ≤ 900 := hgl
      refine wpAny_execs_cons (plainObj_wpAny_Assign_Attribute (wpAny_Name (wpAny_loadName_local hk l1 hn ef ?_) l2))
      refine wpAny_Name (wpAny_loadName_local hk hS hn eS ?_)
      have fin : ∀ (h1 : Heap) (tk dx : Nat), (∀ b o, b ≠ e → dd ≠ some b → h.get? b = some o → h1.get? b = some o) → (dd = none → h.objs.size ≤ dx ∧ dx ≠ e) → (∀ dy, dd = some dy → dx = dy) → h1.get? e = some (xO C t1 (some dx)) → h1.Ns1 dx (fun y => ((f, u) :: got).lookup y) →
          wpAny (model prog w) A (execs ss env) Q E ⟨h1, g, d, tk, os⟩ := fun h1 tk dx kp new old e1 n1 => by
        have far : ∀ b o, h.get? b = some o → dd ≠ some b → dx ≠ b := fun b o z nb => by
          cases hdd : dd with
          | none => exact fun z2 => absurd (Heap.lt_size z) (by rw [← z2]; exact Nat.not_lt_of_le (new hdd).1)
          | some dy => rw [old dy hdd]; exact fun z2 => nb (by rw [hdd, z2])
        have dxL : dx ≠ e ∧ dx ≠ env.locals ∧ ∀ a o, K.lookup a = some o → a ≠ dx := by
          cases hdd : dd with
          | none =>
            have hx := (new hdd).1
            exact ⟨(new hdd).2, fun z => absurd (Heap.lt_size oL1) (by rw [← z]; exact Nat.not_lt_of_le hx), fun a o z z2 => absurd (Heap.lt_size (X a o z)) (by rw [z2]; exact Nat.not_lt_of_le hx)⟩
          | some dy =>
            rw [hdd] at hd
            rw [old dy hdd]
            exact ⟨hd.1, hd.2.1, hd.2.2.1⟩
        have nL : dd ≠ some env.locals := fun z => by rw [z] at hd; exact hd.2.1 rfl
        have nK : ∀ a o, K.lookup a = some o → dd ≠ some a := fun a o z z2 => by rw [z2] at hd; exact hd.2.2.1 a o z rfl
        refine ih (fun f' hf' => hl f' (List.mem_cons_of_mem _ hf')) us (by simpa using hu) (fun p hp => hv p (by simp [hp])) t1 (some dx) ((f, u) :: got) (fun a o z => kp a o (hKe a o z) (nK a o z) (X a o z)) ⟨oL, esL, epL, kp _ _ hLe nL oL1, oL2⟩ e1 (by simp only [List.length_cons]; omega) ⟨dxL.1, dxL.2.1, dxL.2.2, n1⟩ ?_
        intro h' dd' t' k2 e2 c2 _ _ _ n2
        have ed : dd' = some dx := c2 dx rfl
        refine hq h' dd' t' (fun b o hb nb z => k2 b o hb (fun z2 => far b o z nb (Option.some.inj z2)) (kp b o hb nb z)) e2 (fun dy z => by rw [ed, old dy z]) (fun z dy z2 => ?_) (fun _ z => nomatch z) (fun _ => ⟨dx, ed⟩) fun dy z => ?_
        · rw [ed] at z2
          cases z2
          exact new z
        · have := n2 dy z
          have e3 : ((f :: fs).zip (u :: us)).reverse ++ got = (fs.zip us).reverse ++ (f, u) :: got := by simp
          rw [e3]
          exact this
      cases dd with
      | none =>
        have hg0 : got = [] := hd
        refine PySem.W.set_plain X (ox := xO C t1 none) (od := none) ⟨he, rfl, rfl, trivial⟩ sa (PySem.HandSPX.exc_osa X he hcd hm hh l3 fun h1 tk dx k sz ne hx n1 => ?_)
        refine fin h1 tk dx (fun b o hb _ z => k b o hb z) (fun _ => ⟨sz, ne⟩) (fun dy z => nomatch z) hx ?_
        rw [hg0, lookP]
        exact n1
      | some dy =>
        obtain ⟨d1, d2, d3, d4⟩ := hd
        have hw := withinP got
        obtain ⟨oD, _, _, hoD, _, _⟩ := d4.count hw
        refine PySem.W.set_plain X (ox := xO C t1 (some dy)) (od := some oD) ⟨he, rfl, rfl, hoD⟩ sa (PySem.OEX.osa_old X he d4 hw (by rw [List.length_map]; omega) hcd hm hh l3 fun h1 tk k n1 => ?_)
        refine fin h1 tk dy (fun b o _ nb z => k b o (fun z2 => nb (by rw [z2])) z) (fun z => nomatch z) (fun dz z => Option.some.inj z) (k _ _ (Ne.symm d1) he) ?_
        rw [lookP]
        exact n1
theorem zipLook : ∀ {ks : List Str} {vs : List Value} {acc : List (Str × Value)}, ks.Nodup → (∀ p ∈ ks.zip vs, ((ks.zip vs).reverse ++ acc).lookup p.1 = some p.2)
  | [], _, _, _ => fun p hp => by simp at hp
  | k :: ks, [], _, _ => fun p hp => by simp at hp
  | k :: ks, v :: vs, acc, nd => fun p hp => by
    have nd2 := List.nodup_cons.mp nd
    have e1 : ((k :: ks).zip (v :: vs)).reverse ++ acc = (ks.zip vs).reverse ++ (k, v) :: acc := by simp
    rw [e1]
    rcases List.mem_cons.mp (show p ∈ (k, v) :: ks.zip vs from hp) with e | hp
    · subst e
      have none_ : ∀ l : List (Str × Value), (∀ q ∈ l, q.1 ≠ k) → ∀ r, (l ++ (k, v) :: r).lookup k = some v := fun l => by
        induction l with
        | nil => intro _ r; simp [List.lookup]
        | cons q l ih =>
          intro hl r
          obtain ⟨a, b⟩ := q
          have hn : (k == a) = false := by simpa using fun z => hl (a, b) List.mem_cons_self z.symm
          simp only [List.cons_append, List.lookup, hn]
          exact ih (fun q hq => hl q (List.mem_cons_of_mem _ hq)) r
      exact none_ _ (fun q hq z => nd2.1 (by rw [← z]; exact (List.of_mem_zip (List.mem_reverse.mp hq)).1)) acc
    · exact zipLook (acc := (k, v) :: acc) nd2.2 p hp
variable {R : Result → Shared → Prop} {mg : Str → Option Value} {fn : List Str} {h : Heap} {g : Array GenState} {d : Drawn} {t : Nat} {os : OsState}
/-- the wrapper of the built-in's __init__, called -/
theorem call_mw {u t0 : Addr} {rest : List Value} {Q : Value → Shared → Prop} (T : OexC K C) (KX : K.In h) (he : h.get? e = some (xO C t0 none)) (hu : h.get? u = some (PySem.W.kxs_mw "ValueError.__init__" e)) (hl : rest.length ≤ sizeLine)
    (hq : ∀ h' t1, (∀ b o, b ≠ e → h.get? b = some o → h'.get? b = some o) → h'.get? e = some (xO C t1 none) → Q .none ⟨h', g, d, t, os⟩) : wpAny (model prog w) A (call (.ref u) rest) Q E ⟨h, g, d, t, os⟩ := by
  obtain ⟨nm, q, N, bs, bm, sn, sub, ab, col, dd, k0, k1, k2, k3, k5, hC, hbm⟩ := T.cls
  have FB := F.excBase_ValueError
  have isM : (Value.type "method-wrapper" == Value.type "method" || Value.type "method-wrapper" == Value.type "builtin_function_or_method" || Value.type "method-wrapper" == Value.type "method-wrapper") = true := by decide
  refine wpAny_call (codeAny_of_tree ?_)
  show wpAny _ A.in1 (callAny (.ref u) ⟨rest, []⟩) _ _ _
  simp only [callAny]
  refine wpAny_bind (wpAny_load hu ?_)
  simp only [PySem.W.kxs_mw, isM, if_true]
  refine PySem.W.KFB.if_so (by decide) (wpAny_bind (PySem.W.check_bound_init FB.toExcCallFacts (KX _ _ hC) he rfl (wpAny_bind (wpAny_pure (wpAny_pure ?_)))))
  refine ⟨plainId_quiet FB.init.plain _, codeAny_builtin FB.initEntry ?_⟩
  exact PySem.W.exc_init_tree (cls := .ref C) (t0 := t0) (dv := none) (c2 := .none) (c3 := .none) (b4 := .bool false) he hl fun h1 k e1 _ => hq h1 _ k e1
theorem init_run (x : ExK prog K C fn) {fI : Addr} (hi : PySem.W.findIn K (.ref C) "__init__" = some (some (.ref fI))) (hr : A.depth < recursionLimit) (KX : K.In h) (G : h.Ns mainGlobals mg) (B : ∃ mb, h.Ns builtinsNs mb ∧ ∀ x : Str, x ≠ "__name__" → mb x = bootBuiltins x) (lim : h.NoLimit)
    {t0 : Addr} (he : h.get? e = some (xO C t0 none)) (hKe : ∀ a o, K.lookup a = some o → a ≠ e) (us : List Value) (hu : us.length = fn.length) (hfn : fn.length ≤ 800)
    (hq : ∀ h' t' t1 dd', (∀ b o, b ≠ e → h.get? b = some o → h'.get? b = some o) → h'.get? e = some (xO C t1 dd') → (∀ dx, dd' = some dx → h.objs.size ≤ dx ∧ dx ≠ e ∧ h'.Ns1 dx (fun y => (fn.zip us).reverse.lookup y)) → (fn = [] → dd' = none) → (fn ≠ [] → ∃ dx, dd' = some dx) → R (.ok (.ret .none)) ⟨h', g, d, t', os⟩) :
    codeAny (model prog w) A (.call (.ref fI) ⟨.ref e :: us, []⟩) R ⟨h, g, d, t, os⟩ := by
  obtain ⟨fI', cc, cda, cd, oc, ccl, cl, od, cdd, cld, osl, ccs, csl, qual, params, scope, dV, kV, doc, pm, ct, an, ar, vs, file, tf, msg, j, k0, k1, k2, k3, k4, k5, ss, x1, x2, x3, x4, x5, x6, x7, x8, x9, x10, x11, x12, x13, x14, x15, x16, x17, x18, x19, x20, x21, x22, x23, x24, x25, x26⟩ := x.ex
  rw [hi] at x1
  cases x1
  have l1 : (Value.ref e :: us).length = fn.length + 1 := by simp [hu]
  refine PySem.ks_codeAny_call_defAt (fd := ksFn "__init__" qual params (initB msg j k0 k1 k2 k3 k4 k5 ss) scope dV kV doc pm an (.ref cda) ct cc) (body := initB msg j k0 k1 k2 k3 k4 k5 ss) (binds := (("self" : Str) :: fn).zip (.ref e :: us)) hr (KX _ _ x8) rfl lim (PySem.W.codeRec_of KX x9) rfl (BindsTo.of_eq (x25 _ l1)) x23
    (fun y hy => (x22 y.1 (List.of_mem_zip hy).1).1) (fun h1 hns hk1 => ?_) x18 x19 x17
  show _root_.PySem.wpAt _ _ (.func _ (ksEnv qual scope h.objs.size fI (.ref cda) cc)) (execs (_ :: ss) (ksEnv qual scope h.objs.size fI (.ref cda) cc)) _ _ _
  have hlt : e < h.objs.size := Heap.lt_size he
  have he1 := hk1 _ _ he
  have X1 : K.In h1 := fun a o z => hk1 _ _ (KX a o z)
  have G1 : h1.Ns mainGlobals mg := by
    obtain ⟨o, es, ep, z, r⟩ := G
    exact ⟨o, es, ep, hk1 _ _ z, r⟩
  obtain ⟨mb, Bn, Bb⟩ := B
  have B1 : h1.Ns builtinsNs mb := by
    obtain ⟨o, es, ep, z, r⟩ := Bn
    exact ⟨o, es, ep, hk1 _ _ z, r⟩
  have hm : ∀ p ∈ (("self" : Str) :: fn).zip (Value.ref e :: us), ((("self" : Str) :: fn).zip (Value.ref e :: us)).reverse.lookup p.1 = some p.2 := fun p hp => by
    have := zipLook (acc := []) x.nd p hp
    rwa [List.append_nil] at this
  generalize hmm : (fun y => ((("self" : Str) :: fn).zip (Value.ref e :: us)).reverse.lookup y) = m at hns
  have hm2 : ∀ p ∈ (("self" : Str) :: fn).zip (Value.ref e :: us), m p.1 = some p.2 := fun p hp => by rw [← hmm]; exact hm p hp
  have eS : m "self" = some (.ref e) := hm2 ("self", .ref e) (by simp)
  obtain ⟨nm, q, N, bs, bm, sn, sub, ab, col, dd, c0, c1, c2, c3, c5, hC, hbm⟩ := x.T.cls
  have hC1 := X1 _ _ hC
  have hcl : cd = { name := nm, bases := bs, mro := .ref C :: bm, ns := N, qualname := q, hasDict := true, slotNames := sn, subclasses := sub, abstract := ab, collection := col, hasDel := false } := by
    unfold PySem.W.clsIn at x3
    rw [hC] at x3
    exact (Option.some.inj x3).symm
  obtain ⟨pl, hev⟩ := x26 (ksEnv qual scope h.objs.size fI (.ref cda) cc)
  have hks : (ksEnv qual scope h.objs.size fI (.ref cda) cc).kindOf "super" = some .globalImplicit := x20
  have hkc : (ksEnv qual scope h.objs.size fI (.ref cda) cc).kindOf "__class__" = some .free := x21
  have hka : (ksEnv qual scope h.objs.size fI (.ref cda) cc).kindOf ar.arg = some .local := by rw [x16]; exact (x22 _ List.mem_cons_self).1
  refine PySem.ks_wpAt_execs_cons (PySem.ks_wpAt_Expr_any (PySem.ks_wpAt_MethodCall (pl := pl) ?_ hev) (by unfold interactive; rw [x17]; rfl))
  refine PySem.ks_wpAt_super_base (env := ksEnv qual scope h.objs.size fI (.ref cda) cc) hks hkc (by decide) rfl (X1 _ _ x8) rfl x15 rfl (X1 _ _ x10) rfl x11 x12 x24 ?_
  refine PySem.W.ks_loadName_global x17 hks (loadGlobal_builtin (env := ksEnv qual scope h.objs.size fI (.ref cda) cc) G1 (PySem.W.mg_none_of KX G x.nosup) B1 ((Bb "super" (by decide)).trans (show bootBuiltins "super" = some (.type "super") by decide +kernel)) ⟨rfl, ?_⟩)
  refine wpAny_loadName_free x17 hkc rfl ⟨_, X1 _ _ x13, rfl⟩ ?_
  refine wpAny_loadName_local x17 hka hns (by rw [x16]; exact eS) ?_
  refine PySem.ks_wpAny_isType_cls hC1 rfl ⟨rfl, ?_⟩
  refine PySem.ks_wpAny_call_super hC1 rfl he1 rfl (fun c z => by cases z) (PySem.W.looks_mroIn X1 x6) fun h2 hso k2 => ?_
  have he2 := k2 _ _ he1
  have X2 : K.In h2 := fun a o z => k2 _ _ (X1 a o z)
  have I2 : PySem.W.InstAt h2 e (xO C t0 none) C none := ⟨he2, rfl, rfl, trivial⟩
  have neC : e ≠ C := fun z => hKe C _ hC z.symm
  refine PySem.W.kxs_getMethod PySem.W.kxs_ValueError hso (PySem.W.looks_opaque X2 x7) (l₀ := cd.mro) (fun A Q E s k q => wpAny_bind ((PySem.W.looks_clsIn X2 x3) A _ E s k (wpAny_pure q))) rfl X2 x4 (I2.type.andThen (PySem.W.looks_subIn X2 x5)) neC (by decide) ?_
  have hu3 : (h2.push (PySem.W.kxs_mw "ValueError.__init__" e)).get? h2.objs.size = some (PySem.W.kxs_mw "ValueError.__init__" e) := Heap.get?_push_size _ rfl
  refine PySem.W.kxs_callWith (i := "ValueError.__init__") (x := e) rfl (evalArgs_plain (spliced_cons (wpAny_Constant_str (k := j) (pos := k3) (spliced_nil ⟨hu3, ?_⟩))))
  have k3 : ∀ b o, h2.get? b = some o → (h2.push (PySem.W.kxs_mw "ValueError.__init__" e)).get? b = some o := fun b o z => Heap.get?_push_of_some _ z
  refine call_mw x.T (fun a o z => k3 _ _ (X2 a o z)) (k3 _ _ he2) hu3 (by show 1 ≤ sizeLine; rw [sizeLine_eq]; omega) fun h4 t4 k4' e4 => ?_
  have up : ∀ b o, b ≠ e → h1.get? b = some o → h4.get? b = some o := fun b o hb z => k4' b o hb (k3 _ _ (k2 _ _ z))
  have nL : h.objs.size ≠ e := Nat.ne_of_gt hlt
  show _root_.PySem.wpAt _ _ _ (execs ss _) _ _ _
  obtain ⟨oL, esL, epL, oL1, oL2⟩ := id hns
  have mro : PySem.HandSPX.refsVE cd.mro = true := by rw [hcl]; exact hbm
  have hdT : cd.hasDict = true := by rw [hcl]
  have sz1 : h.objs.size < h1.objs.size := Heap.lt_size oL1
  refine wpAt_of_wpAny (stores_run (env := ksEnv qual scope h.objs.size fI (.ref cda) cc) (m := m) x3 mro hdT x.T.sa x17 (x22 _ List.mem_cons_self).1 eS nL hKe x14 (fun f hf => ⟨(x22 f (List.mem_cons_of_mem _ hf)).1, (x22 f (List.mem_cons_of_mem _ hf)).2, x.noat f hf⟩) us hu
    (fun p hp => hm2 p (List.mem_cons_of_mem _ hp)) t4 none [] (fun a o z => up a o (hKe a o z) (X1 a o z)) ⟨oL, esL, epL, up _ _ nL oL1, oL2⟩ e4 (by simp; omega) rfl fun h5 dd5 t5 k5 e5 _ n5 b5 c5 f5 => ?_)
  have sz4 : h.objs.size ≤ h4.objs.size := Nat.le_of_lt (Nat.lt_of_lt_of_le (Heap.lt_size (up _ _ nL oL1)) (Nat.le_refl _))
  refine hq h5 t5 t4 dd5 (fun b o hb z => k5 b o hb (fun z2 => nomatch z2) (up b o hb (hk1 b o z))) e5 (fun dx z => ⟨Nat.le_trans sz4 (n5 rfl dx z).1, (n5 rfl dx z).2, ?_⟩) (fun z => b5 rfl z) c5
  have := f5 dx z
  rwa [List.append_nil] at this
end
end Sw

/-! BH: what a head observes of own exception classes and of the makers of lambdas. -/
namespace Sw
open PySem PySem.Spec PyProof.Rows L2
section
variable {K K' : PySem.W.Frag}
/-! ### a larger fragment tells the same -/
theorem own_mono (s : Sub K K') {x : Str} {v : Value} {r : Option Value} (h : PySem.W.ownIn K x v = some r) : PySem.W.ownIn K' x v = some r := by
  cases v with
  | ref a =>
    have h : (match K.lookup a with
      | some ⟨_, _, .cls cd, _⟩ => PySem.W.nsIn K cd.ns x
      | _ => none) = some r := h
    show (match K'.lookup a with
      | some ⟨_, _, .cls cd, _⟩ => PySem.W.nsIn K' cd.ns x
      | _ => none) = some r
    cases e : K.lookup a with
    | none => rw [e] at h; cases h
    | some o =>
      rw [e] at h
      rw [s _ _ e]
      obtain ⟨oc, od, dt, sl⟩ := o
      cases dt with
      | cls cd => exact ns_mono s h
      | _ => cases h
  | _ => exact h
theorem along_mono (s : Sub K K') {x : Str} : ∀ {l : List Value} {r : Option Value}, PySem.W.alongIn K x l = some r → PySem.W.alongIn K' x l = some r
  | [], _, h => h
  | c :: l, r, h => by
    unfold PySem.W.alongIn at h ⊢
    cases e : PySem.W.ownIn K x c with
    | none => rw [e] at h; cases h
    | some o =>
      rw [e] at h
      rw [own_mono s e]
      cases o with
      | none => exact along_mono s h
      | some v => exact h
theorem find_mono (s : Sub K K') {v : Value} {x : Str} {r : Option Value} (h : PySem.W.findIn K v x = some r) : PySem.W.findIn K' v x = some r := by
  cases v with
  | ref a =>
    have h : (match K.lookup a with
      | some ⟨_, _, .cls cd, _⟩ => PySem.W.alongIn K x cd.mro
      | _ => none) = some r := h
    show (match K'.lookup a with
      | some ⟨_, _, .cls cd, _⟩ => PySem.W.alongIn K' x cd.mro
      | _ => none) = some r
    cases e : K.lookup a with
    | none => rw [e] at h; cases h
    | some o =>
      rw [e] at h
      rw [s _ _ e]
      obtain ⟨oc, od, dt, sl⟩ := o
      cases dt with
      | cls cd => exact along_mono s h
      | _ => cases h
  | _ => exact h
theorem type_mono (s : Sub K K') {v r : Value} (h : PySem.W.typeIn K v = some r) : PySem.W.typeIn K' v = some r := by
  cases v with
  | ref a =>
    have h : (K.lookup a).map (·.cls) = some r := h
    show (K'.lookup a).map (·.cls) = some r
    obtain ⟨o, e, h⟩ := Option.map_eq_some_iff.mp h
    rw [s _ _ e]
    exact congrArg some h
  | _ => exact h
theorem cls_mono (s : Sub K K') {C : Addr} {cd : ClassData} (h : PySem.W.clsIn K C = some cd) : PySem.W.clsIn K' C = some cd := by
  unfold PySem.W.clsIn at h ⊢
  cases e : K.lookup C with
  | none => rw [e] at h; cases h
  | some o => rw [e] at h; rw [s _ _ e]; exact h
theorem mro_mono (s : Sub K K') {C : Addr} {v : Value} {b : Bool} (h : PySem.W.mroIn K C v = some b) : PySem.W.mroIn K' C v = some b := by
  unfold PySem.W.mroIn at h ⊢
  obtain ⟨cd, e, h⟩ := Option.bind_eq_some_iff.mp h
  rw [cls_mono s e]
  exact h
theorem sub_mono (s : Sub K K') {t v : Value} {b : Bool} (h : PySem.W.subIn K t v = some b) : PySem.W.subIn K' t v = some b := by
  cases t with
  | ref C => exact mro_mono s h
  | _ => exact h
theorem special_mono (s : Sub K K') {v : Value} {x : Str} {r : Option Value} (h : PySem.W.specialIn K v x = some r) : PySem.W.specialIn K' v x = some r := by
  unfold PySem.W.specialIn at h ⊢
  obtain ⟨t, e, h⟩ := Option.bind_eq_some_iff.mp h
  rw [type_mono s e]
  exact find_mono s h
theorem keep_mono (s : Sub K K') {v : Value} (h : PySem.W.keepIn K v = true) : PySem.W.keepIn K' v = true := by
  cases v with
  | ref a =>
    have h : (match K.lookup a with
      | some ⟨_, _, .func _, _⟩ => true
      | some ⟨_, _, .cls _, _⟩ => PySem.W.specialIn K (.ref a) "__call__" == some (some (.builtin "type.__call__"))
      | _ => false) = true := h
    show (match K'.lookup a with
      | some ⟨_, _, .func _, _⟩ => true
      | some ⟨_, _, .cls _, _⟩ => PySem.W.specialIn K' (.ref a) "__call__" == some (some (.builtin "type.__call__"))
      | _ => false) = true
    cases e : K.lookup a with
    | none => rw [e] at h; cases h
    | some o =>
      rw [e] at h
      rw [s _ _ e]
      obtain ⟨oc, od, dt, sl⟩ := o
      cases dt with
      | cls cd =>
        have h1 := eq_of_beq (show (PySem.W.specialIn K (.ref a) "__call__" == some (some (.builtin "type.__call__"))) = true from h)
        show (PySem.W.specialIn K' (.ref a) "__call__" == some (some (.builtin "type.__call__"))) = true
        rw [special_mono s h1]
        exact beq_self_eq_true _
      | func fd => rfl
      | _ => cases h
  | _ => cases h
theorem exm_mono (s : Sub K K') {t c : Value} {b : Bool} (h : PySem.W.exmOne K t c = some b) : PySem.W.exmOne K' t c = some b := by
  unfold PySem.W.exmOne at h ⊢
  split at h
  · rename_i h1
    have e1 : PySem.W.subIn K c (.type "BaseException") = some true := eq_of_beq h1
    rw [sub_mono s e1, if_pos (beq_self_eq_true _)]
    cases c with
    | ref C =>
      have h : (if ((PySem.W.clsIn K C).isSome && PySem.W.typeIn K (.ref C) == some (.type "type")) = true then PySem.W.subIn K t (.ref C) else none) = some b := h
      show (if ((PySem.W.clsIn K' C).isSome && PySem.W.typeIn K' (.ref C) == some (.type "type")) = true then PySem.W.subIn K' t (.ref C) else none) = some b
      split at h
      · rename_i h2
        obtain ⟨h3, h4⟩ := Bool.and_eq_true_iff.mp h2
        obtain ⟨cd, e3⟩ := Option.isSome_iff_exists.mp h3
        rw [cls_mono s e3, type_mono s (eq_of_beq h4), sub_mono s h]
        exact if_pos (by simp)
      · cases h
    | type T =>
      have h : (if PySem.W.kitMeta T = true then PySem.W.subIn K t (.type T) else none) = some b := h
      show (if PySem.W.kitMeta T = true then PySem.W.subIn K' t (.type T) else none) = some b
      split at h
      · rename_i h2
        rw [if_pos h2, sub_mono s h]
      · cases h
    | _ => cases h
  · cases h
theorem dict_mono (s : Sub K K') {C : Addr} (h : PySem.W.hasDictIn K C = true) : PySem.W.hasDictIn K' C = true := by
  unfold PySem.W.hasDictIn at h ⊢
  cases e : PySem.W.clsIn K C with
  | none => rw [e] at h; cases h
  | some cd => rw [cls_mono s e]; rw [e] at h; exact h
theorem OexC.mono (s : Sub K K') {C : Addr} (T : OexC K C) : OexC K' C := by
  obtain ⟨⟨nm, q, N, bs, bm, sn, sub, ab, col, dd, k0, k1, k2, k3, k5, h1, h2⟩, h3, h4, h5, h6⟩ := T
  exact ⟨⟨nm, q, N, bs, bm, sn, sub, ab, col, dd, k0, k1, k2, k3, k5, s _ _ h1, h2⟩, find_mono s h3, sub_mono s h4, type_mono s h5, keep_mono s h6⟩
theorem XfC.mono (s : Sub K K') {C : Addr} (T : XfC K C) : XfC K' C := ⟨find_mono s T.ga, find_mono s T.gg, sub_mono s T.exC, dict_mono s T.hdC⟩
theorem ExK.mono {prog : Program} (s : Sub K K') {C : Addr} {fn : List Str} (x : ExK prog K C fn) : ExK prog K' C fn := by
  obtain ⟨T, ⟨fI, cc, cda, cd, oc, ccl, cl, od, cdd, cld, osl, ccs, csl, qual, params, scope, dV, kV, doc, pm, ct, an, ar, vs, file, tf, msg, j, k0, k1, k2, k3, k4, k5, ss, x1, x2, x3, x4, x5, x6, x7, x8, x9, x10, x11, x12, x13, x14⟩, n1, n2, n3⟩ := x
  exact ⟨OexC.mono s T, ⟨fI, cc, cda, cd, oc, ccl, cl, od, cdd, cld, osl, ccs, csl, qual, params, scope, dV, kV, doc, pm, ct, an, ar, vs, file, tf, msg, j, k0, k1, k2, k3, k4, k5, ss, find_mono s x1, type_mono s x2, cls_mono s x3, along_mono s x4, sub_mono s x5, mro_mono s x6, ns_mono s x7, s _ _ x8, code_mono s x9, s _ _ x10, x11, x12, s _ _ x13, x14⟩, ns_mono s n1, fun f hf => find_mono s (n2 f hf), n3⟩
end
/-! ### the written part of __init__ -/
def storesOf : List Stmt → Option (List Str)
  | [] => some []
  | .Assign [.Attribute (.Name s _) f _] (.Name g _) _ :: r => match s == ("self" : Str) && f == g with
    | true => (storesOf r).map (f :: ·)
    | false => none
  | _ => none
theorem storesOf_ok : ∀ {ss : List Stmt} {fn : List Str}, storesOf ss = some fn → IsStores fn ss
  | [], fn, h => by cases h; exact .nil
  | st :: r, fn, h => by
    unfold storesOf at h
    split at h
    · rename_i e; cases e
    · rename_i s p1 f p2 g p3 p4 r' e
      cases e
      split at h
      · rename_i hb
        obtain ⟨h1, h2⟩ := Bool.and_eq_true_iff.mp hb
        have h1 := eq_of_beq h1
        have h2 := eq_of_beq h2
        subst h1 h2
        obtain ⟨l, e, rfl⟩ := Option.map_eq_some_iff.mp h
        exact .cons (storesOf_ok e)
      · cases h
    · cases h
def initOf : List Stmt → Option (List Str)
  | .Expr (.Call (.Attribute (.Call (.Name s _) [] [] _) i k2) [.Constant (.str _) _ _] [] k4) _ :: ss => match s == ("super" : Str) && i == ("__init__" : Str) && (k2.endLine == k4.line) with
    | true => storesOf ss
    | false => none
  | _ => none
theorem supEv_of {msg : Str} {j : Nat} {k0 k1 k2 k3 k4 : Pos} (h : (k2.endLine == k4.line) = true) : SupEv msg j k0 k1 k2 k3 k4 := fun env => by
  refine ⟨(do return (← importBound (.Call (.Name "super" k0) [] [] k1) env).getD true), ?_⟩
  have hpos : methodCallPos true (.Call (.Name "super" k0) [] [] k1) env k2 k4 = pure k4 := by unfold methodCallPos; simp [h]
  have e : eval (.Call (.Attribute (.Call (.Name "super" k0) [] [] k1) "__init__" k2) [.Constant (.str msg) j k3] [] k4) env = (do
      let ov ← attributeBase (.Call (.Name "super" k0) [] [] k1) "__init__" env (eval (.Call (.Name "super" k0) [] [] k1) env)
      standAt k2.atName
      methodCall (.Call (.Name "super" k0) [] [] k1) "__init__" k2 k4 env ov 1 (backTo k4 (starEach [.Constant (.str msg) j k3] env)) []) := rfl
  rw [e]
  have hform : methodCallForm 1 (backTo k4 (starEach [.Constant (.str msg) j k3] env)) [] = true := rfl
  unfold methodCall calleeOf
  rw [hform, hpos]
  simp only [if_true, pure_bind]
theorem initOf_ok {body : List Stmt} {fn : List Str} (h : initOf body = some fn) : ∃ msg j k0 k1 k2 k3 k4 k5 ss, body = initB msg j k0 k1 k2 k3 k4 k5 ss ∧ IsStores fn ss ∧ SupEv msg j k0 k1 k2 k3 k4 := by
  unfold initOf at h
  split at h
  · rename_i s k0 k1 i k2 msg j k3 k4 k5 ss
    split at h
    · rename_i hb
      obtain ⟨hb, h3⟩ := Bool.and_eq_true_iff.mp hb
      obtain ⟨h1, h2⟩ := Bool.and_eq_true_iff.mp hb
      have h1 := eq_of_beq h1
      have h2 := eq_of_beq h2
      subst h1 h2
      exact ⟨msg, j, k0, k1, k2, k3, k4, k5, ss, rfl, storesOf_ok h, supEv_of h3⟩
    · cases h
  · cases h
/-- an own exception class: its name, its fields, its __init__'s text -/
structure ExD where
  x : Str
  fn : List Str
  params : Arguments
  body : List Stmt
  scope : Scope
def ExD.syn (d : ExD) : Bool := decide (initOf d.body = some d.fn) && ((match (d.params.posonlyargs ++ d.params.args).head? with
  | some a => a.arg == ("self" : Str)
  | none => false) && (decide (d.scope.kind = .function) && (!d.scope.isCoroutine && (!d.scope.isGenerator && (decide (d.scope.names.lookup ("super" : Str) = some .globalImplicit) && (decide (d.scope.names.lookup ("__class__" : Str) = some .free) &&
    ((("self" : Str) :: d.fn).all (fun x => decide (d.scope.names.lookup x = some .local) && !(x == ("__debug__" : Str))) && (d.scope.names.all (fun x => !decide (x.2 = .cell)) && (decide (("self" : Str) :: d.fn).Nodup && decide (d.fn.length ≤ 800))))))))))
abbrev ExV : Type := Option (Str × Str × Arguments × FuncBody × Scope × Addr × List Str × Addr)
def exAd (K : PySem.W.Frag) (d : ExD) : Addr := He.ma K (He.ga K d.x) "__init__"
def exV (K : PySem.W.Frag) (d : ExD) : ExV := match K.lookup (exAd K d) with
  | some ⟨_, _, .func fd, _⟩ => some (fd.name, fd.qualname, fd.params, fd.body, fd.scope, fd.globals, fd.closure.map (·.1), fd.builtins)
  | _ => none
def ExD.val (d : ExD) : ExV := some ("__init__", d.x ++ ".__init__", d.params, .stmts d.body, d.scope, mainGlobals, ["__class__"], builtinsNs)
def clsO (K : PySem.W.Frag) (C : Addr) : Bool := match K.lookup C with
  | some ⟨.type t, _, .cls cd, sl⟩ => (match cd.mro, sl.toList with
    | .ref C' :: bm, [_, _, _, _, some (.builtin n), _] => decide (t = "type") && (decide (C' = C) && (decide (n = "ValueError.__new__") && (!cd.hasDel && (cd.hasDict && (PySem.HandSPX.refsVE bm &&
      (decide (PySem.W.alongIn K "__init__" ((cd.mro.dropWhile (· != .ref C)).drop 1) = some (some (.builtin "ValueError.__init__"))))))))) 
    | _, _ => false)
  | _ => false
def fncO (K : PySem.W.Frag) (fl : Str) (q : Str) (C f : Addr) : Bool := match K.lookup f with
  | some ⟨_, _, .func fd, _⟩ => (match fd.closure, fd.code, fd.defaults with
    | [(_, cc)], .ref cda, .none => PySem.W.codeIn K (.ref cda) q && ((match K.lookup cda with
        | some ⟨_, _, .fields vs, _⟩ => (match (vs[2]? : Option Value) with
          | some (.str file _) => decide (file = fl)
          | _ => false)
        | _ => false) && (match K.lookup cc with
        | some ⟨_, _, .cell (some (.ref C')), _⟩ => decide (C' = C)
        | _ => false))
    | _, _, _ => false)
  | _ => false
def exB (K : PySem.W.Frag) (fl : Str) (d : ExD) : Bool := (fun C f => He.eqO (PySem.W.nsIn K mainGlobals d.x) (some (some (.ref C))) && (clsO K C && (fncO K fl (d.x ++ ".__init__") C f && (He.eqO (PySem.W.findIn K (.ref C) "__setattr__") (some (some (.builtin "object.__setattr__"))) &&
  (decide (PySem.W.subIn K (.ref C) (.type "BaseException") = some true) && (decide (PySem.W.typeIn K (.ref C) = some (.type "type")) && (PySem.W.keepIn K (.ref C) && (He.eqO (PySem.W.findIn K (.ref C) "__init__") (some (some (.ref f))) && (decide (PySem.W.typeIn K (.ref f) = some (.type "function")) &&
  (decide (PySem.W.subIn K (.ref C) (.type "ValueError") = some true) && (decide (PySem.W.mroIn K C (.ref C) = some true) && (He.eqO (PySem.W.nsIn K cStatics "thirdparty.any") (some none) && (He.eqO (PySem.W.nsIn K mainGlobals "super") (some none) && (d.fn.all (fun g => He.eqO (PySem.W.findIn K (.ref C) g) (some none)) && xfB K C)))))))))))))) (He.ga K d.x) (exAd K d)
theorem exB_ok {prog : Program} {K : PySem.W.Frag} {fl : Str} {d : ExD} (h : exB K fl d = true) (hv : exV K d = d.val) (hs : d.syn = true) (hf : ((prog.main.file : Str) == fl) = true) (hsup : (prog.main.scope.names.lookup ("super" : Str)).isSome = false)
    (hb : ∀ (q : Str) (kV doc pm cdv ct : Value) (an : Option Addr) (cc : Addr) (us : List Value), us.length = d.fn.length + 1 → bindArgs (PySem.W.ksFn "__init__" q d.params d.body d.scope .none kV doc pm an cdv ct cc) ⟨us, []⟩ = pure ((("self" : Str) :: d.fn).zip us)) : ExK prog K (He.ga K d.x) d.fn ∧ XfC K (He.ga K d.x) := by
  unfold exB at h
  simp only [Bool.and_eq_true] at h
  obtain ⟨b1, b2, b3, b4, b5, b6, b7, b8, b9, b10, b11, b12, b13, b14, b15⟩ := h
  unfold ExD.syn at hs
  simp only [Bool.and_eq_true, decide_eq_true_eq, Bool.not_eq_true'] at hs
  obtain ⟨s1, s2, s3, s4, s5, s6, s7, s8, s9, s10, s11⟩ := hs
  have XF := xfB_ok b15
  generalize hC : He.ga K d.x = C at *
  generalize hF : exAd K d = f at *
  unfold clsO at b2
  cases eC : K.lookup C with
  | none => rw [eC] at b2; cases b2
  | some o =>
  rw [eC] at b2
  obtain ⟨oc, dd, dt, sl⟩ := o
  cases dt with
  | cls cd =>
    cases oc with
    | type t =>
      dsimp only at b2
      split at b2
      · rename_i C' bm k0 k1 k2 k3 n k5 em es
        simp only [Bool.and_eq_true, decide_eq_true_eq, Bool.not_eq_true'] at b2
        obtain ⟨c1, c2, c3, c4, c5, c6, c7⟩ := b2
        subst c1 c2 c3
        have esl : sl = #[k0, k1, k2, k3, some (.builtin "ValueError.__new__"), k5] := by
          rw [← es]
        obtain ⟨nm, bs, mro, ns, qn, hd, sn, sub, ab, col, hdel⟩ := cd
        dsimp only at em c4 c5 c7
        subst em c4 c5 esl
        unfold fncO at b3
        unfold exV at hv
        rw [hF] at hv
        cases eF : K.lookup f with
        | none => rw [eF] at b3; cases b3
        | some of =>
        rw [eF] at b3 hv
        obtain ⟨fc, fd, ft, fsl⟩ := of
        cases ft with
        | func fu =>
          obtain ⟨n1, n2, n3, n4, n5, n6, n7, n8, n9, n10, n11, n12, n13, n14, n15⟩ := fu
          dsimp only at b3 hv
          unfold ExD.val at hv
          simp only [Option.some.injEq, Prod.mk.injEq] at hv
          obtain ⟨v1, v2, v3, v4, v5, v6, v7, v8⟩ := hv
          split at b3
          · rename_i y cc cda
            simp only [List.map_cons, List.map_nil, List.cons.injEq, and_true] at v7
            subst v7
            simp only [Bool.and_eq_true] at b3
            obtain ⟨d1, d2, d3⟩ := b3
            cases e1 : K.lookup cda with
            | none => rw [e1] at d2; cases d2
            | some o1 =>
            rw [e1] at d2
            obtain ⟨a1, a2, a3, a4⟩ := o1
            cases a3 with
            | fields vs =>
              dsimp only at d2
              split at d2
              · rename_i file tf ev
                have ef := of_decide_eq_true d2
                subst ef
                cases e2 : K.lookup cc with
                | none => rw [e2] at d3; cases d3
                | some o2 =>
                rw [e2] at d3
                obtain ⟨g1, g2, g3, g4⟩ := o2
                split at d3
                · rename_i q1 q2 C2 q4 eq
                  have ec := of_decide_eq_true d3
                  subst ec
                  cases eq
                  obtain ⟨msg, j, p0, p1, p2, p3, p4, p5, ss, i1, i2, i3⟩ := initOf_ok s1
                  cases ear : (d.params.posonlyargs ++ d.params.args).head? with
                  | none => rw [ear] at s2; cases s2
                  | some ar =>
                  rw [ear] at s2
                  refine ⟨⟨⟨⟨nm, qn, ns, bs, bm, sn, sub, ab, col, dd, k0, k1, k2, k3, k5, eC, c6⟩, He.eqO_ok b4, of_decide_eq_true b5, of_decide_eq_true b6, b7⟩,
                    ⟨f, cc, cda, ⟨nm, bs, .ref _ :: bm, ns, qn, true, sn, sub, ab, col, false⟩, fc, a1, _, fd, a2, _, fsl, a4, _, d.x ++ ".__init__", d.params, d.scope, .none, n9, n10, n11, n14, n12, ar, vs, file, tf, msg, j, p0, p1, p2, p3, p4, p5, ss, He.eqO_ok b8, of_decide_eq_true b9, ?_, c7, of_decide_eq_true b10, of_decide_eq_true b11, He.eqO_ok b12, ?_, d1, e1, ev, hf, e2, i2, ear, eq_of_beq s2, s3, s4, s5, s6, s7, fun x hx => ?_, fun x hx => ?_, hsup, fun us hu => ?_, i3⟩,
                    He.eqO_ok b13, fun g hg => He.eqO_ok (List.all_eq_true.mp b14 g hg), s10⟩, XF⟩
                  · unfold PySem.W.clsIn
                    rw [eC]
                  · rw [eF, ← i1]
                    subst v1 v2 v3 v4 v5 v6 v8
                    rfl
                  · have := List.all_eq_true.mp s8 x hx
                    simpa using this
                  · have := List.all_eq_true.mp s9 x hx
                    simpa using this
                  · rw [← i1]
                    exact hb _ _ _ _ _ _ _ _ us hu
                · cases d3
              · cases d2
            | _ => cases d2
          · cases b3
        | _ => cases b3
      · cases b2
    | _ => cases b2
  | _ => cases oc <;> cases b2
end Sw

/-! BI: the hook of a head with own exception classes and makers of lambdas. -/
namespace Sw
open PySem PySem.Spec PyProof.Rows L2
def keepO (o : Obj) : Bool := noListO o && !He.emptyTab o
def noX (g : Addr → Option Obj) (a : Addr) : Option Obj := match g a with
  | some o => match keepO o with
    | true => some o
    | false => none
  | none => none
theorem noX_of {g : Addr → Option Obj} {a : Addr} {o : Obj} (h : noX g a = some o) : g a = some o ∧ keepO o = true := by
  unfold noX at h
  split at h
  · rename_i o' e
    split at h
    · rename_i e2; cases h; exact ⟨e, e2⟩
    · cases h
  · cases h
theorem noX_to {g : Addr → Option Obj} {a : Addr} {o : Obj} (h : g a = some o) (h2 : keepO o = true) : noX g a = some o := by
  unfold noX
  rw [h]
  dsimp only
  rw [h2]
/-- all that is no list and no empty table -/
def bigX (h : Heap) : PySem.W.Frag := He.frG (noX h.get?) (List.range h.objs.size)
theorem bigX_in (h : Heap) : (bigX h).In h := fun a o e => (noX_of (He.frG_at _ e)).1
theorem bigX_noL (h : Heap) : noLists (bigX h) = true := by
  unfold noLists bigX He.frG
  rw [List.all_eq_true]
  intro p hp
  obtain ⟨a, _, e⟩ := List.mem_filterMap.mp hp
  obtain ⟨o, ho, rfl⟩ := Option.map_eq_some_iff.mp e
  have := (noX_of ho).2
  unfold keepO at this
  exact (Bool.and_eq_true_iff.mp this).1
theorem bigX_out {h : Heap} {a : Addr} {o : Obj} (e : h.get? a = some o) (t : He.emptyTab o = true) : (bigX h).lookup a = none := by
  cases q : (bigX h).lookup a with
  | none => rfl
  | some u =>
    obtain ⟨h1, h2⟩ := noX_of (He.frG_at _ q)
    rw [e] at h1
    cases h1
    unfold keepO at h2
    rw [t] at h2
    simp at h2
def allK (K : PySem.W.Frag) : Bool := K.all fun p => keepO p.2
theorem allK_mem {K : PySem.W.Frag} (h : allK K = true) {a : Addr} {o : Obj} (e : K.lookup a = some o) : keepO o = true :=
  List.all_eq_true.mp h _ (He.lookup_mem e)
theorem bigX_sub {h : Heap} {as : List Addr} (n : allK (He.frG h.get? as) = true) : Sub (He.frG h.get? as) (bigX h) := fun a o e => by
  have hg := He.frG_at _ e
  exact frG_has (noX_to hg (allK_mem n e)) (List.mem_range.mpr (Heap.lt_size hg))
def refsC (o : Obj) : List Addr := He.refsO o ++ match o.data with
  | .func fd => fd.closure.map (·.2)
  | _ => []
def ex1 (g : Addr → Option Obj) (as : List Addr) : List Addr := as.flatMap fun a => match g a with
  | some o => refsC o
  | none => []
def gaG (g : Addr → Option Obj) (x : Str) : Addr := He.ga (kFg g) x
def kE (g : Addr → Option Obj) (d : ExD) : PySem.W.Frag := (fun a0 => (fun a1 => (fun a2 => He.frG g (mainGlobals :: cStatics :: (a0 ++ (a1 ++ (a2 ++ ex1 g a2))))) (ex1 g a1)) (ex1 g a0)) [gaG g d.x]
def kP (g : Addr → Option Obj) (c1 c2 : Str) : PySem.W.Frag := He.frG g [mainGlobals, gaG g c1, gaG g c2]
def okX (g : Addr → Option Obj) (d : He.DefD) : Bool := d.at_.2.isNone && (d.dfl.all dvS && (d.kwd.isEmpty && (allK (kFd g d) && d.ok (kFd g d))))
def tabX1 (g : Addr → Option Obj) (d : He.DefD) : Bool := (fun q => PySem.W.codeHdIn (kFd g d) q.1 q.2 && (match g q.2 with
  | some o => He.emptyTab o
  | none => false)) (He.cT (kFd g d) d.at_)
def pairB (g : Addr → Option Obj) (q : (Str × Str) × Bool) : Bool := allK (kP g q.1.1 q.1.2) && decide (PySem.W.exmOne (kP g q.1.1 q.1.2) (.ref (He.ga (kP g q.1.1 q.1.2) q.1.1)) (.ref (He.ga (kP g q.1.1 q.1.2) q.1.2)) = some q.2)
structure XHd where
  fa : List He.Fa
  fn : List He.DefD
  tf : List He.DefD
  ec : List ExD
  sb : List ((Str × Str) × Bool)
  fl : Str
abbrev AlX : Type := He.AlD × List ExV
def obsX (D : XHd) (g : Addr → Option Obj) : AlX := (((D.fa.all fun f => faS f && f.ok (kFg g)) && (allK (kFg g) && ((D.fn.all fun d => okX g d) && ((D.tf.all fun d => tabX1 g d) && (decide (D.tf.map fun d => (He.cT (kFd g d) d.at_).2).Nodup && ((D.ec.all fun d => allK (kE g d) && exB (kE g d) D.fl d) && D.sb.all fun q => pairB g q))))),
  D.fn.map fun d => He.fnW (kFd g d) d.at_), D.ec.map fun d => exV (kE g d) d)
def XHd.val (D : XHd) : AlX := (He.valD D.fn, D.ec.map ExD.val)
def glB (fa : List He.Fa) (x : Str) : Bool := fa.any fun f => match f with
  | .glo y => y == x
  | _ => false
def XHd.syn (D : XHd) : Bool := (D.fn.all fun d => glB D.fa d.at_.1) && ((D.tf.all fun d => D.fn.any fun e => decide (e.at_ = d.at_)) && ((D.ec.all fun d => glB D.fa d.x) && D.sb.all fun q => glB D.fa q.1.1 && glB D.fa q.1.2))
structure SaysX (D : XHd) (h : Heap) (K : PySem.W.Frag) : Prop where
  n : SaysN D.fa D.fn K
  hd : ∀ d ∈ D.tf, PySem.W.codeHdIn K (He.cT K d.at_).1 (He.cT K d.at_).2 = true
  out : ∀ d ∈ D.tf, K.lookup (He.cT K d.at_).2 = none
  empty : ∀ d ∈ D.tf, h.get? (He.cT K d.at_).2 = some { cls := .none, data := .fields #[] }
  nd : (D.tf.map fun d => (He.cT K d.at_).2).Nodup
  ex : ∀ d ∈ D.ec, ∃ K0, Sub K0 K ∧ He.ga K0 d.x = He.ga K d.x ∧ exB K0 D.fl d = true ∧ exV K0 d = d.val
  sb : ∀ q ∈ D.sb, PySem.W.exmOne K (.ref (He.ga K q.1.1)) (.ref (He.ga K q.1.2)) = some q.2
theorem kFg_sub {g : Addr → Option Obj} {as : List Addr} : Sub (kFg g) (He.frG g (mainGlobals :: as)) := fun a o e => by
  have hg := He.frG_at _ e
  refine frG_has hg ?_
  by_cases ha : a = mainGlobals
  · rw [ha]; exact List.mem_cons_self
  · exfalso
    unfold kFg He.frG at e
    rw [List.filterMap_cons] at e
    cases hm : g mainGlobals with
    | none => rw [hm] at e; cases e
    | some ob =>
      rw [hm] at e
      have e : List.lookup a [(mainGlobals, ob)] = some o := e
      rw [List.lookup_cons, beq_eq_false_iff_ne.mpr ha] at e
      cases e
theorem codeHd_mono {K K' : PySem.W.Frag} (s : Sub K K') {c P : Addr} (h : PySem.W.codeHdIn K c P = true) : PySem.W.codeHdIn K' c P = true := by
  unfold PySem.W.codeHdIn at h ⊢
  cases e : K.lookup c with
  | none => rw [e] at h; cases h
  | some o => rw [e] at h; rw [s _ _ e]; exact h
theorem cT_mono {K K' : PySem.W.Frag} (s : Sub K K') {x : Str} (hg : PySem.W.nsIn K mainGlobals x = some (some (.ref (He.ga K x)))) {oc : Value} {od : Option Addr} {fd : FuncData} {sl : Array (Option Value)} (hl : K.lookup (He.fAd K (x, none)) = some ⟨oc, od, .func fd, sl⟩)
    (h : PySem.W.codeHdIn K (He.cT K (x, none)).1 (He.cT K (x, none)).2 = true) : He.cT K' (x, none) = He.cT K (x, none) := by
  have ef : He.fAd K' (x, none) = He.fAd K (x, none) := ga_mono s hg
  have ec : He.codeOf K' (x, none) = He.codeOf K (x, none) := by
    unfold He.codeOf
    rw [ef, s _ _ hl, hl]
  unfold He.cT at h ⊢
  rw [ec]
  congr 1
  dsimp only at h
  unfold PySem.W.codeHdIn at h
  unfold He.tabOf
  cases e : K.lookup (He.codeOf K (x, none)) with
  | none => rw [e] at h; cases h
  | some o => rw [s _ _ e]
theorem fnW_look {K : PySem.W.Frag} {d : He.DefD} (h : d.ok K = true) : ∃ oc od fd sl, K.lookup (He.fAd K d.at_) = some ⟨oc, od, .func fd, sl⟩ := by
  obtain ⟨_, k2⟩ := He.ba h
  cases e : K.lookup (He.fAd K d.at_) with
  | none => rw [e] at k2; cases k2
  | some o =>
    rw [e] at k2
    obtain ⟨oc, od, dt, sl⟩ := o
    cases dt with
    | func fd => exact ⟨oc, od, fd, sl, rfl⟩
    | _ => cases k2
theorem saysX_of {D : XHd} {h : Heap} (e : obsX D h.get? = D.val) (hg : D.syn = true) : (bigX h).In h ∧ SaysX D h (bigX h) := by
  have e1 := congrArg (fun z : AlX => z.1.1) e
  have e2 : (D.fn.map fun d => He.fnW (kFd h.get? d) d.at_) = D.fn.map He.DefD.val := congrArg (fun z : AlX => z.1.2) e
  have e3 : (D.ec.map fun d => exV (kE h.get? d) d) = D.ec.map ExD.val := congrArg Prod.snd e
  have e1 : ((D.fa.all fun f => faS f && f.ok (kFg h.get?)) && (allK (kFg h.get?) && ((D.fn.all fun d => okX h.get? d) && ((D.tf.all fun d => tabX1 h.get? d) && (decide (D.tf.map fun d => (He.cT (kFd h.get? d) d.at_).2).Nodup && ((D.ec.all fun d => allK (kE h.get? d) && exB (kE h.get? d) D.fl d) && D.sb.all fun q => pairB h.get? q)))))) = true := e1
  simp only [Bool.and_eq_true] at e1
  obtain ⟨c1, c2, c3, c4, c7, c5, c6⟩ := e1
  unfold XHd.syn at hg
  simp only [Bool.and_eq_true] at hg
  obtain ⟨g1, g2, g3, g4⟩ := hg
  have sG : Sub (kFg h.get?) (bigX h) := bigX_sub c2
  have F : ∀ f ∈ D.fa, f.ok (bigX h) = true := fun f hf => by
    obtain ⟨b1, b2⟩ := He.ba (List.all_eq_true.mp c1 f hf)
    exact fa_mono sG b1 b2
  have gl : ∀ {x : Str}, glB D.fa x = true → PySem.W.nsIn (kFg h.get?) mainGlobals x = some (some (.ref (He.ga (kFg h.get?) x))) := fun {x} hx => by
    obtain ⟨f, hf, hx⟩ := List.any_eq_true.mp hx
    cases f with
    | glo y =>
      have hx : y = x := eq_of_beq hx
      subst hx
      exact He.eqO_ok (He.ba (List.all_eq_true.mp c1 _ hf)).2
    | _ => cases hx
  have gs : ∀ {x : Str} {K : PySem.W.Frag}, glB D.fa x = true → Sub (kFg h.get?) K → PySem.W.nsIn K mainGlobals x = some (some (.ref (He.ga K x))) ∧ He.ga K x = He.ga (kFg h.get?) x := fun {x K} hx s => by
    have q := gl hx
    have e := ga_mono s q
    exact ⟨by rw [e]; exact ns_mono s q, e⟩
  have one : ∀ d ∈ D.fn, d.at_.2 = none ∧ Sub (kFd h.get? d) (bigX h) ∧ d.ok (kFd h.get? d) = true ∧ PySem.W.nsIn (kFd h.get? d) mainGlobals d.at_.1 = some (some (.ref (He.ga (kFd h.get? d) d.at_.1))) := fun d hd => by
    obtain ⟨b1, b2⟩ := He.ba (List.all_eq_true.mp c3 d hd)
    obtain ⟨b2, b3⟩ := He.ba b2
    obtain ⟨b3, b4⟩ := He.ba b3
    obtain ⟨b4, b5⟩ := He.ba b4
    exact ⟨Option.isNone_iff_eq_none.mp b1, bigX_sub b4, b5, (gs (List.all_eq_true.mp g1 d hd) kF_g).1⟩
  have Df : ∀ d ∈ D.fn, d.ok (bigX h) = true ∧ He.fnW (bigX h) d.at_ = He.fnW (kFd h.get? d) d.at_ := fun d hd => by
    obtain ⟨b1, b2⟩ := He.ba (List.all_eq_true.mp c3 d hd)
    obtain ⟨b2, b3⟩ := He.ba b2
    obtain ⟨b3, b4⟩ := He.ba b3
    obtain ⟨o1, o2, o3, o4⟩ := one d hd
    exact def_mono o2 o1 b2 (List.isEmpty_iff.mp b3) o3 o4
  have Tb : ∀ d ∈ D.tf, PySem.W.codeHdIn (bigX h) (He.cT (bigX h) d.at_).1 (He.cT (bigX h) d.at_).2 = true ∧ (He.cT (bigX h) d.at_).2 = (He.cT (kFd h.get? d) d.at_).2 ∧ ∃ o, h.get? (He.cT (bigX h) d.at_).2 = some o ∧ He.emptyTab o = true := fun d hd => by
    obtain ⟨d2, hd2, ed⟩ := List.any_eq_true.mp (List.all_eq_true.mp g2 d hd)
    have ed : d2.at_ = d.at_ := of_decide_eq_true ed
    obtain ⟨o1, o2, o3, o4⟩ := one d2 hd2
    have ek : kFd h.get? d2 = kFd h.get? d := by unfold kFd; rw [ed]
    rw [ek] at o2 o3 o4
    obtain ⟨oc, od, fd, sl, lk⟩ := fnW_look o3
    rw [ed] at o1 o4 lk
    obtain ⟨t1, t2⟩ := He.ba (show (PySem.W.codeHdIn (kFd h.get? d) (He.cT (kFd h.get? d) d.at_).1 (He.cT (kFd h.get? d) d.at_).2 && (match h.get? (He.cT (kFd h.get? d) d.at_).2 with
      | some o => He.emptyTab o
      | none => false)) = true from List.all_eq_true.mp c4 d hd)
    have e0 : d.at_ = (d.at_.1, none) := Prod.ext rfl o1
    rw [e0] at lk t1 t2 ⊢
    have ec := cT_mono o2 o4 lk t1
    rw [ec]
    refine ⟨codeHd_mono o2 t1, rfl, ?_⟩
    cases q : h.get? (He.cT (kFd h.get? d) (d.at_.1, none)).2 with
    | none => rw [q] at t2; cases t2
    | some o => rw [q] at t2; exact ⟨o, rfl, t2⟩
  refine ⟨bigX_in h, ⟨?_, bigX_noL h⟩, fun d hd => (Tb d hd).1, fun d hd => ?_, fun d hd => ?_, ?_, fun d hd => ?_, fun q hq => ?_⟩
  · show ((D.fa.all fun f => f.ok (bigX h)) && D.fn.all fun d => d.ok (bigX h), D.fn.map fun d => He.fnW (bigX h) d.at_) = (true, D.fn.map He.DefD.val)
    rw [show (D.fa.all fun f => f.ok (bigX h)) = true from List.all_eq_true.mpr F, show (D.fn.all fun d => d.ok (bigX h)) = true from List.all_eq_true.mpr fun d hd => (Df d hd).1, ← e2]
    congr 1
    exact List.map_congr_left fun d hd => (Df d hd).2
  · obtain ⟨_, _, o, q, z⟩ := Tb d hd
    exact bigX_out q z
  · obtain ⟨_, _, o, q, z⟩ := Tb d hd
    rw [q, He.emptyTab_eq z]
  · rw [List.map_congr_left (g := fun d => (He.cT (kFd h.get? d) d.at_).2) fun d hd => (Tb d hd).2.1]
    exact of_decide_eq_true c7
  · obtain ⟨b1, b2⟩ := He.ba (List.all_eq_true.mp c5 d hd)
    have s1 : Sub (kE h.get? d) (bigX h) := bigX_sub b1
    have s0 : Sub (kFg h.get?) (kE h.get? d) := kFg_sub
    have hx := List.all_eq_true.mp g3 d hd
    refine ⟨_, s1, by rw [(gs hx s0).2, (gs hx sG).2], b2, ?_⟩
    obtain ⟨i, hi, ei⟩ := List.mem_iff_getElem.mp hd
    have e4 : (D.ec.map fun d => exV (kE h.get? d) d)[i]? = (D.ec.map ExD.val)[i]? := by rw [e3]
    rw [List.getElem?_map, List.getElem?_map, List.getElem?_eq_getElem hi, ei] at e4
    exact Option.some.inj e4
  · obtain ⟨b1, b2⟩ := He.ba (List.all_eq_true.mp c6 q hq)
    obtain ⟨h1, h2⟩ := He.ba (List.all_eq_true.mp g4 q hq)
    have s1 : Sub (kP h.get? q.1.1 q.1.2) (bigX h) := bigX_sub b1
    have s0 : Sub (kFg h.get?) (kP h.get? q.1.1 q.1.2) := kFg_sub
    have := exm_mono s1 (of_decide_eq_true b2)
    rw [(gs h1 s0).2, (gs h2 s0).2] at this
    rw [(gs h1 sG).2, (gs h2 sG).2]
    exact this
def hookX (D : XHd) (hg : D.syn = true) : PySem.W.Hook where
  α := AlX
  obs := fun s => obsX D s.heap.get?
  val := fun _ => D.val
  says := fun _ h => ∃ K : PySem.W.Frag, K.In h ∧ SaysX D h K
  of := fun _ _ e => ⟨_, saysX_of e hg⟩
  keeps := fun _ _ _ ⟨K, hK, c⟩ k => ⟨K, PySem.W.Frag.In.keeps hK k, ⟨c.n, c.hd, c.out, fun p hp => k _ _ (c.empty p hp), c.nd, c.ex, c.sb⟩⟩
theorem obsX_eq {D : XHd} {hg : D.syn = true} {g : Addr → Option Obj} {s : Shared} (h : ∀ a, g a = s.heap.get? a) : obsX D g = (hookX D hg).obs s := by
  have e : g = s.heap.get? := funext h
  rw [e] <;> rfl
end Sw

namespace K21
open PySem PySem.Spec PyProof.Rows L2 Sw
def tp (i : Nat) : Stmt := PySem.Challenge.pw_swaprails_k21_papers_by_hand.main.body.getD i (.Pass ⟨0, 0, 0, 0⟩)
def initSt (s : Stmt) : Stmt := match s with
  | .ClassDef _ _ _ body _ _ _ _ _ _ _ => (body.find? fun t => match t with
    | .FunctionDef n _ _ _ _ _ _ _ _ _ => n == ("__init__" : Str)
    | _ => false).getD s
  | _ => s
def e0 : He.DefD := ⟨("is_integer", none), "is_integer", "is_integer", defArgs (tp 12), defBody (tp 12), defScope (tp 12), [], []⟩
def e1 : He.DefD := ⟨("are_lengths", none), "are_lengths", "are_lengths", defArgs (tp 13), defBody (tp 13), defScope (tp 13), [], []⟩
def e2 : He.DefD := ⟨("is_pair_to", none), "is_pair_to", "is_pair_to", defArgs (tp 14), defBody (tp 14), defScope (tp 14), [], []⟩
def e3 : He.DefD := ⟨("is_branch", none), "is_branch", "is_branch", defArgs (tp 15), defBody (tp 15), defScope (tp 15), [], []⟩
def e4 : He.DefD := ⟨("is_joint", none), "is_joint", "is_joint", defArgs (tp 16), defBody (tp 16), defScope (tp 16), [], []⟩
def e5 : He.DefD := ⟨("all_ends", none), "all_ends", "all_ends", defArgs (tp 17), defBody (tp 17), defScope (tp 17), [], []⟩
def e6 : He.DefD := ⟨("are_feeds", none), "are_feeds", "are_feeds", defArgs (tp 18), defBody (tp 18), defScope (tp 18), [], []⟩
def e7 : He.DefD := ⟨("wrong_joint", none), "wrong_joint", "wrong_joint", defArgs (tp 19), defBody (tp 19), defScope (tp 19), [], []⟩
def e8 : He.DefD := ⟨("need_layout", none), "need_layout", "need_layout", defArgs (tp 20), defBody (tp 20), defScope (tp 20), [], []⟩
def e9 : He.DefD := ⟨("links_of", none), "links_of", "links_of", defArgs (tp 21), defBody (tp 21), defScope (tp 21), [], []⟩
def e10 : He.DefD := ⟨("is_link", none), "is_link", "is_link", defArgs (tp 22), defBody (tp 22), defScope (tp 22), [], []⟩
def e11 : He.DefD := ⟨("ends_in", none), "ends_in", "ends_in", defArgs (tp 23), defBody (tp 23), defScope (tp 23), [], []⟩
def e12 : He.DefD := ⟨("is_cut_in", none), "is_cut_in", "is_cut_in", defArgs (tp 24), defBody (tp 24), defScope (tp 24), [], []⟩
def e13 : He.DefD := ⟨("crossing", none), "crossing", "crossing", defArgs (tp 25), defBody (tp 25), defScope (tp 25), [], []⟩
def e14 : He.DefD := ⟨("link_between", none), "link_between", "link_between", defArgs (tp 26), defBody (tp 26), defScope (tp 26), [], []⟩
def e15 : He.DefD := ⟨("need_span", none), "need_span", "need_span", defArgs (tp 31), defBody (tp 31), defScope (tp 31), [], []⟩
def e16 : He.DefD := ⟨("ties_in", none), "ties_in", "ties_in", defArgs (tp 32), defBody (tp 32), defScope (tp 32), [], []⟩
def e17 : He.DefD := ⟨("spread", none), "spread", "spread", defArgs (tp 33), defBody (tp 33), defScope (tp 33), [], []⟩
def e18 : He.DefD := ⟨("signs_in", none), "signs_in", "signs_in", defArgs (tp 34), defBody (tp 34), defScope (tp 34), [], []⟩
def e19 : He.DefD := ⟨("is_round", none), "is_round", "is_round", defArgs (tp 35), defBody (tp 35), defScope (tp 35), [], []⟩
def e20 : He.DefD := ⟨("is_step", none), "is_step", "is_step", defArgs (tp 36), defBody (tp 36), defScope (tp 36), [], []⟩
def e21 : He.DefD := ⟨("is_odd_in", none), "is_odd_in", "is_odd_in", defArgs (tp 37), defBody (tp 37), defScope (tp 37), [], []⟩
def e22 : He.DefD := ⟨("is_odd", none), "is_odd", "is_odd", defArgs (tp 38), defBody (tp 38), defScope (tp 38), [], []⟩
def e23 : He.DefD := ⟨("links_along", none), "links_along", "links_along", defArgs (tp 40), defBody (tp 40), defScope (tp 40), [], []⟩
def e24 : He.DefD := ⟨("is_route", none), "is_route", "is_route", defArgs (tp 41), defBody (tp 41), defScope (tp 41), [], []⟩
def e25 : He.DefD := ⟨("is_stand_in", none), "is_stand_in", "is_stand_in", defArgs (tp 42), defBody (tp 42), defScope (tp 42), [], []⟩
def e26 : He.DefD := ⟨("cells_in", none), "cells_in", "cells_in", defArgs (tp 43), defBody (tp 43), defScope (tp 43), [], []⟩
def e27 : He.DefD := ⟨("need_sound", none), "need_sound", "need_sound", defArgs (tp 45), defBody (tp 45), defScope (tp 45), [], []⟩
def e28 : He.DefD := ⟨("is_bad_by", none), "is_bad_by", "is_bad_by", defArgs (tp 46), defBody (tp 46), defScope (tp 46), [], []⟩
def e29 : He.DefD := ⟨("settings_in", none), "settings_in", "settings_in", defArgs (tp 48), defBody (tp 48), defScope (tp 48), [], []⟩
def e30 : He.DefD := ⟨("chosen_in", none), "chosen_in", "chosen_in", defArgs (tp 49), defBody (tp 49), defScope (tp 49), [], []⟩
def e31 : He.DefD := ⟨("is_crowd_in", none), "is_crowd_in", "is_crowd_in", defArgs (tp 50), defBody (tp 50), defScope (tp 50), [], []⟩
def e32 : He.DefD := ⟨("is_crowd", none), "is_crowd", "is_crowd", defArgs (tp 51), defBody (tp 51), defScope (tp 51), [], []⟩
def e33 : He.DefD := ⟨("do_fit", none), "do_fit", "do_fit", defArgs (tp 56), defBody (tp 56), defScope (tp 56), [], []⟩
def e34 : He.DefD := ⟨("are_rows", none), "are_rows", "are_rows", defArgs (tp 59), defBody (tp 59), defScope (tp 59), [], []⟩
def e35 : He.DefD := ⟨("need_form", none), "need_form", "need_form", defArgs (tp 57), defBody (tp 57), defScope (tp 57), [], []⟩
def e36 : He.DefD := ⟨("check_sound", none), "check_sound", "check_sound", defArgs (tp 58), defBody (tp 58), defScope (tp 58), [], []⟩
def e37 : He.DefD := ⟨("check_free", none), "check_free", "check_free", defArgs (tp 60), defBody (tp 60), defScope (tp 60), [], []⟩
def e38 : He.DefD := ⟨("check_bad", none), "check_bad", "check_bad", defArgs (tp 61), defBody (tp 61), defScope (tp 61), [], []⟩
def e39 : He.DefD := ⟨("_law_empty_right", none), "_law_empty_right", "_law_empty_right", defArgs (tp 64), defBody (tp 64), defScope (tp 64), [], []⟩
def e40 : He.DefD := ⟨("law", none), "law", "law", defArgs (tp 65), defBody (tp 65), defScope (tp 65), [], []⟩
def e41 : He.DefD := ⟨("_law_word", none), "_law_word", "_law_word", defArgs (tp 63), defBody (tp 63), defScope (tp 63), [], []⟩
def fn : List He.DefD := [e0, e1, e2, e3, e4, e5, e6, e7, e8, e9, e10, e11, e12, e13, e14, e15, e16, e17, e18, e19, e20, e21, e22, e23, e24, e25, e26, e27, e28, e29] ++ [e30, e31, e32, e33, e34, e35, e36, e37, e38, e39, e40, e41]
def fa0 : List He.Fa := [.glo "is_integer", .glo "are_lengths", .glo "is_pair_to", .glo "is_branch", .glo "is_joint", .glo "all_ends", .glo "are_feeds", .glo "wrong_joint"]
def fa1 : List He.Fa := [.glo "need_layout", .glo "links_of", .glo "is_link", .glo "ends_in", .glo "is_cut_in", .glo "crossing", .glo "link_between", .glo "need_span"]
def fa2 : List He.Fa := [.glo "ties_in", .glo "spread", .glo "signs_in", .glo "is_round", .glo "is_step", .glo "is_odd_in", .glo "is_odd", .glo "links_along"]
def fa3 : List He.Fa := [.glo "is_route", .glo "is_stand_in", .glo "cells_in", .glo "need_sound", .glo "is_bad_by", .glo "settings_in", .glo "chosen_in", .glo "is_crowd_in"]
def fa4 : List He.Fa := [.glo "is_crowd", .glo "do_fit", .glo "are_rows", .glo "need_form", .glo "check_sound", .glo "check_free", .glo "check_bad", .glo "_law_empty_right"]
def fa5 : List He.Fa := [.glo "law", .glo "_law_word", .free "len", .free "int", .free "min", .free "max", .free "all", .free "any"]
def fa6 : List He.Fa := [.free "sum", .free "tuple", .free "list", .free "isinstance", .free "bool", .free "str", .free "dict", .free "range"]
def fa7 : List He.Fa := [.free "enumerate", .free "zip", .free "sorted", .free "repr", .free "set", .int "MOST_PIECES" 10, .int "LEAST_CELLS" 2, .int "MOST_CELLS" 9]
def fa8 : List He.Fa := [.int "MOST_JOINTS" 10, .int "MOST_BRANCHES" 3, .int "POWER" (-1), .str "LINK" "link", .str "FEED" "feed", .str "SIGNS" "signs", .str "ODD" "odd", .str "BAD" "bad"]
def fa9 : List He.Fa := [.glo "BadPaper"]
def fa : List He.Fa := fa0 ++ fa1 ++ fa2 ++ fa3 ++ fa4 ++ fa5 ++ fa6 ++ fa7 ++ fa8 ++ fa9
def loose : List Str := (["__name__", "RailError", "BadLayout", "BadSpan", "BadPaper", "NotSound", "MOST_PIECES", "LEAST_CELLS", "MOST_CELLS", "MOST_JOINTS", "MOST_BRANCHES", "is_integer", "are_lengths", "is_pair_to", "is_branch", "is_joint", "all_ends", "are_feeds", "wrong_joint", "need_layout", "links_of", "is_link", "ends_in", "is_cut_in", "crossing", "link_between", "POWER", "LINK", "FEED", "need_span"] : List Str) ++ (["ties_in", "spread", "signs_in", "is_round", "is_step", "is_odd_in", "is_odd", "links_along", "is_route", "is_stand_in", "cells_in", "need_sound", "is_bad_by", "settings_in", "chosen_in", "is_crowd_in", "is_crowd", "SIGNS", "ODD", "BAD", "do_fit", "need_form", "check_sound", "are_rows", "check_free", "check_bad", "_law_word", "_law_empty_right"] : List Str)
def ex0 : ExD := ⟨"BadPaper", ["word"], defArgs (initSt (tp 4)), defBody (initSt (tp 4)), defScope (initSt (tp 4))⟩
def hd : XHd := ⟨fa, fn, [e39, e40], [ex0], ((("BadPaper", "BadPaper")), true) :: [], PySem.Challenge.pw_swaprails_k21_papers_by_hand.main.file⟩
theorem hsyn : hd.syn = true := by kernel_rfl
abbrev R : PySem.W.OpenRow := PySem.W.OpenLaw.row PySem.Challenge.rw_swaprails_k21_papers_by_hand
abbrev hk : PySem.W.Hook := Sw.hookX hd hsyn
def ob (s : PySem.W.SharedT) : AlX := Sw.obsX hd (HandSHeadRun.getT s)
theorem ob_eq (s : PySem.W.SharedT) : ob s = hk.obs s.abs := Sw.obsX_eq (HandSHeadRun.getT_eq s)
theorem run1 (w : World) (os : OsState) : (HandSHeadRun.endF (HandSHeadRun.stepQ (HandSHeadRun.denQ HandSHeadRun.tabQ) R.prog w) 6000 R.prog w os).map (fun s => HandSHeadRun.looksF R.prog (PySem.W.boot_heap w.params) s.abs) = some true := by kernel_rfl
theorem run2 (w : World) (os : OsState) : (HandSHeadRun.endF (HandSHeadRun.stepQ (HandSHeadRun.denQ HandSHeadRun.tabQ) R.prog w) 6000 R.prog w os).map (fun s => HandSHeadRun.seenQ (PySem.W.view R.prog [65]) loose (PySem.importedModules R.prog.main.body) (fun s => PySem.W.xlAt (PySem.W.view R.prog [65]) [] s && PySem.W.recOk R.toRowW.records s) s.abs) = some (PySem.W.openGood (PySem.W.view R.prog [65]) loose) := by kernel_rfl
theorem run3 (w : World) (os : OsState) : (HandSHeadRun.endF (HandSHeadRun.stepQ (HandSHeadRun.denQ HandSHeadRun.tabQ) R.prog w) 6000 R.prog w os).map ob = some (hk.val w) := by kernel_rfl
theorem run (w : World) : HandSHeadRun.RunEq R (PySem.W.view R.prog [65]) hk ob 6000 loose w := fun os => Sw.parts3 (run1 w os) (run2 w os) (run3 w os)
end K21


/-! EngN: dicts whose keys are tuples within tuples (whole numbers, truth values, None; no texts), over the abstract heap. -/
namespace Sw
open PySem PySem.Spec PyProof.Rows L2

mutual
def nkHash : NestedKey → Int
  | .none => reduceHash 0xFCA86420
  | .num i => hashInt i
  | .text _ => 0
  | .tup ks => reduceHash (Builtin.Tuple.tupleHashOf (nkHashes ks))
def nkHashes : List NestedKey → List Int
  | [] => []
  | k :: ks => nkHash k :: nkHashes ks
end
mutual
/-- the value v is the key q -/
def NK (H : Hp) : NestedKey → V → Prop
  | .none, v => v = .non
  | .num i, v => v = .int i ∨ ∃ b : Bool, v = .bl b ∧ i = if b = true then 1 else 0
  | .text _, _ => False
  | .tup ks, v => ∃ a vs, v = .ref a ∧ H a = some (.tup vs) ∧ NKs H ks vs
def NKs (H : Hp) : List NestedKey → List V → Prop
  | [], vs => vs = []
  | k :: ks, vs => ∃ v r, vs = v :: r ∧ NK H k v ∧ NKs H ks r
end
mutual
theorem NK.hash {H : Hp} (w : World) : ∀ (q : NestedKey) (v : V), NK H q v → q.hash w = nkHash q
  | .none, _, _ => by simp only [NestedKey.hash, nkHash]
  | .num i, _, _ => by simp only [NestedKey.hash, nkHash]
  | .text _, _, h => False.elim h
  | .tup ks, v, h => by
    obtain ⟨a, vs, _, _, h⟩ := h
    simp only [NestedKey.hash, nkHash, NKs.hash w ks vs h]
theorem NKs.hash {H : Hp} (w : World) : ∀ (ks : List NestedKey) (vs : List V), NKs H ks vs → NestedKey.hashes w ks = nkHashes ks
  | [], _, _ => by simp only [NestedKey.hashes, nkHashes]
  | k :: ks, vs, h => by
    obtain ⟨v, r, _, h1, h2⟩ := h
    simp only [NestedKey.hashes, nkHashes, NK.hash w k v h1, NKs.hash w ks r h2]
end
mutual
theorem NK.keep {H H' : Hp} (e : ∀ b ys, H b = some (.tup ys) → H' b = some (.tup ys)) : ∀ (q : NestedKey) (v : V), NK H q v → NK H' q v
  | .none, _, h => h
  | .num i, _, h => h
  | .text _, _, h => False.elim h
  | .tup ks, v, h => by
    obtain ⟨a, vs, h1, h2, h⟩ := h
    exact ⟨a, vs, h1, e _ _ h2, NKs.keep e ks vs h⟩
theorem NKs.keep {H H' : Hp} (e : ∀ b ys, H b = some (.tup ys) → H' b = some (.tup ys)) : ∀ (ks : List NestedKey) (vs : List V), NKs H ks vs → NKs H' ks vs
  | [], _, h => h
  | k :: ks, vs, h => by
    obtain ⟨v, r, h0, h1, h2⟩ := h
    exact ⟨v, r, h0, NK.keep e k v h1, NKs.keep e ks r h2⟩
end
mutual
theorem NK.nested {P : Program} {w : World} {H : Hp} {h : Heap} (ok : HOk P w H h) : ∀ (q : NestedKey) (v : V) (u : Value), NK H q v → RelV v u → NestedIs h q u
  | .none, v, u, x, r => by
    cases (show v = .non from x)
    cases (show u = Value.none from r)
    exact .none
  | .num i, v, u, x, r => by
    rcases (show v = .int i ∨ ∃ b : Bool, v = .bl b ∧ i = if b = true then 1 else 0 from x) with e | ⟨b, e, e2⟩
    · subst e
      obtain ⟨t, rfl⟩ := (show ∃ t, u = Value.int i t from r)
      exact .int _ _
    · subst e
      cases (show u = Value.bool b from r)
      exact .bool e2
  | .text _, v, u, x, r => False.elim x
  | .tup ks, v, u, x, r => by
    obtain ⟨a, vs, e, h2, hk⟩ := x
    subst e
    cases (show u = Value.ref a from r)
    obtain ⟨_, its, rr, o, h1, h3, n, h4⟩ := (show ObjOk P w H h a (.tup vs) from ok a _ h2)
    exact .tup h1 h3 h4 (by simpa using NKs.nested ok ks vs its hk rr)
theorem NKs.nested {P : Program} {w : World} {H : Hp} {h : Heap} (ok : HOk P w H h) : ∀ (ks : List NestedKey) (vs : List V) (us : List Value), NKs H ks vs → Vals vs us → NestedAll h ks us
  | [], vs, us, x, r => by
    cases (show vs = [] from x)
    cases r
    exact .nil
  | k :: ks, vs, us, x, r => by
    obtain ⟨v, rs, e, h1, h2⟩ := x
    subst e
    cases r with
    | cons r1 r2 => exact .cons (NK.nested ok k v _ h1 r1) (NKs.nested ok ks rs _ h2 r2)
end

/-! ### the dict -/
abbrev NE := NestedKey × Addr × V
def nEntry (x : NestedKey × Addr × Value) : DictEntry := ⟨nkHash x.1, .ref x.2.1, x.2.2⟩
abbrev NT (xs : List NE) (ys : List (NestedKey × Addr × Value)) : Prop := Paired (fun (p : NE) (q : NestedKey × Addr × Value) => p.1 = q.1 ∧ p.2.1 = q.2.1 ∧ RelV p.2.2 q.2.2) xs ys
def NPhi (a : Addr) (xs : List NE) : Heap → Prop := fun h => ∃ ys : List (NestedKey × Addr × Value), NT xs ys ∧
  ∃ o es ep, h.get? a = some o ∧ o.ExactDict ∧ o.data = .dict es ep ∧ es.toList = ys.map nEntry
def NDict (a : Addr) (xs : List NE) : HO := .ext (NPhi a xs)
structure NAt (H : Hp) (a : Addr) (xs : List NE) : Prop where
  at_ : H a = some (NDict a xs)
  sys : (a == sysModules) = false
  keys : ∀ x ∈ xs, NK H x.1 (.ref x.2.1)
  deep : ∀ x ∈ xs, x.1.depth ≤ 8
  nod : (xs.map (·.1)).Nodup
  size : xs.length ≤ sizeLine
def valN (xs : List NE) (q : NestedKey) : Option V := (xs.find? fun x => decide (x.1 = q)).map (·.2.2)
def putN (xs : List NE) (q : NestedKey) (b : Addr) (v : V) : List NE := match valN xs q with
  | some _ => xs.map fun x => if x.1 = q then (x.1, x.2.1, v) else x
  | none => xs ++ [(q, b, v)]
def DGetN (H : Hp) (a : Addr) (y : V) (r : Option V) : Prop := ∃ xs q b, NAt H a xs ∧ y = .ref b ∧ NK H q (.ref b) ∧ q.depth ≤ 8 ∧ r = valN xs q
def DPutN (H : Hp) (a : Addr) (y v : V) (H' : Hp) : Prop := ∃ xs q b, NAt H a xs ∧ y = .ref b ∧ NK H q (.ref b) ∧ q.depth ≤ 8 ∧ xs.length < sizeLine ∧ H' = upd H a (NDict a (putN xs q b v))
def DGetA (H : Hp) (a : Addr) (y : V) (r : Option V) : Prop := DGet H a y r ∨ DGetN H a y r
def DPutA (H : Hp) (a : Addr) (y v : V) (H' : Hp) : Prop := DPut H a y v H' ∨ DPutN H a y v H'

theorem NT.keys {xs : List NE} {ys : List (NestedKey × Addr × Value)} (r : NT xs ys) : xs.map (·.1) = ys.map (·.1) := by
  induction r with
  | nil => rfl
  | cons h t ih => simp [h.1, ih]
theorem NT.length {xs : List NE} {ys : List (NestedKey × Addr × Value)} (r : NT xs ys) : xs.length = ys.length := by
  induction r with
  | nil => rfl
  | cons h t ih => simp [ih]
theorem NT.val {xs : List NE} {ys : List (NestedKey × Addr × Value)} (r : NT xs ys) (q : NestedKey) : RelO (valN xs q) ((atKey ys q).map (·.2)) := by
  induction r with
  | nil => exact True.intro
  | @cons p z l1 l2 h t ih =>
    obtain ⟨h1, h2, h3⟩ := h
    by_cases e : p.1 = q
    · have e' : z.1 = q := h1 ▸ e
      simp only [valN, atKey, List.find?_cons, e, e', decide_true, Option.map_some]
      exact h3
    · have e' : ¬ z.1 = q := h1 ▸ e
      simp only [valN, atKey, List.find?_cons, e, e', decide_false] at ih ⊢
      exact ih
theorem NT.put {xs : List NE} {ys : List (NestedKey × Addr × Value)} (r : NT xs ys) (q : NestedKey) (b : Addr) {v : V} {u : Value} (rv : RelV v u) : NT (putN xs q b v) (storedH ys q b u) := by
  have e := (r.val q).isSome_eq
  rw [Option.isSome_map] at e
  unfold putN storedH
  rw [← e]
  cases h : valN xs q with
  | some _ =>
    simp only [Option.isSome_some, if_true]
    clear e h
    induction r with
    | nil => exact .nil
    | @cons p z l1 l2 h t ih =>
      obtain ⟨h1, h2, h3⟩ := h
      simp only [List.map_cons]
      refine .cons ?_ ih
      by_cases e : p.1 = q
      · have e' : z.1 = q := h1 ▸ e
        simp only [putAt, e, e', if_true]
        exact ⟨trivial, h2, rv⟩
      · have e' : ¬ z.1 = q := h1 ▸ e
        simp only [putAt, e, e', if_false]
        exact ⟨h1, h2, h3⟩
  | none =>
    simp only [Option.isSome_none, if_neg Bool.false_ne_true]
    exact Paired.snoc r ⟨rfl, rfl, rv⟩
theorem putN_length (xs : List NE) (q : NestedKey) (b : Addr) (v : V) : (putN xs q b v).length ≤ xs.length + 1 := by
  unfold putN
  split
  · simp
  · simp
theorem valN_mem {xs : List NE} {q : NestedKey} (h : valN xs q = none) : q ∉ xs.map (·.1) := fun z => by
  obtain ⟨x, hx, e⟩ := List.mem_map.mp z
  unfold valN at h
  rw [Option.map_eq_none_iff, List.find?_eq_none] at h
  exact h x hx (by simpa using e)
theorem putN_keys {xs : List NE} {q : NestedKey} {b : Addr} {v : V} : (putN xs q b v).map (·.1) = match valN xs q with
    | some _ => xs.map (·.1)
    | none => xs.map (·.1) ++ [q] := by
  unfold putN
  split
  · rename_i h
    rw [List.map_map]
    refine List.map_congr_left fun x _ => ?_
    by_cases e : x.1 = q <;> simp [e]
  · rename_i h
    simp
theorem putN_nod {xs : List NE} {q : NestedKey} {b : Addr} {v : V} (h : (xs.map (·.1)).Nodup) : ((putN xs q b v).map (·.1)).Nodup := by
  rw [putN_keys]
  split
  · exact h
  · rename_i e
    exact List.nodup_append.mpr ⟨h, by simp, fun a ha b hb => by
      rw [List.mem_singleton.mp hb]
      intro z
      rw [z] at ha
      exact valN_mem e ha⟩
theorem putN_mem {xs : List NE} {q : NestedKey} {b : Addr} {v : V} {x : NE} (h : x ∈ putN xs q b v) : (∃ y ∈ xs, x.1 = y.1 ∧ x.2.1 = y.2.1) ∨ (x.1 = q ∧ x.2.1 = b) := by
  unfold putN at h
  split at h
  · obtain ⟨y, hy, e⟩ := List.mem_map.mp h
    refine .inl ⟨y, hy, ?_⟩
    rw [← e]
    by_cases z : y.1 = q <;> simp [z]
  · rcases List.mem_append.mp h with h | h
    · exact .inl ⟨x, h, rfl, rfl⟩
    · rw [List.mem_singleton.mp h]
      exact .inr ⟨rfl, rfl⟩
theorem NDict_tup {a : Addr} {xs : List NE} {vs : List V} : NDict a xs ≠ .tup vs := fun z => by unfold NDict at z; cases z
theorem NAt.tup {H : Hp} {a : Addr} {xs : List NE} (n : NAt H a xs) {o : HO} {b : Addr} {ys : List V} (h : H b = some (.tup ys)) : upd H a o b = some (.tup ys) := by
  rw [upd_ne]
  · exact h
  · rintro rfl
    rw [n.at_] at h
    exact NDict_tup (Option.some.inj h)
theorem NAt.put {H : Hp} {a b : Addr} {xs : List NE} {q : NestedKey} {v : V} (n : NAt H a xs) (hq : NK H q (.ref b)) (hd : q.depth ≤ 8) (hl : xs.length < sizeLine) : NAt (upd H a (NDict a (putN xs q b v))) a (putN xs q b v) where
  at_ := upd_same
  sys := n.sys
  keys := fun x hx => by
    refine NK.keep (fun b ys h => n.tup h) _ _ ?_
    rcases putN_mem hx with ⟨y, hy, e1, e2⟩ | ⟨e1, e2⟩
    · rw [e1, e2]; exact n.keys y hy
    · rw [e1, e2]; exact hq
  deep := fun x hx => by
    rcases putN_mem hx with ⟨y, hy, e1, e2⟩ | ⟨e1, e2⟩
    · rw [e1]; exact n.deep y hy
    · rw [e1]; exact hd
  nod := putN_nod n.nod
  size := Nat.le_trans (putN_length _ _ _ _) hl
theorem NAt.keep {H H' : Hp} {a : Addr} {xs : List NE} (n : NAt H a xs) (h : H' a = H a) (e : ∀ b ys, H b = some (.tup ys) → H' b = some (.tup ys)) : NAt H' a xs :=
  ⟨h.trans n.at_, n.sys, fun x hx => NK.keep e _ _ (n.keys x hx), n.deep, n.nod, n.size⟩
theorem nEntry_eq {P : Program} {w : World} {H : Hp} : ∀ {xs : List NE} {ys : List (NestedKey × Addr × Value)}, NT xs ys → (∀ x ∈ xs, NK H x.1 (.ref x.2.1)) → ys.map nEntry = ys.map (entryOfKey (nestedKind P w))
  | _, _, .nil, _ => rfl
  | _, _, .cons (a := p) (b := z) h t, k => by
    rw [List.map_cons, List.map_cons, nEntry_eq t fun x hx => k x (List.mem_cons_of_mem _ hx)]
    have hp := NK.hash w _ _ (k p List.mem_cons_self)
    rw [h.1] at hp
    congr 1
    show (⟨nkHash z.1, .ref z.2.1, z.2.2⟩ : DictEntry) = ⟨z.1.hash w, .ref z.2.1, z.2.2⟩
    rw [hp]
theorem nd_of {P : Program} {w : World} {H : Hp} {h : Heap} {a : Addr} {xs : List NE} (ok : HOk P w H h) (n : NAt H a xs) : ∃ ys, NT xs ys ∧ h.DictOfH (nestedKind P w) a ys := by
  obtain ⟨⟨ys, r, o, es, ep, h1, h2, h3, h4⟩, _, _⟩ := (show ObjOk P w H h a (.ext (NPhi a xs)) from ok a _ n.at_)
  refine ⟨ys, r, o, es, ep, h1, h2, h3, by rw [h4]; exact nEntry_eq r n.keys, ?_, r.keys ▸ n.nod⟩
  have all : ∀ {l : List NE} {m : List (NestedKey × Addr × Value)}, NT l m → (∀ x ∈ l, NK H x.1 (.ref x.2.1)) → (∀ x ∈ l, x.1.depth ≤ 8) → ∀ x ∈ m, (nestedKind P w).is h x.1 x.2.1 := by
    intro l m q
    induction q with
    | nil => intro _ _ x hx; exact nomatch hx
    | @cons p z ps qs hq t ih =>
      intro k1 k2 x hx
      rcases List.mem_cons.mp hx with e | hx
      · subst e
        have := NK.nested ok _ _ _ (k1 p List.mem_cons_self) (show RelV (.ref p.2.1) (.ref p.2.1) from rfl)
        rw [hq.1, hq.2.1] at this
        exact ⟨this, hq.1 ▸ k2 p List.mem_cons_self⟩
      · exact ih (fun x hx => k1 x (List.mem_cons_of_mem _ hx)) (fun x hx => k2 x (List.mem_cons_of_mem _ hx)) x hx
  exact all r n.keys n.deep
theorem nd_ok {P : Program} {w : World} {H' : Hp} {h' : Heap} {a : Addr} {xs : List NE} {ys : List (NestedKey × Addr × Value)} (r : NT xs ys) (dd : h'.DictOfH (nestedKind P w) a ys) (k : ∀ x ∈ xs, NK H' x.1 (.ref x.2.1)) : ObjOk P w H' h' a (NDict a xs) := by
  obtain ⟨o, es, ep, h1, h2, h3, h4, _, _⟩ := dd
  exact ⟨⟨ys, r, o, es, ep, h1, h2, h3, by rw [h4]; exact (nEntry_eq r k).symm⟩, ⟨o, h1⟩, fun ha hb ⟨ys, r, o, es, ep, g1, g2, g3, g4⟩ st => ⟨ys, r, o, es, ep, st _ g1, g2, g3, g4⟩⟩
theorem nd_empty {P : Program} {w : World} {H : Hp} (h : Heap) : ObjOk P w H (h.push { cls := .type "dict", data := .dict #[] }) h.objs.size (NDict h.objs.size []) :=
  nd_ok .nil (Heap.DictOfH.new h) fun _ z => nomatch z
theorem nat_empty {H : Hp} {a : Addr} (hb : sysModules < a) : NAt (upd H a (NDict a [])) a [] :=
  ⟨upd_same, beq_eq_false_iff_ne.mpr (Ne.symm (Nat.ne_of_lt hb)), fun _ z => (nomatch z), fun _ z => (nomatch z), List.nodup_nil, Nat.zero_le _⟩

section
variable {X : Cx} {pins : List (Addr × Obj)} {σ : L2.St} {H : Hp} {s : Shared} {a : Addr} {y v : V} {u r : Value} {o : Option V} {A : Around} {E : Value → Shared → Prop}
theorem room_in1 {P : Program} {w : World} (hu : A.units + 16 < cLine) : (nestedKind P w).room A.in1 := by
  show A.in1.units + 8 < cLine
  have : A.in1.units = A.units + 1 := by first | rfl | simp [units_in1]
  omega
theorem dn_is (I : Inv X pins σ H s) {q : NestedKey} {b : Addr} (hq : NK H q (.ref b)) (hd : q.depth ≤ 8) : (nestedKind X.prog X.w).is s.heap q b := ⟨NK.nested I.hok _ _ _ hq rfl, hd⟩
theorem dn_getItem {Q : Value → Shared → Prop} (hu : A.units + 16 < cLine) (I : Inv X pins σ H s) (g : DGetN H a y (some v)) (ry : RelV y u) (h : ∀ w' s', Inv X pins σ H s' → RelV v w' → Q w' s') :
    wpAny (model X.prog X.w) A (getItem (.ref a) u) Q E s := by
  obtain ⟨xs, q, b, n, ey, hq, hd, l⟩ := g
  subst ey
  cases (show u = Value.ref b from ry)
  obtain ⟨ys, rel, dd⟩ := nd_of I.hok n
  obtain ⟨w', hw, rw'⟩ := RelO.some_of (v := v) (o := (atKey ys q).map (·.2)) (by rw [l]; exact rel.val q)
  obtain ⟨p, hp, hp2⟩ := Option.map_eq_some_iff.mp hw
  refine wpAny_getItem_heap (room_in1 hu) (dn_is I hq hd) dd hp ?_
  rw [hp2]
  exact h w' _ (I.tok _) rw'
theorem dn_in {Q : Value → Shared → Prop} (hu : A.units + 16 < cLine) (I : Inv X pins σ H s) (g : DGetN H a y o) (ry : RelV y u) (h : ∀ s', Inv X pins σ H s' → Q (.bool o.isSome) s') :
    wpAny (model X.prog X.w) A (compareOp .In u (.ref a)) Q E s := by
  obtain ⟨xs, q, b, n, ey, hq, hd, l⟩ := g
  subst ey
  cases (show u = Value.ref b from ry)
  obtain ⟨ys, rel, dd⟩ := nd_of I.hok n
  refine wpAny_in_heap (room_in1 hu) (dn_is I hq hd) n.sys dd ?_
  have e := (rel.val q).isSome_eq
  rw [Option.isSome_map] at e
  rw [← e, ← l]
  exact h _ (I.tok _)
theorem dn_notIn {Q : Value → Shared → Prop} (hu : A.units + 16 < cLine) (I : Inv X pins σ H s) (g : DGetN H a y o) (ry : RelV y u) (h : ∀ s', Inv X pins σ H s' → Q (.bool (!o.isSome)) s') :
    wpAny (model X.prog X.w) A (compareOp .NotIn u (.ref a)) Q E s := by
  obtain ⟨xs, q, b, n, ey, hq, hd, l⟩ := g
  subst ey
  cases (show u = Value.ref b from ry)
  obtain ⟨ys, rel, dd⟩ := nd_of I.hok n
  refine notIn_keyed (knd := nestedKind X.prog X.w) (room_in1 hu) (dn_is I hq hd) n.sys ⟨ys, dd, rfl⟩ ?_
  rw [valueAt_pairsH]
  have e := (rel.val q).isSome_eq
  rw [← e, ← l]
  exact h _ (I.tok _)
theorem dn_setItem {H' : Hp} {Q : Unit → Shared → Prop} (hu : A.units + 16 < cLine) (I : Inv X pins σ H s) (g : DPutN H a y v H') (ry : RelV y u) (rv : RelV v r) (h : ∀ s', Inv X pins σ H' s' → Q () s') :
    wpAny (model X.prog X.w) A (setItem (.ref a) u r) Q E s := by
  obtain ⟨xs, q, b, n, ey, hq, hd, l, eH⟩ := g
  subst ey eH
  cases (show u = Value.ref b from ry)
  obtain ⟨ys, rel, dd⟩ := nd_of I.hok n
  have hz : ys.length ≤ sizeLine := by rw [← rel.length]; exact n.size
  refine wpAny_setItem_heap (hsz := hz) (room_in1 hu) (dn_is I hq hd) dd fun h' dd' hs => h _ ?_
  have he : ∃ z, h'.get? a = some z := let ⟨z, _, _, hq, _⟩ := dd'; ⟨z, hq⟩
  exact d_write I (by rw [n.at_]; exact True.intro) hs he (nd_ok (rel.put q b rv) dd' (n.put hq hd l).keys)
theorem dn_typeIs (I : Inv X pins σ H s) {xs : List NE} (n : NAt H a xs) : s.TypeIs (.ref a) "dict" := by
  obtain ⟨ys, rel, dd⟩ := nd_of I.hok n
  exact dd.typeIs
/-! ### both kinds -/
theorem dA_getItem {Q : Value → Shared → Prop} (hu : A.units + 16 < cLine) (I : Inv X pins σ H s) (g : DGetA H a y (some v)) (ry : RelV y u) (h : ∀ w' s', Inv X pins σ H s' → RelV v w' → Q w' s') :
    wpAny (model X.prog X.w) A (getItem (.ref a) u) Q E s := by
  rcases g with g | g
  · exact d_getItem (by omega) I g ry h
  · exact dn_getItem hu I g ry h
theorem dA_in {Q : Value → Shared → Prop} (hu : A.units + 16 < cLine) (I : Inv X pins σ H s) (g : DGetA H a y o) (ry : RelV y u) (h : ∀ s', Inv X pins σ H s' → Q (.bool o.isSome) s') :
    wpAny (model X.prog X.w) A (compareOp .In u (.ref a)) Q E s := by
  rcases g with g | g
  · exact d_in (by omega) I g ry h
  · exact dn_in hu I g ry h
theorem dA_notIn {Q : Value → Shared → Prop} (hu : A.units + 16 < cLine) (I : Inv X pins σ H s) (g : DGetA H a y o) (ry : RelV y u) (h : ∀ s', Inv X pins σ H s' → Q (.bool (!o.isSome)) s') :
    wpAny (model X.prog X.w) A (compareOp .NotIn u (.ref a)) Q E s := by
  rcases g with g | g
  · exact d_notIn (by omega) I g ry h
  · exact dn_notIn hu I g ry h
theorem dA_setItem {H' : Hp} {Q : Unit → Shared → Prop} (hu : A.units + 16 < cLine) (I : Inv X pins σ H s) (g : DPutA H a y v H') (ry : RelV y u) (rv : RelV v r) (h : ∀ s', Inv X pins σ H' s' → Q () s') :
    wpAny (model X.prog X.w) A (setItem (.ref a) u r) Q E s := by
  rcases g with g | g
  · exact d_setItem (by omega) I g ry rv h
  · exact dn_setItem hu I g ry rv h
theorem dA_typeIs (I : Inv X pins σ H s) (g : DGetA H a y o) : s.TypeIs (.ref a) "dict" := by
  rcases g with g | ⟨xs, q, b, n, _⟩
  · exact dict_typeIs I g
  · exact dn_typeIs I n
end
/-- d[y] = v -/
def sDPutA (td ty tv : TE) : TS := fun D σ H => tv σ H fun v H1 => td σ H1 fun x H2 => ty σ H2 fun y H3 => ∃ a H4, x = .ref a ∧ DPutA H3 a y v H4 ∧ D.nx σ H4
section
variable {X : Cx} {o i e value : Expr} {pos pos' tpos : Pos} {td ty tv : TE}
theorem psA_dput (hu : X.A.units + 16 < cLine) (ho : PE X o td) (hi : PE X i ty) (hv : PE X value tv) (hs : swapsWith value (some (.Subscript o i pos')) pos.line X.env = pure false) :
    PS X (.Assign [.Subscript o i pos'] value pos) (sDPutA td ty tv) := by
  refine ⟨fun pins s σ H D I h => ?_⟩
  refine wpAny_Assign_Subscript (thn (hv.run pins s σ H _ I h) fun r s1 ⟨v, H1, I1, rv, q1⟩ => thn (ho.run pins s1 σ H1 _ I1 q1) fun u s2 ⟨x, H2, I2, rx, q2⟩ => thn (hi.run pins s2 σ H2 _ I2 q2) fun iv s3 ⟨y, H3, I3, ry, a, H4, ex, g, q3⟩ => ?_) hs
  subst ex
  obtain rfl : u = Value.ref a := rx
  exact dA_setItem hu I3 g ry rv fun s4 I4 => ⟨σ, H4, I4, q3⟩
/-- {}, its keys to be tuples within tuples -/
def tDNewN : TE := fun _ H Q => ∀ p, H p = none → sysModules < p → Q (.ref p) (upd H p (NDict p []))
theorem pe_dnewN : PE X (.Dict [] [] pos) tDNewN := ⟨fun pins s σ H Q I h =>
  wpAny_Dict_empty ⟨.ref s.heap.objs.size, _, I.laid (a := s.heap.objs.size) (o := NDict s.heap.objs.size []) (t' := s.toks) (fun _ _ q => Heap.get?_push_of_some _ q) (Nat.le_refl _) (nd_empty s.heap), rfl, h _ (I.hok.fresh (Nat.le_refl _)) I.big⟩⟩
end
/-! ### methods, len -/
def IsDA (H : Hp) (a : Addr) : Prop := IsD H a ∨ ∃ xs, NAt H a xs
section
variable {X : Cx} {pins : List (Addr × Obj)} {σ : L2.St} {H : Hp} {s : Shared} {a : Addr} {y d : V} {u r : Value} {o : Option V} {A : Around} {E : Value → Shared → Prop}
theorem isDA_at (I : Inv X pins σ H s) (d : IsDA H a) :
    s.TypeIs (.ref a) "dict" ∧ (∀ b, Value.ref a = .ref b → ∃ ob, s.heap.get? b = some ob ∧ ob.dict = none) ∧ (a == sysModules) = false := by
  rcases d with d | ⟨xs, n⟩
  · exact isD_at I d
  · obtain ⟨ys, rel, dd⟩ := nd_of I.hok n
    refine ⟨dd.typeIs, fun b q => ?_, n.sys⟩
    cases q
    obtain ⟨ob, _, _, h1, h2, _⟩ := dd
    exact ⟨ob, h1, h2.2.1⟩
theorem dA_get1 {Q : Value → Shared → Prop} (hu : A.units + 16 < cLine) (I : Inv X pins σ H s) (g : DGetA H a y o) (ry : RelV y u) (h : ∀ w' s', Inv X pins σ H s' → RelV (o.getD .non) w' → Q w' s') :
    wpAny (model X.prog X.w) A (call (.builtin "dict.get") [.ref a, u]) Q E s := by
  rcases g with g | ⟨xs, q, b, n, ey, hq, hd, l⟩
  · exact d_get1 (by omega) I g ry h
  · subst ey
    cases (show u = Value.ref b from ry)
    obtain ⟨ys, rel, dd⟩ := nd_of I.hok n
    refine call_meetsIn PySem.F.slot_dict_get dd.typeIs PySem.F.entry_dict_get (PySem.F.args_dict_get_2 _ _) (meetsH_dict_get (nestedKind X.prog X.w) a b n.sys) ⟨room_in1 hu, q, ys, dn_is I hq hd, dd, h _ _ (I.tok _) ?_⟩
    rw [l]
    exact (rel.val q).getD rfl
theorem dA_get2 {Q : Value → Shared → Prop} (hu : A.units + 16 < cLine) (I : Inv X pins σ H s) (g : DGetA H a y o) (ry : RelV y u) (rd : RelV d r) (h : ∀ w' s', Inv X pins σ H s' → RelV (o.getD d) w' → Q w' s') :
    wpAny (model X.prog X.w) A (call (.builtin "dict.get") [.ref a, u, r]) Q E s := by
  rcases g with g | ⟨xs, q, b, n, ey, hq, hd, l⟩
  · exact d_get2 (by omega) I g ry rd h
  · subst ey
    cases (show u = Value.ref b from ry)
    obtain ⟨ys, rel, dd⟩ := nd_of I.hok n
    refine call_meetsIn PySem.F.slot_dict_get dd.typeIs PySem.F.entry_dict_get (PySem.F.args_dict_get_3 _ _ _) (meetsH_dict_get_default (nestedKind X.prog X.w) a b n.sys r) ⟨room_in1 hu, q, ys, dn_is I hq hd, dd, h _ _ (I.tok _) ?_⟩
    rw [l]
    exact (rel.val q).getD rd
end
def tDGet1A (td ty : TE) : TE := fun σ H Q => td σ H fun x H1 => ∃ a, x = .ref a ∧ IsDA H1 a ∧ ty σ H1 fun y H2 => ∃ o, DGetA H2 a y o ∧ Q (o.getD .non) H2
def tDGet2A (td ty tx : TE) : TE := fun σ H Q => td σ H fun x H1 => ∃ a, x = .ref a ∧ IsDA H1 a ∧ ty σ H1 fun y H2 => tx σ H2 fun z H3 => ∃ o, DGetA H3 a y o ∧ Q (o.getD z) H3
section
variable {X : Cx} {o e f : Expr} {apos cpos : Pos} {td ty tx : TE}
theorem pe_dget1A (hu : X.A.units + 16 < cLine) (ho : PE X o td) (he : PE X e ty) (m : M1 X o "get" apos e cpos) : PE X (.Call (.Attribute o "get" apos) [e] [] cpos) (tDGet1A td ty) := by
  refine ⟨fun pins s σ H Q I h => ?_⟩
  refine wpAny_Call_method m.base m.few m.line PySem.F.plainAttrs_dict PySem.F.slot_dict_get PySem.F.type_dict_get (thn (ho.run pins s σ H _ I h) fun u s1 ⟨x, H1, I1, rx, a, ex, d, q1⟩ => ?_)
  subst ex
  obtain rfl : u = Value.ref a := rx
  obtain ⟨t1, t2, _⟩ := isDA_at I1 d
  refine ⟨t1, t2, ?_⟩
  rw [m.trees]
  refine Calls.callWith_builtin rfl (Calls.evalArgs_plain (Calls.spliced_cons (thn (he.run pins s1 σ H1 _ I1 q1) fun iv s2 ⟨y, H2, I2, ry, ov, g, q2⟩ => Calls.spliced_nil ?_)))
  exact dA_get1 hu I2 g ry fun w' s3 I3 rw' => ⟨_, H2, I3, rw', q2⟩
theorem pe_dget2A (hu : X.A.units + 16 < cLine) (ho : PE X o td) (he : PE X e ty) (hf : PE X f tx) (m : M2 X o "get" apos e f cpos) : PE X (.Call (.Attribute o "get" apos) [e, f] [] cpos) (tDGet2A td ty tx) := by
  refine ⟨fun pins s σ H Q I h => ?_⟩
  refine wpAny_Call_method m.base m.few m.line PySem.F.plainAttrs_dict PySem.F.slot_dict_get PySem.F.type_dict_get (thn (ho.run pins s σ H _ I h) fun u s1 ⟨x, H1, I1, rx, a, ex, d, q1⟩ => ?_)
  subst ex
  obtain rfl : u = Value.ref a := rx
  obtain ⟨t1, t2, _⟩ := isDA_at I1 d
  refine ⟨t1, t2, ?_⟩
  rw [m.trees]
  refine Calls.callWith_builtin rfl (Calls.evalArgs_plain (Calls.spliced_cons (thn (he.run pins s1 σ H1 _ I1 q1) fun iv s2 ⟨y, H2, I2, ry, q2⟩ =>
    Calls.spliced_cons (thn (hf.run pins s2 σ H2 _ I2 q2) fun fv s3 ⟨z, H3, I3, rz, ov, g, q3⟩ => Calls.spliced_nil ?_))))
  exact dA_get2 hu I3 g ry rz fun w' s4 I4 rw' => ⟨_, H3, I4, rw', q3⟩
def rLenN : List V → Hp → VK → Prop := fun xs H Q => ∃ (p : Addr) (ns : List NE), xs = [.ref p] ∧ NAt H p ns ∧ Q (.int ((ns.length : Nat) : Int)) H
theorem call_len_dN : CallR X (.builtin "len") rLenN := by
  intro pins s σ H xs us Q I r h
  obtain ⟨p, ns, rfl, n, q⟩ := h
  obtain ⟨u, rfl, rx⟩ := vals1 r
  obtain rfl : u = .ref p := rx
  obtain ⟨ys, rel, dd⟩ := nd_of I.hok n
  have hl : ns.length = ys.length := rel.length
  have hz := n.size
  refine call_len_dictH n.sys dd (by rw [← hl]; rw [sizeLine_eq] at hz; omega) ?_
  rw [← hl]
  exact ⟨.int ((ns.length : Nat) : Int), H, I.tok _, ⟨_, rfl⟩, q⟩
end
end Sw

/-! Eng1: data by value, the abstract store, how they stand in the heap. -/
namespace Sw
open PySem PySem.Spec PyProof.Rows L2

inductive D where
  | non
  | bl (b : Bool)
  | int (i : Int)
  | str (x : Str)
  | tup (xs : List D)
  | ref (n : Nat)

inductive O where
  | lst (xs : List D)
  | frz (xs : List D)
  | dct (kvs : List (D × D))
  | dctT (kvs : List (D × D))
  | dctN (kvs : List (D × D))
  | set (xs : List Int)

/-- the store: the mutable things by number; bs: how many there were at the entry of each frame; dirty: an elder frame's thing may hold a younger one -/
structure Sto where
  objs : List O
  bs : List Nat
  dirty : Bool
abbrev Sto.len (S : Sto) : Nat := S.objs.length

mutual
def D.blw (k : Nat) : D → Bool
  | .tup xs => D.blws k xs
  | .ref n => Nat.blt n k
  | .non => true
  | .bl _ => true
  | .int _ => true
  | .str _ => true
def D.blws (k : Nat) : List D → Bool
  | [] => true
  | x :: xs => D.blw k x && D.blws k xs
end
def pairsBelow (k : Nat) : List (D × D) → Bool
  | [] => true
  | (a, b) :: r => D.blw k a && D.blw k b && pairsBelow k r
def O.blw (k : Nat) : O → Bool
  | .lst xs => D.blws k xs
  | .frz xs => D.blws k xs
  | .dct kvs => pairsBelow k kvs
  | .dctT kvs => pairsBelow k kvs
  | .dctN kvs => pairsBelow k kvs
  | .set _ => true

abbrev Frg := PySem.W.Frag
section
variable (m : Nat → Addr) (k : Nat) (H : Hp)
mutual
def RD : D → V → Prop
  | .non, v => v = .non
  | .bl b, v => v = .bl b
  | .int i, v => v = .int i
  | .str x, v => v = .str x
  | .tup ds, v => ∃ a vs, v = .ref a ∧ H a = some (.tup vs) ∧ RDs ds vs
  | .ref n, v => n < k ∧ v = .ref (m n)
def RDs : List D → List V → Prop
  | [], vs => vs = []
  | d :: ds, vs => ∃ v r, vs = v :: r ∧ RD d v ∧ RDs ds r
end
/-! keys within keys -/
mutual
def nkOf : D → Option NestedKey
  | .non => some .none
  | .bl b => some (.num (if b = true then 1 else 0))
  | .int i => some (.num i)
  | .str _ => none
  | .tup xs => match nksOf xs with
    | some ks => some (.tup ks)
    | none => none
  | .ref _ => none
def nksOf : List D → Option (List NestedKey)
  | [] => some []
  | x :: xs => match nkOf x with
    | some k => match nksOf xs with
      | some ks => some (k :: ks)
      | none => none
    | none => none
end
def nkeyOf : D → Option NestedKey
  | .tup xs => match nksOf xs with
    | some ks => match Nat.ble (NestedKey.tup ks).depth 8 with
      | true => some (.tup ks)
      | false => none
    | none => none
  | _ => none
/-- the D of a key -/
def kD : Key → D
  | .inl i => .int i
  | .inr x => .str x
def kT (ks : List Key) : D := .tup (ks.map kD)
def RKv {κ : Type} (kd : κ → D) : List (D × D) → List (κ × V) → Prop
  | [], ps => ps = []
  | (a, d) :: r, ps => ∃ q v ps', ps = (q, v) :: ps' ∧ a = kd q ∧ RD m k H d v ∧ RKv kd r ps'
def RKn : List (D × D) → List NE → Prop
  | [], xs => xs = []
  | (a, d) :: r, xs => ∃ q b v xs', xs = (q, b, v) :: xs' ∧ nkeyOf a = some q ∧ RD m k H a (.ref b) ∧ RD m k H d v ∧ RKn r xs'
def OOk (a : Addr) : O → Prop
  | .lst ds => ∃ vs, H a = some (.lst vs) ∧ RDs m k H ds vs
  | .frz ds => ∃ vs o, H a = some (.frz o (.lst vs)) ∧ RDs m k H ds vs
  | .dct kvs => ∃ ps, H a = some (.dK ps) ∧ RKv m k H kD kvs ps
  | .dctT kvs => ∃ ps, H a = some (.dT ps) ∧ RKv m k H kT kvs ps
  | .dctN kvs => ∃ xs, NAt H a xs ∧ RKn m k H kvs xs
  | .set xs => H a = some (.set (fun j => xs.contains j) xs.length)
end

/-- what never changes: tuples, locked things -/
structure Keep (H H' : Hp) : Prop where
  tup : ∀ a xs, H a = some (.tup xs) → H' a = some (.tup xs)
  frz : ∀ a o u, H a = some (.frz o u) → H' a = some (.frz o u)
theorem Keep.refl (H : Hp) : Keep H H := ⟨fun _ _ h => h, fun _ _ _ h => h⟩
theorem Keep.trans {H H1 H2 : Hp} (a : Keep H H1) (b : Keep H1 H2) : Keep H H2 := ⟨fun c xs h => b.tup c xs (a.tup c xs h), fun c o u h => b.frz c o u (a.frz c o u h)⟩
theorem Keep.sqT {K : Frg} {H H' : Hp} {a : Addr} {xs : List V} (e : Keep H H') (h : SqT K H a xs) : SqT K H' a xs := by
  rcases h with (h | ⟨o, h⟩) | h
  · exact .inl (.inl (e.tup _ _ h))
  · exact .inl (.inr ⟨o, e.frz _ _ _ h⟩)
  · exact .inr h
theorem Keep.new {H : Hp} {p : Addr} {o : HO} (h : H p = none) : Keep H (upd H p o) :=
  ⟨fun a xs e => by rw [upd_ne (ne_of_none e h)]; exact e, fun a o u e => by rw [upd_ne (ne_of_none e h)]; exact e⟩
theorem Keep.same {H H' : Hp} (h : ∀ b o, H b = some o → H' b = some o) : Keep H H' := ⟨fun a xs e => h _ _ e, fun a o u e => h _ _ e⟩

structure Rel (m : Nat → Addr) (S : Sto) (H : Hp) : Prop where
  obj : ∀ n o, S.objs[n]? = some o → OOk m S.len H (m n) o
  inj : ∀ i j, i < S.len → j < S.len → m i = m j → i = j
  low : S.dirty = false → ∀ b ∈ S.bs, ∀ n o, n < b → S.objs[n]? = some o → o.blw b = true
  top : ∀ b ∈ S.bs, b ≤ S.bs.headD 0
  lens : ∀ b ∈ S.bs, b ≤ S.len

structure Ext (m m' : Nat → Addr) (S S' : Sto) (H H' : Hp) : Prop where
  len : S.len ≤ S'.len
  ag : ∀ n, n < S.len → m' n = m n
  keep : Keep H H'
  bs : S'.bs = S.bs
  rel : Rel m' S' H'
  oth : ∀ a o, H a = some o → (∀ n, n < S.len → m n ≠ a) → H' a = some o
  new : ∀ n, S.len ≤ n → n < S'.len → H (m' n) = none
section
variable {m m' m2 : Nat → Addr} {S S' S2 : Sto} {H H' H2 : Hp}
theorem OOk.alive {k : Nat} {a : Addr} {o : O} (h : OOk m k H a o) : ∃ u, H a = some u := by
  cases o with
  | lst xs => obtain ⟨vs, h, _⟩ := h; exact ⟨_, h⟩
  | frz xs => obtain ⟨vs, _, h, _⟩ := h; exact ⟨_, h⟩
  | dct kvs => obtain ⟨vs, h, _⟩ := h; exact ⟨_, h⟩
  | dctT kvs => obtain ⟨vs, h, _⟩ := h; exact ⟨_, h⟩
  | dctN kvs => obtain ⟨vs, h, _⟩ := h; exact ⟨_, h.at_⟩
  | set xs => exact ⟨_, h⟩
theorem Rel.alive (r : Rel m S H) {n : Nat} (h : n < S.len) : ∃ u, H (m n) = some u := (r.obj n _ (List.getElem?_eq_getElem h)).alive
theorem Ext.refl (r : Rel m S H) : Ext m m S S H H := ⟨Nat.le_refl _, fun _ _ => rfl, Keep.refl H, rfl, r, fun _ _ h _ => h, fun n h1 h2 => absurd h2 (Nat.not_lt_of_le h1)⟩
theorem Ext.trans (a : Ext m m' S S' H H') (b : Ext m' m2 S' S2 H' H2) : Ext m m2 S S2 H H2 :=
  ⟨Nat.le_trans a.len b.len, fun n h => (b.ag n (Nat.lt_of_lt_of_le h a.len)).trans (a.ag n h), a.keep.trans b.keep, b.bs.trans a.bs, b.rel,
    fun c o h hn => b.oth c o (a.oth c o h hn) fun n hl e => (by
      by_cases z : n < S.len
      · exact hn n z ((a.ag n z).symm.trans e)
      · have := a.new n (Nat.le_of_not_lt z) hl
        rw [e, h] at this
        cases this),
    fun n h1 h2 => by
      by_cases z : n < S'.len
      · rw [b.ag n z]; exact a.new n h1 z
      · have hb := b.new n (Nat.le_of_not_lt z) h2
        cases hc : H (m2 n) with
        | none => rfl
        | some o =>
          by_cases y : ∃ j, j < S.len ∧ m j = m2 n
          · obtain ⟨j, hj, ej⟩ := y
            obtain ⟨u, hu⟩ := a.rel.alive (Nat.lt_of_lt_of_le hj a.len)
            rw [a.ag j hj, ej, hb] at hu
            cases hu
          · have := a.oth _ o hc fun j hj ej => y ⟨j, hj, ej⟩
            rw [hb] at this
            cases this⟩

mutual
theorem RD.mono' {k k' : Nat} (hk : k ≤ k') (ha : ∀ n, n < k → m' n = m n) (e : Keep H H') : ∀ (d : D) (v : V), RD m k H d v → RD m' k' H' d v
  | .non, v, h => h
  | .bl _, v, h => h
  | .int _, v, h => h
  | .str _, v, h => h
  | .tup ds, v, h => by
    obtain ⟨a, vs, h1, h2, h3⟩ := h
    exact ⟨a, vs, h1, e.tup _ _ h2, RDs.mono' hk ha e ds vs h3⟩
  | .ref n, v, h => ⟨Nat.lt_of_lt_of_le h.1 hk, by rw [ha n h.1]; exact h.2⟩
theorem RDs.mono' {k k' : Nat} (hk : k ≤ k') (ha : ∀ n, n < k → m' n = m n) (e : Keep H H') : ∀ (ds : List D) (vs : List V), RDs m k H ds vs → RDs m' k' H' ds vs
  | [], vs, h => h
  | d :: ds, vs, h => by
    obtain ⟨v, r, h1, h2, h3⟩ := h
    exact ⟨v, r, h1, RD.mono' hk ha e d v h2, RDs.mono' hk ha e ds r h3⟩
end
theorem RKv.mono' {κ : Type} {kd : κ → D} {k k' : Nat} (hk : k ≤ k') (ha : ∀ n, n < k → m' n = m n) (e : Keep H H') : ∀ (kvs : List (D × D)) (ps : List (κ × V)), RKv m k H kd kvs ps → RKv m' k' H' kd kvs ps
  | [], ps, h => h
  | (a, d) :: r, ps, h => by
    obtain ⟨q, v, ps', h1, h2, h3, h4⟩ := h
    exact ⟨q, v, ps', h1, h2, RD.mono' hk ha e d v h3, RKv.mono' hk ha e r ps' h4⟩
mutual
theorem nk_rd {k : Nat} : ∀ (d : D) (q : NestedKey) (v : V), nkOf d = some q → RD m k H d v → NK H q v
  | .non, q, v, h, r => by simp only [nkOf] at h; cases h; exact r
  | .bl b, q, v, h, r => by simp only [nkOf] at h; cases h; exact .inr ⟨b, r, rfl⟩
  | .int i, q, v, h, r => by simp only [nkOf] at h; cases h; exact .inl r
  | .str _, q, v, h, r => by simp only [nkOf] at h; cases h
  | .tup xs, q, v, h, r => by
    simp only [nkOf] at h
    split at h
    · rename_i ks e
      cases h
      obtain ⟨a, vs, h1, h2, h3⟩ := r
      exact ⟨a, vs, h1, h2, nks_rd xs ks vs e h3⟩
    · cases h
  | .ref _, q, v, h, r => by simp only [nkOf] at h; cases h
theorem nks_rd {k : Nat} : ∀ (ds : List D) (ks : List NestedKey) (vs : List V), nksOf ds = some ks → RDs m k H ds vs → NKs H ks vs
  | [], ks, vs, h, r => by simp only [nksOf] at h; cases h; exact r
  | x :: xs, ks, vs, h, r => by
    simp only [nksOf] at h
    split at h
    · rename_i q e
      split at h
      · rename_i qs e2
        cases h
        obtain ⟨v, rs, h1, h2, h3⟩ := r
        exact ⟨v, rs, h1, nk_rd x q v e h2, nks_rd xs qs rs e2 h3⟩
      · cases h
    · cases h
end
mutual
theorem nk_below {k : Nat} : ∀ (d : D) (q : NestedKey), nkOf d = some q → d.blw k = true
  | .non, q, h => rfl
  | .bl b, q, h => rfl
  | .int i, q, h => rfl
  | .str _, q, h => rfl
  | .tup xs, q, h => by
    simp only [nkOf] at h
    simp only [D.blw]
    split at h
    · rename_i ks e
      exact nks_below xs ks e
    · cases h
  | .ref _, q, h => by simp only [nkOf] at h; cases h
theorem nks_below {k : Nat} : ∀ (ds : List D) (ks : List NestedKey), nksOf ds = some ks → D.blws k ds = true
  | [], ks, h => rfl
  | x :: xs, ks, h => by
    simp only [nksOf] at h
    simp only [D.blws]
    split at h
    · rename_i q e
      split at h
      · rename_i qs e2
        rw [nk_below x q e, nks_below xs qs e2]
        rfl
      · cases h
    · cases h
end
theorem nkeyOf_ok {d : D} {q : NestedKey} (h : nkeyOf d = some q) : nkOf d = some q ∧ q.depth ≤ 8 ∧ ∃ ds, d = .tup ds := by
  cases d with
  | tup xs =>
    simp only [nkeyOf] at h
    split at h
    · rename_i ks e
      split at h
      · rename_i hb
        cases h
        exact ⟨by simp only [nkOf, e], Nat.le_of_ble_eq_true hb, xs, rfl⟩
      · cases h
    · cases h
  | _ => simp only [nkeyOf] at h; cases h
theorem RKn.mono' {k k' : Nat} (hk : k ≤ k') (ha : ∀ n, n < k → m' n = m n) (e : Keep H H') : ∀ (kvs : List (D × D)) (xs : List NE), RKn m k H kvs xs → RKn m' k' H' kvs xs
  | [], xs, h => h
  | (a, d) :: r, xs, h => by
    obtain ⟨q, b, v, xs', h1, h2, h3, h4, h5⟩ := h
    exact ⟨q, b, v, xs', h1, h2, RD.mono' hk ha e a _ h3, RD.mono' hk ha e d v h4, RKn.mono' hk ha e r xs' h5⟩
theorem RKn.length {k : Nat} : ∀ {kvs : List (D × D)} {xs : List NE}, RKn m k H kvs xs → kvs.length = xs.length
  | [], xs, h => by rw [show xs = [] from h]; rfl
  | (a, d) :: r, xs, h => by
    obtain ⟨q, b, v, xs', rfl, h2, h3, h4, h5⟩ := h
    simp [RKn.length h5]
theorem RD.ext {d : D} {v : V} (h : RD m S.len H d v) (e : Ext m m' S S' H H') : RD m' S'.len H' d v := RD.mono' e.len e.ag e.keep d v h
theorem RDs.ext {d : List D} {v : List V} (h : RDs m S.len H d v) (e : Ext m m' S S' H H') : RDs m' S'.len H' d v := RDs.mono' e.len e.ag e.keep d v h
mutual
theorem RD.blw {k : Nat} : ∀ (d : D) (v : V), RD m k H d v → d.blw k = true
  | .non, _, _ => rfl
  | .bl _, _, _ => rfl
  | .int _, _, _ => rfl
  | .str _, _, _ => rfl
  | .tup ds, v, h => by
    obtain ⟨a, vs, _, _, h3⟩ := h
    simp only [D.blw]
    exact RDs.below ds vs h3
  | .ref n, _, h => by
    simp only [D.blw]
    exact Nat.ble_eq_true_of_le h.1
theorem RDs.below {k : Nat} : ∀ (ds : List D) (vs : List V), RDs m k H ds vs → D.blws k ds = true
  | [], _, _ => rfl
  | d :: ds, vs, h => by
    obtain ⟨v, r, _, h2, h3⟩ := h
    simp only [D.blws, RD.blw d v h2, RDs.below ds r h3, Bool.and_self]
end
mutual
theorem below_mono {k k' : Nat} (h : k ≤ k') : ∀ d : D, d.blw k = true → d.blw k' = true
  | .non, _ => rfl
  | .bl _, _ => rfl
  | .int _, _ => rfl
  | .str _, _ => rfl
  | .tup ds, q => by
    simp only [D.blw] at q ⊢
    exact belows_mono h ds q
  | .ref n, q => by
    simp only [D.blw] at q ⊢
    have := Nat.le_of_ble_eq_true q
    exact Nat.ble_eq_true_of_le (by omega)
theorem belows_mono {k k' : Nat} (h : k ≤ k') : ∀ ds : List D, D.blws k ds = true → D.blws k' ds = true
  | [], _ => rfl
  | d :: ds, q => by
    simp only [D.blws, Bool.and_eq_true] at q ⊢
    exact ⟨below_mono h d q.1, belows_mono h ds q.2⟩
end
theorem pairs_mono {k k' : Nat} (h : k ≤ k') : ∀ ds : List (D × D), pairsBelow k ds = true → pairsBelow k' ds = true
  | [], _ => rfl
  | (a, b) :: ds, q => by
    simp only [pairsBelow, Bool.and_eq_true] at q ⊢
    exact ⟨⟨below_mono h a q.1.1, below_mono h b q.1.2⟩, pairs_mono h ds q.2⟩
theorem O.blw_mono {k k' : Nat} (h : k ≤ k') (o : O) (q : o.blw k = true) : o.blw k' = true := by
  cases o with
  | lst xs => exact belows_mono h xs q
  | frz xs => exact belows_mono h xs q
  | dct kvs => exact pairs_mono h kvs q
  | dctT kvs => exact pairs_mono h kvs q
  | dctN kvs => exact pairs_mono h kvs q
  | set xs => rfl
theorem kD_below (k : Nat) (q : Key) : (kD q).blw k = true := by cases q <;> rfl
theorem kDs_below (k : Nat) : ∀ qs : List Key, D.blws k (qs.map kD) = true
  | [] => rfl
  | q :: qs => by simp only [List.map_cons, D.blws, kD_below, kDs_below k qs, Bool.and_self]
theorem kT_below (k : Nat) (qs : List Key) : (kT qs).blw k = true := by simp only [kT, D.blw]; exact kDs_below k qs
theorem RKv.below {κ : Type} {kd : κ → D} {k : Nat} (hb : ∀ q, (kd q).blw k = true) : ∀ (kvs : List (D × D)) (ps : List (κ × V)), RKv m k H kd kvs ps → pairsBelow k kvs = true
  | [], _, _ => rfl
  | (a, d) :: r, ps, h => by
    obtain ⟨q, v, ps', _, h2, h3, h4⟩ := h
    simp only [pairsBelow, Bool.and_eq_true]
    exact ⟨⟨by rw [h2]; exact hb q, RD.blw d v h3⟩, RKv.below hb r ps' h4⟩
theorem RKn.below {k : Nat} : ∀ (kvs : List (D × D)) (xs : List NE), RKn m k H kvs xs → pairsBelow k kvs = true
  | [], _, _ => rfl
  | (a, d) :: r, xs, h => by
    obtain ⟨q, b, v, xs', _, h2, h3, h4, h5⟩ := h
    simp only [pairsBelow, Bool.and_eq_true]
    exact ⟨⟨nk_below a q (nkeyOf_ok h2).1, RD.blw d v h4⟩, RKn.below r xs' h5⟩
theorem OOk.below {k : Nat} {a : Addr} {o : O} (h : OOk m k H a o) : o.blw k = true := by
  cases o with
  | lst xs => obtain ⟨vs, _, h⟩ := h; exact RDs.below _ _ h
  | frz xs => obtain ⟨vs, _, _, h⟩ := h; exact RDs.below _ _ h
  | dct kvs => obtain ⟨vs, _, h⟩ := h; exact RKv.below (kD_below _) _ _ h
  | dctT kvs => obtain ⟨vs, _, h⟩ := h; exact RKv.below (kT_below _) _ _ h
  | dctN kvs => obtain ⟨xs, _, h⟩ := h; exact RKn.below _ _ h
  | set xs => rfl
theorem OOk.live {k : Nat} {a : Addr} {o : O} (h : OOk m k H a o) : ∃ u, H a = some u := by
  cases o with
  | lst xs => obtain ⟨vs, h, _⟩ := h; exact ⟨_, h⟩
  | frz xs => obtain ⟨vs, _, h, _⟩ := h; exact ⟨_, h⟩
  | dct kvs => obtain ⟨vs, h, _⟩ := h; exact ⟨_, h⟩
  | dctT kvs => obtain ⟨vs, h, _⟩ := h; exact ⟨_, h⟩
  | dctN kvs => obtain ⟨vs, h, _⟩ := h; exact ⟨_, h.at_⟩
  | set xs => exact ⟨_, h⟩
theorem Rel.live (r : Rel m S H) {n : Nat} (h : n < S.len) : ∃ u, H (m n) = some u := (r.obj n _ (List.getElem?_eq_getElem h)).live

/-! ### a new object -/
def Sto.add (S : Sto) (o : O) : Sto := ⟨S.objs ++ [o], S.bs, S.dirty⟩
theorem Sto.add_len (S : Sto) (o : O) : (S.add o).len = S.len + 1 := by simp [Sto.add, Sto.len]
def withAt (m : Nat → Addr) (n : Nat) (p : Addr) : Nat → Addr := fun i => if i = n then p else m i
theorem withAt_same (m : Nat → Addr) (n : Nat) (p : Addr) : withAt m n p n = p := by simp [withAt]
theorem withAt_ne (m : Nat → Addr) (n : Nat) (p : Addr) {i : Nat} (h : i ≠ n) : withAt m n p i = m i := by simp [withAt, h]
theorem OOk.mono' {k k' : Nat} (hk : k ≤ k') (ha : ∀ n, n < k → m' n = m n) (e : Keep H H') {a : Addr} {o : O} (h : OOk m k H a o) (hh : H' a = H a) : OOk m' k' H' a o := by
  cases o with
  | lst xs => obtain ⟨vs, h1, h2⟩ := h; exact ⟨vs, hh.trans h1, RDs.mono' hk ha e _ _ h2⟩
  | frz xs => obtain ⟨vs, o, h1, h2⟩ := h; exact ⟨vs, o, hh.trans h1, RDs.mono' hk ha e _ _ h2⟩
  | dct kvs => obtain ⟨vs, h1, h2⟩ := h; exact ⟨vs, hh.trans h1, RKv.mono' hk ha e _ _ h2⟩
  | dctT kvs => obtain ⟨vs, h1, h2⟩ := h; exact ⟨vs, hh.trans h1, RKv.mono' hk ha e _ _ h2⟩
  | dctN kvs => obtain ⟨xs, h1, h2⟩ := h; exact ⟨xs, h1.keep hh e.tup, RKn.mono' hk ha e _ _ h2⟩
  | set xs => exact hh.trans h
/-- a new object at p -/
theorem Ext.add (r : Rel m S H) {p : Addr} {o : O} {ho : HO} (hp : H p = none) (ok : OOk m S.len (upd H p ho) p o) : Ext m (withAt m S.len p) S (S.add o) H (upd H p ho) := by
  have ag : ∀ n, n < S.len → withAt m S.len p n = m n := fun n h => withAt_ne _ _ _ (Nat.ne_of_lt h)
  have kp : Keep H (upd H p ho) := Keep.new hp
  have ne : ∀ n, n < S.len → m n ≠ p := fun n h e => by obtain ⟨u, q⟩ := r.live h; rw [e, hp] at q; cases q
  refine ⟨by rw [Sto.add_len]; exact Nat.le_succ _, ag, kp, rfl, ⟨fun n o' e => ?_, fun i j hi hj e => ?_, fun hd b hb n o' hn e => ?_, r.top, fun b hb => Nat.le_trans (r.lens b hb) (by rw [Sto.add_len]; exact Nat.le_succ _)⟩, fun a o' e _ => ?_, fun n h1 h2 => ?_⟩
  · rw [Sto.add_len]
    by_cases h : n < S.len
    · have e' : S.objs[n]? = some o' := by rw [← e]; simp [Sto.add, List.getElem?_append_left h]
      rw [ag n h]
      exact (r.obj n o' e').mono' (Nat.le_succ _) ag kp (upd_ne (ne n h))
    · have hn : n = S.len := by
        have h1 : n < (S.add o).len := (List.getElem?_eq_some_iff.mp e).1
        rw [Sto.add_len] at h1
        omega
      subst hn
      have e' : o = o' := by simpa [Sto.add] using e
      subst e'
      rw [withAt_same]
      exact ok.mono' (Nat.le_succ _) ag (Keep.refl _) rfl
  · rw [Sto.add_len] at hi hj
    by_cases h1 : i < S.len
    · by_cases h2 : j < S.len
      · rw [ag i h1, ag j h2] at e; exact r.inj i j h1 h2 e
      · have : j = S.len := by omega
        subst this
        rw [ag i h1, withAt_same] at e
        exact absurd e (ne i h1)
    · have : i = S.len := by omega
      subst this
      by_cases h2 : j < S.len
      · rw [ag j h2, withAt_same] at e
        exact absurd e.symm (ne j h2)
      · omega
  · have h : n < S.len := Nat.lt_of_lt_of_le hn (r.lens b hb)
    have e' : S.objs[n]? = some o' := by rw [← e]; simp [Sto.add, List.getElem?_append_left h]
    exact r.low hd b hb n o' hn e'
  · rw [upd_ne]
    · exact e
    · intro z; rw [z, hp] at e; cases e
  · rw [Sto.add_len] at h2
    have : n = S.len := by omega
    subst this
    rw [withAt_same]
    exact hp
/-! ### a store into an object -/
/-- dirty: a thing of an elder frame gets something with a number in it -/
def Sto.esc (S : Sto) (n : Nat) (ok : Bool) : Bool := match ok with
  | true => S.dirty
  | false => S.dirty || Nat.blt n (S.bs.headD 0)
def Sto.put (S : Sto) (n : Nat) (o : O) (ok : Bool) : Sto := ⟨S.objs.set n o, S.bs, S.esc n ok⟩
theorem Sto.put_len (S : Sto) (n : Nat) (o : O) (ok : Bool) : (S.put n o ok).len = S.len := by simp [Sto.put, Sto.len]
theorem esc_ok {S : Sto} {n : Nat} {ok : Bool} (h : S.esc n ok = false) : S.dirty = false ∧ (ok = false → S.bs.headD 0 ≤ n) := by
  unfold Sto.esc at h
  cases ok with
  | true => exact ⟨h, fun z => (nomatch z)⟩
  | false =>
    obtain ⟨h1, h2⟩ := Bool.or_eq_false_iff.mp h
    refine ⟨h1, fun _ => ?_⟩
    by_cases z : n < S.bs.headD 0
    · rw [show Nat.blt n (S.bs.headD 0) = true from Nat.ble_eq_true_of_le z] at h2; cases h2
    · omega
theorem Ext.put (r : Rel m S H) {n : Nat} {o o0 : O} {ho ho0 : HO} {ok : Bool} (h1 : S.objs[n]? = some o0) (h0 : H (m n) = some ho0) (mu : Mut (some ho0)) (hok : OOk m S.len (upd H (m n) ho) (m n) o) (hb : ok = true → ∀ b, o0.blw b = true → o.blw b = true) :
    Ext m m S (S.put n o ok) H (upd H (m n) ho) := by
  have hn : n < S.len := (List.getElem?_eq_some_iff.mp h1).1
  have kp : Keep H (upd H (m n) ho) := ⟨fun a xs e => by
      rw [upd_ne]
      · exact e
      · rintro rfl; rw [h0] at e; cases e; exact mu, fun a o' u e => by
      rw [upd_ne]
      · exact e
      · rintro rfl; rw [h0] at e; cases e; exact mu⟩
  refine ⟨by rw [Sto.put_len]; exact Nat.le_refl _, fun _ _ => rfl, kp, rfl, ⟨fun i o' e => ?_, fun i j hi hj e => ?_, fun hd b hbs i o' hi e => ?_, r.top, fun b hb => by rw [Sto.put_len]; exact r.lens b hb⟩, fun a o' e hn' => by rw [upd_ne (Ne.symm (hn' n hn))]; exact e, fun i h1 h2 => absurd h2 (by rw [Sto.put_len]; exact Nat.not_lt_of_le h1)⟩
  · rw [Sto.put_len]
    by_cases h : i = n
    · subst h
      have e' : o = o' := by
        have : (S.objs.set i o)[i]? = some o' := e
        rw [List.getElem?_set_self hn] at this
        exact Option.some.inj this
      subst e'
      exact hok
    · have e' : S.objs[i]? = some o' := by
        have : (S.objs.set n o)[i]? = some o' := e
        rw [List.getElem?_set_ne (Ne.symm h)] at this
        exact this
      have hi : i < S.len := (List.getElem?_eq_some_iff.mp e').1
      exact (r.obj i o' e').mono' (Nat.le_refl _) (fun _ _ => rfl) kp (upd_ne fun z => h (r.inj i n hi hn z))
  · rw [Sto.put_len] at hi hj; exact r.inj i j hi hj e
  · obtain ⟨d1, d2⟩ := esc_ok hd
    by_cases h : i = n
    · subst h
      have e' : o = o' := by
        have : (S.objs.set i o)[i]? = some o' := e
        rw [List.getElem?_set_self hn] at this
        exact Option.some.inj this
      subst e'
      cases ok with
      | true => exact hb rfl b (r.low d1 b hbs i o0 hi h1)
      | false => exact absurd (Nat.lt_of_lt_of_le hi (r.top b hbs)) (Nat.not_lt_of_le (d2 rfl))
    · have e' : S.objs[i]? = some o' := by
        have : (S.objs.set n o)[i]? = some o' := e
        rw [List.getElem?_set_ne (Ne.symm h)] at this
        exact this
      exact r.low d1 b hbs i o' hi e'
end

/-! ### readings -/
inductive Res (α : Type) where
  | ok (a : α) (S : Sto)
  | bad
abbrev En := List (Option D)
structure REnv (m : Nat → Addr) (k : Nat) (H : Hp) (ρ : En) (σ : L2.St) : Prop where
  len : ρ.length = σ.length
  get : ∀ (i : Nat) d, ρ[i]? = some (some d) → ∃ v, σ[i]? = some (some v) ∧ RD m k H d v
theorem REnv.ext {m m' : Nat → Addr} {S S' : Sto} {H H' : Hp} {ρ : En} {σ : L2.St} (h : REnv m S.len H ρ σ) (e : Ext m m' S S' H H') : REnv m' S'.len H' ρ σ := ⟨h.len, fun i d q => by
  obtain ⟨v, h1, h2⟩ := h.get i d q
  exact ⟨v, h1, h2.ext e⟩⟩
/-! ### the abstract heap without its tables -/
def noT (H : Hp) : Hp := fun a => match H a with
  | some (.tbl _) => none
  | o => o
section
variable {m m' m2 : Nat → Addr} {S S' S2 : Sto} {H H' H2 : Hp} {k : Nat}
theorem noT_some {a : Addr} {o : HO} (h : H a = some o) (n : ∀ ps, o ≠ .tbl ps) : noT H a = some o := by
  unfold noT
  rw [h]
  split
  · rename_i ps e
    cases e
    exact absurd rfl (n ps)
  · rfl
theorem noT_of {a : Addr} {o : HO} (h : noT H a = some o) : H a = some o ∧ ∀ ps, o ≠ .tbl ps := by
  unfold noT at h
  split at h
  · cases h
  · rename_i n
    exact ⟨h, fun ps e => n ps (by rw [h, e])⟩
theorem noT_none {a : Addr} (h : H a = none) : noT H a = none := by
  unfold noT
  rw [h]
theorem noT_eq {a : Addr} (n : ∀ ps, H a ≠ some (.tbl ps)) : noT H a = H a := by
  cases e : H a with
  | none => exact noT_none e
  | some o => exact noT_some e fun ps z => n ps (by rw [e, z])
theorem noT_tup {a : Addr} {vs : List V} (h : H a = some (.tup vs)) : noT H a = some (.tup vs) := noT_some h (fun ps z => by cases z)
theorem keep_noT : Keep H (noT H) := ⟨fun a xs e => noT_some e (fun ps z => by cases z), fun a o u e => noT_some e (fun ps z => by cases z)⟩
theorem keep_ofT : Keep (noT H) H := ⟨fun a xs e => (noT_of e).1, fun a o u e => (noT_of e).1⟩
theorem OOk.notTbl {a : Addr} {o : O} (h : OOk m k H a o) (ps : Array Value) : H a ≠ some (.tbl ps) := fun z => by
  cases o with
  | lst xs => obtain ⟨vs, e, _⟩ := h; rw [z] at e; cases e
  | frz xs => obtain ⟨vs, _, e, _⟩ := h; rw [z] at e; cases e
  | dct kvs => obtain ⟨vs, e, _⟩ := h; rw [z] at e; cases e
  | dctT kvs => obtain ⟨vs, e, _⟩ := h; rw [z] at e; cases e
  | dctN kvs =>
    obtain ⟨xs, e, _⟩ := h
    have e := e.at_
    rw [z] at e
    unfold NDict at e
    cases e
  | set xs =>
    have e : H a = some (.set _ _) := h
    rw [z] at e
    cases e
theorem OOk.noT {a : Addr} {o : O} (h : OOk m k H a o) : OOk m k (noT H) a o := h.mono' (Nat.le_refl _) (fun _ _ => rfl) keep_noT (noT_eq h.notTbl)
theorem Rel.noT (R : Rel m S H) : Rel m S (noT H) := ⟨fun n o e => (R.obj n o e).noT, R.inj, R.low, R.top, R.lens⟩
theorem RD.noT {d : D} {v : V} (h : RD m k H d v) : RD m k (noT H) d v := RD.mono' (Nat.le_refl _) (fun _ _ => rfl) keep_noT d v h
theorem RDs.noT {d : List D} {v : List V} (h : RDs m k H d v) : RDs m k (noT H) d v := RDs.mono' (Nat.le_refl _) (fun _ _ => rfl) keep_noT d v h
theorem REnv.noT {ρ : En} {σ : L2.St} (h : REnv m k H ρ σ) : REnv m k (noT H) ρ σ := ⟨h.len, fun i d e => let ⟨v, a, b⟩ := h.get i d e; ⟨v, a, b.noT⟩⟩
/-- what is tracked, but tables, goes on -/
abbrev ExtX (m m' : Nat → Addr) (S S' : Sto) (H H' : Hp) : Prop := Ext m m' S S' (noT H) H'
theorem Ext.x (X : Ext m m' S S' H H') : ExtX m m' S S' H H' := ⟨X.len, X.ag, ⟨fun a xs e => X.keep.tup a xs (noT_of e).1, fun a o u e => X.keep.frz a o u (noT_of e).1⟩, X.bs, X.rel, fun a o e h => X.oth a o (noT_of e).1 h, fun n h1 h2 => noT_none (X.new n h1 h2)⟩
theorem ExtX.refl (R : Rel m S H) : ExtX m m S S H H := (Ext.refl R).x
theorem ExtX.trans (a : ExtX m m' S S' H H') (b : ExtX m' m2 S' S2 H' H2) : ExtX m m2 S S2 H H2 := by
  refine Ext.trans (H' := Sw.noT H') ⟨a.len, a.ag, ⟨fun c xs e => noT_some (a.keep.tup c xs e) (fun ps z => by cases z), fun c o u e => noT_some (a.keep.frz c o u e) (fun ps z => by cases z)⟩, a.bs, (Ext.rel a).noT, fun c o e h => noT_some (a.oth c o e h) (noT_of e).2, a.new⟩ b
theorem RD.extX {d : D} {v : V} (h : RD m S.len H d v) (e : ExtX m m' S S' H H') : RD m' S'.len H' d v := RD.ext h.noT e
theorem RDs.extX {d : List D} {v : List V} (h : RDs m S.len H d v) (e : ExtX m m' S S' H H') : RDs m' S'.len H' d v := RDs.ext h.noT e
theorem REnv.extX {ρ : En} {σ : L2.St} (h : REnv m S.len H ρ σ) (e : ExtX m m' S S' H H') : REnv m' S'.len H' ρ σ := REnv.ext h.noT e
end
abbrev Ev := En → Sto → Res D
abbrev EvA := En → Sto → Res (List D)
def rdE (f : Ev) : TE := fun σ H Q => ∃ m S ρ d S', Rel m S H ∧ REnv m S.len H ρ σ ∧ f ρ S = .ok d S' ∧ ∀ m' H' v, Ext m m' S S' H H' → RD m' S'.len H' d v → Q v H'
def rdT (f : Ev) : TT := fun σ H Q => ∃ m S ρ b S', Rel m S H ∧ REnv m S.len H ρ σ ∧ f ρ S = .ok (.bl b) S' ∧ ∀ m' H', Ext m m' S S' H H' → Q b H'
def rdA (f : EvA) : TA := fun σ H Q => ∃ m S ρ d S', Rel m S H ∧ REnv m S.len H ρ σ ∧ f ρ S = .ok d S' ∧ ∀ m' H' v, Ext m m' S S' H H' → RDs m' S'.len H' d v → Q v H'
/-- an operation upon values -/
def rd1 (g : D → Sto → Res D) : V → Hp → VK → Prop := fun x H Q => ∃ m S d1 d S', Rel m S H ∧ RD m S.len H d1 x ∧ g d1 S = .ok d S' ∧ ∀ m' H' v, Ext m m' S S' H H' → RD m' S'.len H' d v → Q v H'
def rd2 (g : D → D → Sto → Res D) : R2 := fun x y H Q => ∃ m S d1 d2 d S', Rel m S H ∧ RD m S.len H d1 x ∧ RD m S.len H d2 y ∧ g d1 d2 S = .ok d S' ∧ ∀ m' H' v, Ext m m' S S' H H' → RD m' S'.len H' d v → Q v H'
def rdN (g : List D → Sto → Res D) : List V → Hp → VK → Prop := fun xs H Q => ∃ m S ds d S', Rel m S H ∧ RDs m S.len H ds xs ∧ g ds S = .ok d S' ∧ ∀ m' H' v, Ext m m' S S' H H' → RD m' S'.len H' d v → Q v H'

section
variable {X : Cx} {e a b : Expr} {t t' : TE} {f g : Ev}
theorem PE.of (h : PE X e t) (i : ∀ σ H Q, t' σ H Q → t σ H Q) : PE X e t' := ⟨fun pins s σ H Q I q => h.run pins s σ H Q I (i σ H Q q)⟩
theorem PT.of {t t' : TT} (h : PT X e t) (i : ∀ σ H Q, t' σ H Q → t σ H Q) : PT X e t' := ⟨fun pins s σ H Q I q => h.run pins s σ H Q I (i σ H Q q)⟩
theorem PW.of {t t' : TT} (h : PW X e t) (i : ∀ σ H Q, t' σ H Q → t σ H Q) : PW X e t' := ⟨fun wh pins s σ H Q I q => h.run wh pins s σ H Q I (i σ H Q q)⟩
theorem PA.of {es : List Expr} {t t' : TA} (h : PA X es t) (i : ∀ σ H Q, t' σ H Q → t σ H Q) : PA X es t' := ⟨fun pos pins s σ H Q I q => h.run pos pins s σ H Q I (i σ H Q q)⟩
theorem OpR.of {fn : Value → Value → Sem Value} {r r' : R2} (h : OpR X fn r) (i : ∀ x y H Q, r' x y H Q → r x y H Q) : OpR X fn r' := fun pins s σ H x y v u Q I rx ry q => h pins s σ H x y v u Q I rx ry (i x y H Q q)
theorem CallR.of {fn : Value} {r r' : List V → Hp → VK → Prop} (h : CallR X fn r) (i : ∀ x H Q, r' x H Q → r x H Q) : CallR X fn r' := fun pins s σ H x v Q I rx q => h pins s σ H x v Q I rx (i x H Q q)

/-! ### the evaluator's joints -/
def ev2 (g : D → D → Sto → Res D) (fa fb : Ev) : Ev := fun ρ S => match fa ρ S with
  | .ok x S1 => match fb ρ S1 with
    | .ok y S2 => g x y S2
    | .bad => .bad
  | .bad => .bad
def ev1 (g : D → Sto → Res D) (fa : Ev) : Ev := fun ρ S => match fa ρ S with
  | .ok x S1 => g x S1
  | .bad => .bad
theorem ev2_ok {gg : D → D → Sto → Res D} {fa fb : Ev} {ρ : En} {S S' : Sto} {d : D} (h : ev2 gg fa fb ρ S = .ok d S') : ∃ x S1 y S2, fa ρ S = .ok x S1 ∧ fb ρ S1 = .ok y S2 ∧ gg x y S2 = .ok d S' := by
  unfold ev2 at h
  cases h1 : fa ρ S with
  | bad => rw [h1] at h; cases h
  | ok x S1 =>
    rw [h1] at h
    dsimp only at h
    cases h2 : fb ρ S1 with
    | bad => rw [h2] at h; cases h
    | ok y S2 => rw [h2] at h; exact ⟨x, S1, y, S2, rfl, h2, h⟩
theorem ev1_ok {gg : D → Sto → Res D} {fa : Ev} {ρ : En} {S S' : Sto} {d : D} (h : ev1 gg fa ρ S = .ok d S') : ∃ x S1, fa ρ S = .ok x S1 ∧ gg x S1 = .ok d S' := by
  unfold ev1 at h
  cases h1 : fa ρ S with
  | bad => rw [h1] at h; cases h
  | ok x S1 => rw [h1] at h; exact ⟨x, S1, rfl, h⟩
/-- two readings in a row, then an operation -/
theorem rd2_seq {gg : D → D → Sto → Res D} {fa fb : Ev} {σ : L2.St} {H : Hp} {Q : VK} (h : rdE (ev2 gg fa fb) σ H Q) : rdE fa σ H fun x H1 => rdE fb σ H1 fun y H2 => rd2 gg x y H2 Q := by
  obtain ⟨m, S, ρ, d, S', R, E, e, q⟩ := h
  obtain ⟨x, S1, y, S2, h1, h2, h3⟩ := ev2_ok e
  exact ⟨m, S, ρ, x, S1, R, E, h1, fun m1 H1 v1 X1 r1 => ⟨m1, S1, ρ, y, S2, X1.rel, E.ext X1, h2, fun m2 H2 v2 X2 r2 => ⟨m2, S2, x, y, d, S', X2.rel, r1.ext X2, r2, h3, fun m3 H3 v3 X3 r3 => q m3 H3 v3 (X1.trans (X2.trans X3)) r3⟩⟩⟩
theorem rd1_seq {gg : D → Sto → Res D} {fa : Ev} {σ : L2.St} {H : Hp} {Q : VK} (h : rdE (ev1 gg fa) σ H Q) : rdE fa σ H fun x H1 => rd1 gg x H1 Q := by
  obtain ⟨m, S, ρ, d, S', R, E, e, q⟩ := h
  obtain ⟨x, S1, h1, h3⟩ := ev1_ok e
  exact ⟨m, S, ρ, x, S1, R, E, h1, fun m1 H1 v1 X1 r1 => ⟨m1, S1, x, d, S', X1.rel, r1, h3, fun m3 H3 v3 X3 r3 => q m3 H3 v3 (X1.trans X3) r3⟩⟩
theorem pev_bin {op : Operator} {pos : Pos} {gg : D → D → Sto → Res D} {fa fb : Ev} (ho : OpR X (binaryOp op) (rd2 gg)) (ha : PE X a (rdE fa)) (hb : PE X b (rdE fb)) : PE X (.BinOp a op b pos) (rdE (ev2 gg fa fb)) :=
  PE.of (pe_op ho ha hb) fun _ _ _ h => rd2_seq h
theorem pev_cmp {op : CmpOp} {pos : Pos} {gg : D → D → Sto → Res D} {fa fb : Ev} (ho : OpR X (compareOp op) (rd2 gg)) (ha : PE X a (rdE fa)) (hb : PE X b (rdE fb)) (hm : behindInMarks op b = false) : PE X (.Compare a [op] [b] pos) (rdE (ev2 gg fa fb)) :=
  PE.of (pe_cmpR ho ha hb hm) fun _ _ _ h => rd2_seq h
theorem rdT_of {f : Ev} {σ : L2.St} {H : Hp} {Q : Bool → Hp → Prop} (h : rdT f σ H Q) : rdE f σ H fun x H1 => ∃ c, x = .bl c ∧ Q c H1 := by
  obtain ⟨m, S, ρ, b, S', R, E, e, q⟩ := h
  exact ⟨m, S, ρ, _, S', R, E, e, fun m1 H1 v1 X1 r1 => ⟨b, r1, q m1 H1 X1⟩⟩
theorem ptv_cmp {op : CmpOp} {pos : Pos} {gg : D → D → Sto → Res D} {fa fb : Ev} (ho : OpR X (compareOp op) (rd2 gg)) (ha : PE X a (rdE fa)) (hb : PE X b (rdE fb)) (hm : behindInMarks op b = false) : PT X (.Compare a [op] [b] pos) (rdT (ev2 gg fa fb)) :=
  PT.of (pt_cmpR ho ha hb hm) fun _ _ _ h => rd2_seq (rdT_of h)
theorem ptv_val {f : Ev} (h : PE X e (rdE f)) (he : ∀ whole, isTrue e X.env whole = (do let v ← whole; standAt e.pos; holding [v] (truthy v))) : PT X e (rdT f) :=
  PT.of (pt_val h he) fun _ _ _ h => rdT_of h

/-! ### constants, names -/
def evC (d : D) : Ev := fun _ S => .ok d S
def evV (i : Nat) : Ev := fun ρ S => match ρ[i]? with
  | some (some d) => .ok d S
  | _ => .bad
theorem rdC {d : D} {σ : L2.St} {H : Hp} {Q : VK} {v : V} (h : rdE (evC d) σ H Q) (hv : ∀ m k H, RD m k H d v) : Q v H := by
  obtain ⟨m, S, ρ, d', S', R, E, e, q⟩ := h
  cases e
  exact q m H v (Ext.refl R) (hv _ _ _)
theorem pev_int {i : Int} {j : Nat} {pos : Pos} : PE X (.Constant (.int i) j pos) (rdE (evC (.int i))) := PE.of pe_int fun _ _ _ h => rdC h fun _ _ _ => rfl
theorem pev_bl {i : Bool} {j : Nat} {pos : Pos} : PE X (.Constant (.bool i) j pos) (rdE (evC (.bl i))) := PE.of pe_bl fun _ _ _ h => rdC h fun _ _ _ => rfl
theorem pev_non {j : Nat} {pos : Pos} : PE X (.Constant .none j pos) (rdE (evC .non)) := PE.of pe_non fun _ _ _ h => rdC h fun _ _ _ => rfl
theorem pev_str {x : Str} {j : Nat} {pos : Pos} : PE X (.Constant (.str x) j pos) (rdE (evC (.str x))) := PE.of pe_str fun _ _ _ h => rdC h fun _ _ _ => rfl
theorem pev_var {i : Nat} {x : Str} {pos : Pos} (hN : X.N[i]? = some x) (hv : Vis X.env.scope x) (hd : (x == ("__debug__" : Str)) = false) (hcd : (x == ("__classdict__" : Str)) = false) : PE X (.Name x pos) (rdE (evV i)) :=
  PE.of (pe_var hN hv hd hcd) fun σ H Q h => by
    obtain ⟨m, S, ρ, d, S', R, E, e, q⟩ := h
    unfold evV at e
    split at e
    · rename_i d' hd'
      cases e
      obtain ⟨v, h1, h2⟩ := E.get i d hd'
      exact ⟨v, h1, q m H v (Ext.refl R) h2⟩
    · cases e
theorem pev_glob {x : Str} {d : D} {v : V} {u : Value} {pos : Pos} (hg : Gl X x) (hm : X.mg x = some u) (r : RelV v u) (hv : ∀ m k H, RD m k H d v) (hd : (x == ("__debug__" : Str)) = false) : PE X (.Name x pos) (rdE (evC d)) :=
  PE.of (pe_glob hg hm r hd) fun _ _ _ h => rdC h hv
end
end Sw

/-! Eng2: operations upon values. -/
namespace Sw
open PySem PySem.Spec PyProof.Rows L2

def Sto.list? (S : Sto) (n : Nat) : Option (List D) := match S.objs[n]? with
  | some (.lst xs) => some xs
  | some (.frz xs) => some xs
  | _ => none
section
variable {m : Nat → Addr} {S : Sto} {H : Hp}
theorem RDs.length {k : Nat} : ∀ {ds : List D} {vs : List V}, RDs m k H ds vs → ds.length = vs.length
  | [], vs, h => by rw [show vs = [] from h]; rfl
  | d :: ds, vs, h => by
    obtain ⟨v, r, rfl, _, h3⟩ := h
    simp [h3.length]
theorem RDs.append {k : Nat} : ∀ {ds es : List D} {vs ws : List V}, RDs m k H ds vs → RDs m k H es ws → RDs m k H (ds ++ es) (vs ++ ws)
  | [], es, vs, ws, h, h' => by rw [show vs = [] from h]; exact h'
  | d :: ds, es, vs, ws, h, h' => by
    obtain ⟨v, r, rfl, h2, h3⟩ := h
    exact ⟨v, r ++ ws, rfl, h2, h3.append h'⟩
theorem RDs.one {k : Nat} {d : D} {v : V} (h : RD m k H d v) : RDs m k H [d] [v] := ⟨v, [], rfl, h, rfl⟩
theorem RDs.get {k : Nat} : ∀ {ds : List D} {vs : List V} {i : Nat} {d : D}, RDs m k H ds vs → ds[i]? = some d → ∃ v, vs[i]? = some v ∧ RD m k H d v
  | [], _, _, _, _, e => by simp at e
  | d :: ds, vs, 0, x, h, e => by
    obtain ⟨v, r, rfl, h2, h3⟩ := h
    simp at e
    subst e
    exact ⟨v, rfl, h2⟩
  | d :: ds, vs, i + 1, x, h, e => by
    obtain ⟨v, r, rfl, h2, h3⟩ := h
    simp at e
    obtain ⟨w, h4, h5⟩ := RDs.get h3 e
    exact ⟨w, by simpa using h4, h5⟩
theorem RDs.take {k : Nat} : ∀ {ds : List D} {vs : List V} (n : Nat), RDs m k H ds vs → RDs m k H (ds.take n) (vs.take n)
  | [], vs, n, h => by rw [show vs = [] from h]; simp [RDs]
  | d :: ds, vs, 0, h => by simp [RDs]
  | d :: ds, vs, n + 1, h => by
    obtain ⟨v, r, rfl, h2, h3⟩ := h
    exact ⟨v, r.take n, rfl, h2, h3.take n⟩
theorem RDs.drop {k : Nat} : ∀ {ds : List D} {vs : List V} (n : Nat), RDs m k H ds vs → RDs m k H (ds.drop n) (vs.drop n)
  | [], vs, n, h => by rw [show vs = [] from h]; simp [RDs]
  | d :: ds, vs, 0, h => h
  | d :: ds, vs, n + 1, h => by
    obtain ⟨v, r, rfl, h2, h3⟩ := h
    exact h3.drop n
theorem RDs.reverse {k : Nat} : ∀ {ds : List D} {vs : List V}, RDs m k H ds vs → RDs m k H ds.reverse vs.reverse
  | [], vs, h => by rw [show vs = [] from h]; rfl
  | d :: ds, vs, h => by
    obtain ⟨v, r, rfl, h2, h3⟩ := h
    simp only [List.reverse_cons]
    exact h3.reverse.append (.one h2)
/-- a list that is read -/
theorem Rel.sqL {K : Frg} (r : Rel m S H) {n : Nat} {xs : List D} (h : S.list? n = some xs) : ∃ vs, SqL K H (m n) vs ∧ RDs m S.len H xs vs ∧ (H (m n) = some (.lst vs) ∨ ∃ o, H (m n) = some (.frz o (.lst vs))) := by
  unfold Sto.list? at h
  cases e : S.objs[n]? with
  | none => rw [e] at h; cases h
  | some o =>
    rw [e] at h
    have q := r.obj n o e
    cases o with
    | lst ys => cases h; obtain ⟨vs, h1, h2⟩ := q; exact ⟨vs, .inl (.inl h1), h2, .inl h1⟩
    | frz ys => cases h; obtain ⟨vs, o, h1, h2⟩ := q; exact ⟨vs, .inl (.inr ⟨o, h1⟩), h2, .inr ⟨o, h1⟩⟩
    | dct kvs => cases h
    | dctT kvs => cases h
    | dctN kvs => cases h
    | set xs => cases h
/-- a new tuple -/
theorem Ext.tup (r : Rel m S H) {p : Addr} {o : HO} (hp : H p = none) : Ext m m S S H (upd H p o) := by
  have kp : Keep H (upd H p o) := Keep.new hp
  have ne : ∀ n, n < S.len → m n ≠ p := fun n h e => by obtain ⟨u, q⟩ := r.live h; rw [e, hp] at q; cases q
  exact ⟨Nat.le_refl _, fun _ _ => rfl, kp, rfl, ⟨fun n o' e => (r.obj n o' e).mono' (Nat.le_refl _) (fun _ _ => rfl) kp (upd_ne (ne n (List.getElem?_eq_some_iff.mp e).1)), r.inj, r.low, r.top, r.lens⟩, fun a o' e _ => (by
    rw [upd_ne]
    · exact e
    · intro z; rw [z, hp] at e; cases e), fun n h1 h2 => absurd h2 (Nat.not_lt_of_le h1)⟩
theorem RD.newTup (r : Rel m S H) {p : Addr} {ds : List D} {vs : List V} (hp : H p = none) (h : RDs m S.len H ds vs) : RD m S.len (upd H p (.tup vs)) (.tup ds) (.ref p) :=
  ⟨p, vs, rfl, upd_same, RDs.mono' (Nat.le_refl _) (fun _ _ => rfl) (Keep.new hp) _ _ h⟩
/-- what follows a new tuple -/
theorem goTup {Q : VK} (r : Rel m S H) {ds : List D} {vs : List V} (h : RDs m S.len H ds vs) (q : ∀ m' H' v, Ext m m' S S H H' → RD m' S.len H' (.tup ds) v → Q v H') : ∀ p, H p = none → Q (.ref p) (upd H p (.tup vs)) :=
  fun p hp => q m _ _ (Ext.tup r hp) (RD.newTup r hp h)
/-- what follows a new list -/
theorem goLst {Q : VK} (r : Rel m S H) {ds : List D} {vs : List V} (h : RDs m S.len H ds vs) (q : ∀ m' H' v, Ext m m' S (S.add (.lst ds)) H H' → RD m' (S.add (.lst ds)).len H' (.ref S.len) v → Q v H') : ∀ p, H p = none → Q (.ref p) (upd H p (.lst vs)) :=
  fun p hp => q (withAt m S.len p) _ _ (Ext.add r hp ⟨vs, upd_same, RDs.mono' (Nat.le_refl _) (fun _ _ => rfl) (Keep.new hp) _ _ h⟩) ⟨by rw [Sto.add_len]; exact Nat.lt_succ_self _, by rw [withAt_same]⟩
end

def fits (n : Nat) : Bool := Nat.ble n 16777216
theorem fits_le {n : Nat} (h : fits n = true) : n ≤ sizeLine := Nat.le_of_ble_eq_true h
def small (i : Int) : Bool := decide (-18446744073709551616 < i) && decide (i < 18446744073709551616)

/-! ### arithmetic -/
def newL (S : Sto) (xs : List D) : Res D := .ok (.ref S.len) (S.add (.lst xs))
def addD : D → D → Sto → Res D
  | .int i, .int j, S => .ok (.int (i + j)) S
  | .str a, .str b, S => match fits (a.length + b.length) with
    | true => .ok (.str (a ++ b)) S
    | false => .bad
  | .tup xs, .tup ys, S => match fits (xs.length + ys.length) with
    | true => .ok (.tup (xs ++ ys)) S
    | false => .bad
  | .ref n, .ref k, S => match S.objs[n]?, S.objs[k]? with
    | some (.lst xs), some (.lst ys) => match fits (xs.length + ys.length) with
      | true => newL S (xs ++ ys)
      | false => .bad
    | _, _ => .bad
  | _, _, _ => .bad
def subD : D → D → Sto → Res D
  | .int i, .int j, S => .ok (.int (i - j)) S
  | _, _, _ => .bad
def mulD : D → D → Sto → Res D
  | .int i, .int j, S => match small i || small j with
    | true => .ok (.int (i * j)) S
    | false => .bad
  | _, _, _ => .bad
def fdivD : D → D → Sto → Res D
  | .int i, .int j, S => match decide (0 < j) && decide (j < 1073741824) with
    | true => .ok (.int (i / j)) S
    | false => .bad
  | _, _, _ => .bad
def modD : D → D → Sto → Res D
  | .int i, .int j, S => match decide (0 < j) with
    | true => .ok (.int (i % j)) S
    | false => .bad
  | _, _, _ => .bad
section
variable {X : Cx}
/-- an operation that leaves the store -/
theorem rdPure {m : Nat → Addr} {S : Sto} {H : Hp} {d : D} {v : V} {Q : VK} (R : Rel m S H) (q : ∀ m' H' v, Ext m m' S S H H' → RD m' S.len H' d v → Q v H') (r : RD m S.len H d v) : Q v H := q m H v (Ext.refl R) r
theorem opv_sub : OpR X (binaryOp .Sub) (rd2 subD) := OpR.of op_sub fun x y H Q h => by
  obtain ⟨m, S, d1, d2, d, S', R, r1, r2, e, q⟩ := h
  unfold subD at e
  split at e
  · cases e; exact ⟨_, _, r1, r2, rdPure R q rfl⟩
  · cases e
theorem small_ok {i : Int} (h : small i = true) : -(2 ^ 64) < i ∧ i < 2 ^ 64 := by
  unfold small at h
  simp only [Bool.and_eq_true, decide_eq_true_eq] at h
  constructor
  · have : (-(2 ^ 64) : Int) = -18446744073709551616 := by decide
    omega
  · have : ((2 ^ 64) : Int) = 18446744073709551616 := by decide
    omega
theorem opv_mul : OpR X (binaryOp .Mult) (rd2 mulD) := OpR.of op_mul fun x y H Q h => by
  obtain ⟨m, S, d1, d2, d, S', R, r1, r2, e, q⟩ := h
  unfold mulD at e
  split at e
  · split at e
    · rename_i hs
      cases e
      refine ⟨_, _, r1, r2, ?_, rdPure R q rfl⟩
      rcases Bool.or_eq_true_iff.mp hs with z | z
      · exact .inl (small_ok z)
      · exact .inr (small_ok z)
    · cases e
  · cases e
theorem opv_fdiv : OpR X (binaryOp .FloorDiv) (rd2 fdivD) := OpR.of op_fdiv fun x y H Q h => by
  obtain ⟨m, S, d1, d2, d, S', R, r1, r2, e, q⟩ := h
  unfold fdivD at e
  split at e
  · split at e
    · rename_i hs
      cases e
      simp only [Bool.and_eq_true, decide_eq_true_eq] at hs
      exact ⟨_, _, r1, r2, hs, rdPure R q rfl⟩
    · cases e
  · cases e
theorem opv_mod : OpR X (binaryOp .Mod) (rd2 modD) := OpR.of op_mod fun x y H Q h => by
  obtain ⟨m, S, d1, d2, d, S', R, r1, r2, e, q⟩ := h
  unfold modD at e
  split at e
  · split at e
    · rename_i hs
      cases e
      simp only [decide_eq_true_eq] at hs
      exact ⟨_, _, r1, r2, hs, rdPure R q rfl⟩
    · cases e
  · cases e
theorem opv_add : OpR X (binaryOp .Add) (rd2 addD) := OpR.of (OpR.or op_add (OpR.or op_add_str (OpR.or op_catA op_cat))) fun x y H Q h => by
  obtain ⟨m, S, d1, d2, d, S', R, r1, r2, e, q⟩ := h
  unfold addD at e
  split at e
  · cases e; exact .inl ⟨_, _, r1, r2, rdPure R q rfl⟩
  · split at e
    · rename_i hs
      cases e
      exact .inr (.inl ⟨_, _, r1, r2, fits_le hs, rdPure R q rfl⟩)
    · cases e
  · split at e
    · rename_i xs ys S hs
      cases e
      obtain ⟨a, vs, e1, s1, q1⟩ := r1
      obtain ⟨b, ws, e2, s2, q2⟩ := r2
      refine .inr (.inr (.inl ⟨a, b, vs, ws, e1, e2, .of s1, .of s2, ?_, fun z => ?_, fun z z' => ?_, fun z z' => ?_⟩))
      · rw [← q1.length, ← q2.length]; exact fits_le hs
      · subst z
        have : xs = [] := List.eq_nil_of_length_eq_zero (by rw [q1.length]; rfl)
        subst this
        exact rdPure R q ⟨b, ws, rfl, s2, q2⟩
      · subst z'
        have : ys = [] := List.eq_nil_of_length_eq_zero (by rw [q2.length]; rfl)
        subst this
        exact rdPure R q ⟨a, vs, rfl, s1, by rw [List.append_nil]; exact q1⟩
      · exact goTup R (q1.append q2) q
    · cases e
  · rename_i n k S
    split at e
    · rename_i xs ys h1 h2
      split at e
      · rename_i hs
        cases e
        obtain ⟨vs, a1, q1⟩ := R.obj _ _ h1
        obtain ⟨ws, a2, q2⟩ := R.obj _ _ h2
        refine .inr (.inr (.inr ⟨_, _, vs, ws, r1.2, r2.2, a1, a2, ?_, goLst R (q1.append q2) q⟩))
        rw [← q1.length, ← q2.length]; exact fits_le hs
      · cases e
    · cases e
  · cases e

/-! ### comparisons -/
def ltI (p : Int → Int → Bool) : D → D → Sto → Res D
  | .int i, .int j, S => .ok (.bl (p i j)) S
  | _, _, _ => .bad
theorem opv_cmpI {op : CmpOp} {p : Int → Int → Bool} (h : OpR X (compareOp op) (rI0 fun i j => .bl (p i j))) : OpR X (compareOp op) (rd2 (ltI p)) := OpR.of h fun x y H Q h => by
  obtain ⟨m, S, d1, d2, d, S', R, r1, r2, e, q⟩ := h
  unfold ltI at e
  split at e
  · cases e; exact ⟨_, _, r1, r2, rdPure R q rfl⟩
  · cases e

mutual
def resW (r : Nat → Option PyData) : D → Option PyData
  | .non => some .none
  | .bl b => some (.bool b)
  | .int i => some (.int i)
  | .str x => some (.str x)
  | .tup xs => match resWs r xs with
    | some ds => some (.tuple ds)
    | none => none
  | .ref n => r n
def resWs (r : Nat → Option PyData) : List D → Option (List PyData)
  | [] => some []
  | x :: xs => match resW r x with
    | some d => match resWs r xs with
      | some ds => some (d :: ds)
      | none => none
    | none => none
end
def resR (S : Sto) : Nat → Nat → Option PyData
  | 0, _ => none
  | k + 1, n => match S.list? n with
    | some xs => match resWs (resR S k) xs with
      | some ds => some (.list ds)
      | none => none
    | none => none
def res (S : Sto) (d : D) : Option PyData := resW (resR S 6) d
section
variable {K : Frg} {m : Nat → Addr} {S : Sto} {H : Hp}
mutual
theorem resW_dp {r : Nat → Option PyData} (hr : ∀ n p, r n = some p → n < S.len → Dp K H (.ref (m n)) p ∧ p.plain = true) : ∀ (d : D) (v : V) (p : PyData), RD m S.len H d v → resW r d = some p → Dp K H v p ∧ p.plain = true
  | .non, v, p, h, e => by simp only [resW] at e; cases e; rw [show v = _ from h]; exact ⟨.non, rfl⟩
  | .bl b, v, p, h, e => by simp only [resW] at e; cases e; rw [show v = _ from h]; exact ⟨.bl _, rfl⟩
  | .int b, v, p, h, e => by simp only [resW] at e; cases e; rw [show v = _ from h]; exact ⟨.int _, rfl⟩
  | .str b, v, p, h, e => by simp only [resW] at e; cases e; rw [show v = _ from h]; exact ⟨.str _, rfl⟩
  | .tup xs, v, p, h, e => by
    simp only [resW] at e
    obtain ⟨a, vs, rfl, s, q⟩ := h
    cases e1 : resWs r xs with
    | none => rw [e1] at e; cases e
    | some ds =>
      rw [e1] at e
      cases e
      obtain ⟨h1, h2⟩ := resWs_dp hr xs vs ds q e1
      exact ⟨.tup (.of s) h1, by simp only [PyData.plain]; exact h2⟩
  | .ref n, v, p, h, e => by
    simp only [resW] at e
    rw [h.2]
    exact hr n p e h.1
theorem resWs_dp {r : Nat → Option PyData} (hr : ∀ n p, r n = some p → n < S.len → Dp K H (.ref (m n)) p ∧ p.plain = true) : ∀ (ds : List D) (vs : List V) (ps : List PyData), RDs m S.len H ds vs → resWs r ds = some ps → DpAll K H vs ps ∧ PyData.plainAll ps = true
  | [], vs, ps, h, e => by simp only [resWs] at e; cases e; rw [show vs = [] from h]; exact ⟨.nil, rfl⟩
  | d :: ds, vs, ps, h, e => by
    simp only [resWs] at e
    obtain ⟨v, r', rfl, h2, h3⟩ := h
    cases e1 : resW r d with
    | none => rw [e1] at e; cases e
    | some p =>
      rw [e1] at e
      dsimp only at e
      cases e2 : resWs r ds with
      | none => rw [e2] at e; cases e
      | some qs =>
        rw [e2] at e
        cases e
        obtain ⟨a1, a2⟩ := resW_dp hr d v p h2 e1
        obtain ⟨b1, b2⟩ := resWs_dp hr ds r' qs h3 e2
        exact ⟨.cons a1 b1, by simp only [PyData.plainAll, a2, b2, Bool.and_self]⟩
end
theorem resR_dp (R : Rel m S H) : ∀ (k n : Nat) (p : PyData), resR S k n = some p → n < S.len → Dp K H (.ref (m n)) p ∧ p.plain = true
  | 0, _, _, h, _ => by simp only [resR] at h; cases h
  | k + 1, n, p, h, hn => by
    simp only [resR] at h
    cases e : S.list? n with
    | none => rw [e] at h; cases h
    | some xs =>
      rw [e] at h
      dsimp only at h
      obtain ⟨vs, h1, h2, _⟩ := R.sqL e
      cases e1 : resWs (resR S k) xs with
      | none => rw [e1] at h; cases h
      | some ds =>
        rw [e1] at h
        cases h
        obtain ⟨a1, a2⟩ := resWs_dp (fun n p => resR_dp R k n p) xs vs ds h2 e1
        exact ⟨.lst h1 a1, by simp only [PyData.plain]; exact a2⟩
theorem res_dp (R : Rel m S H) {d : D} {v : V} {p : PyData} (h : RD m S.len H d v) (e : res S d = some p) : Dp K H v p ∧ p.plain = true := resW_dp (fun n p => resR_dp R 6 n p) d v p h e
end
theorem dec_beq {α : Type} [DecidableEq α] (a b : α) : decide (a = b) = (a == b) := by by_cases h : a = b <;> simp [h]
/-- == upon data -/
def eqv? (S : Sto) (x y : D) : Option Bool := match x, y with
  | .int i, .int j => some (decide (i = j))
  | .non, .int _ => some false
  | .int _, .non => some false
  | .non, .non => some true
  | .str a, .str b => some (decide (a = b))
  | x, y => match res S x with
    | some p => match res S y with
      | some q => match Nat.ble p.depth 60 with
        | true => some (PyData.eqv p q)
        | false => none
      | none => none
    | none => none
def eqD (x y : D) (S : Sto) : Res D := match eqv? S x y with
  | some b => .ok (.bl b) S
  | none => .bad
def neD (x y : D) (S : Sto) : Res D := match eqv? S x y with
  | some b => .ok (.bl (!b)) S
  | none => .bad
theorem eqv_wit {pins : List (Addr × Obj)} {s : Shared} {σ : L2.St} {m : Nat → Addr} {S : Sto} {H : Hp} (I : Inv X pins σ H s) (R : Rel m S H) {x y : D} {xv yv : V} {u w : Value} {b : Bool} (hx : RD m S.len H x xv) (hy : RD m S.len H y yv) (rx : RelV xv u) (ry : RelV yv w) (e : eqv? S x y = some b) :
    ∃ p q as bs, Reads s.heap u p as ∧ Reads s.heap w q bs ∧ p.plain = true ∧ q.plain = true ∧ p.depth ≤ 60 ∧ b = PyData.eqv p q := by
  unfold eqv? at e
  split at e
  · cases e
    rw [show xv = _ from hx] at rx; rw [show yv = _ from hy] at ry
    obtain ⟨t, rfl⟩ := rx; obtain ⟨t', rfl⟩ := ry
    exact ⟨_, _, _, _, .int _ _, .int _ _, rfl, rfl, by simp [PyData.depth], by simp only [PyData.eqv]; try exact dec_beq _ _⟩
  · cases e
    rw [show xv = _ from hx] at rx; rw [show yv = _ from hy] at ry
    cases rx; obtain ⟨t', rfl⟩ := ry
    exact ⟨_, _, _, _, .none, .int _ _, rfl, rfl, by simp [PyData.depth], by simp only [PyData.eqv]; try exact dec_beq _ _⟩
  · cases e
    rw [show xv = _ from hx] at rx; rw [show yv = _ from hy] at ry
    obtain ⟨t, rfl⟩ := rx; cases ry
    exact ⟨_, _, _, _, .int _ _, .none, rfl, rfl, by simp [PyData.depth], by simp only [PyData.eqv]; try exact dec_beq _ _⟩
  · cases e
    rw [show xv = _ from hx] at rx; rw [show yv = _ from hy] at ry
    cases rx; cases ry
    exact ⟨_, _, _, _, .none, .none, rfl, rfl, by simp [PyData.depth], by simp only [PyData.eqv]; try exact dec_beq _ _⟩
  · cases e
    rw [show xv = _ from hx] at rx; rw [show yv = _ from hy] at ry
    obtain ⟨t, rfl⟩ := rx; obtain ⟨t', rfl⟩ := ry
    exact ⟨_, _, _, _, .str _ _, .str _ _, rfl, rfl, by simp [PyData.depth], by simp only [PyData.eqv]; try exact dec_beq _ _⟩
  · split at e
    · rename_i p hp
      split at e
      · rename_i q hq
        split at e
        · rename_i hd
          cases e
          obtain ⟨d1, p1⟩ := res_dp R hx hp
          obtain ⟨d2, p2⟩ := res_dp R hy hq
          obtain ⟨as, r1⟩ := Dp.reads I p xv u d1 rx
          obtain ⟨bs, r2⟩ := Dp.reads I q yv w d2 ry
          exact ⟨p, q, as, bs, r1, r2, p1, p2, Nat.le_of_ble_eq_true hd, rfl⟩
        · cases e
      · cases e
    · cases e
theorem opv_eq (hu : X.A.units + 64 < cLine) : OpR X (compareOp .Eq) (rd2 eqD) := by
  intro pins s σ H x y v u Q I rx ry h
  obtain ⟨m, S, d1, d2, d, S', R, r1, r2, e, q⟩ := h
  unfold eqD at e
  split at e
  · rename_i b hb
    cases e
    obtain ⟨p, q', as, bs, a1, a2, a3, a4, a5, a6⟩ := eqv_wit I R r1 r2 rx ry hb
    refine SeqAt.eq_plain a1 a2 a3 a4 (by have := Nat.min_le_left p.depth q'.depth; omega) ?_
    rw [← a6]
    exact ⟨.bl b, H, I, rfl, rdPure R q rfl⟩
  · cases e
theorem opv_ne (hu : X.A.units + 64 < cLine) : OpR X (compareOp .NotEq) (rd2 neD) := by
  intro pins s σ H x y v u Q I rx ry h
  obtain ⟨m, S, d1, d2, d, S', R, r1, r2, e, q⟩ := h
  unfold neD at e
  split at e
  · rename_i b hb
    cases e
    obtain ⟨p, q', as, bs, a1, a2, a3, a4, a5, a6⟩ := eqv_wit I R r1 r2 rx ry hb
    refine SeqAt.ne_plain a1 a2 a3 a4 (by have := Nat.min_le_left p.depth q'.depth; omega) ?_
    rw [← a6]
    exact ⟨.bl (!b), H, I, rfl, rdPure R q rfl⟩
  · cases e
/-- x is y: None, truths -/
def isD : D → D → Sto → Res D
  | .non, .non, S => .ok (.bl true) S
  | .bl a, .bl b, S => .ok (.bl (decide (a = b))) S
  | .int _, .non, S => .ok (.bl false) S
  | .bl _, .non, S => .ok (.bl false) S
  | .str _, .non, S => .ok (.bl false) S
  | .tup _, .non, S => .ok (.bl false) S
  | .ref _, .non, S => .ok (.bl false) S
  | _, _, _ => .bad
def isNotD (x y : D) (S : Sto) : Res D := match isD x y S with
  | .ok (.bl b) S' => .ok (.bl (!b)) S'
  | _ => .bad
theorem isD_wit {m : Nat → Addr} {S S' : Sto} {H : Hp} {d1 d2 d : D} {x y : V} (r1 : RD m S.len H d1 x) (r2 : RD m S.len H d2 y) (e : isD d1 d2 S = .ok d S') : S' = S ∧ ((y = .non ∧ d = .bl (decide (x = .non))) ∨ ∃ a b, x = .bl a ∧ y = .bl b ∧ d = .bl (decide (a = b))) := by
  unfold isD at e
  split at e
  · cases e; exact ⟨rfl, .inl ⟨r2, by rw [show x = .non from r1]; rfl⟩⟩
  · cases e; exact ⟨rfl, .inr ⟨_, _, r1, r2, rfl⟩⟩
  · cases e; exact ⟨rfl, .inl ⟨r2, by rw [show x = _ from r1]; rfl⟩⟩
  · cases e; exact ⟨rfl, .inl ⟨r2, by rw [show x = _ from r1]; rfl⟩⟩
  · cases e; exact ⟨rfl, .inl ⟨r2, by rw [show x = _ from r1]; rfl⟩⟩
  · cases e; obtain ⟨a, vs, rfl, _⟩ := r1; exact ⟨rfl, .inl ⟨r2, rfl⟩⟩
  · cases e; rw [r1.2]; exact ⟨rfl, .inl ⟨r2, rfl⟩⟩
  · cases e
theorem opv_is : OpR X (compareOp .Is) (rd2 isD) := OpR.of (OpR.or op_isN op_isBl) fun x y H Q h => by
  obtain ⟨m, S, d1, d2, d, S', R, r1, r2, e, q⟩ := h
  obtain ⟨rfl, z | ⟨a, b, z1, z2, z3⟩⟩ := isD_wit r1 r2 e
  · obtain ⟨z1, rfl⟩ := z
    exact .inl ⟨z1, rdPure R q rfl⟩
  · subst z3
    exact .inr ⟨a, b, z1, z2, rdPure R q rfl⟩
theorem opv_isNot : OpR X (compareOp .IsNot) (rd2 isNotD) := OpR.of (OpR.or op_notN op_notBl) fun x y H Q h => by
  obtain ⟨m, S, d1, d2, d, S', R, r1, r2, e, q⟩ := h
  unfold isNotD at e
  split at e
  · rename_i b S2 hb
    cases e
    obtain ⟨rfl, z | ⟨a, b', z1, z2, z3⟩⟩ := isD_wit r1 r2 hb
    · obtain ⟨z1, z2⟩ := z
      cases z2
      exact .inl ⟨z1, rdPure R q rfl⟩
    · cases z3
      exact .inr ⟨a, b', z1, z2, rdPure R q rfl⟩
  · cases e
end
end Sw

/-! Eng3: keys, in, subscripts, slices, len, isinstance. -/
namespace Sw
open PySem PySem.Spec PyProof.Rows L2

/-! ### keys -/
def keyOf : D → Option Key
  | .int i => some (.inl i)
  | .str x => some (.inr x)
  | _ => none
def keysOf : List D → Option (List Key)
  | [] => some []
  | x :: xs => match keyOf x with
    | some k => match keysOf xs with
      | some ks => some (k :: ks)
      | none => none
    | none => none
def tkeyOf : D → Option (List Key)
  | .tup xs => keysOf xs
  | _ => none
theorem keyOf_ok {d : D} {q : Key} (h : keyOf d = some q) : d = kD q := by
  cases d <;> simp [keyOf] at h <;> subst h <;> rfl
theorem keyOf_kD (q : Key) : keyOf (kD q) = some q := by cases q <;> rfl
theorem keysOf_ok : ∀ {ds : List D} {qs : List Key}, keysOf ds = some qs → ds = qs.map kD
  | [], qs, h => by simp only [keysOf] at h; cases h; rfl
  | x :: xs, qs, h => by
    simp only [keysOf] at h
    cases e1 : keyOf x with
    | none => rw [e1] at h; cases h
    | some k =>
      rw [e1] at h
      dsimp only at h
      cases e2 : keysOf xs with
      | none => rw [e2] at h; cases h
      | some ks =>
        rw [e2] at h
        cases h
        rw [keyOf_ok e1, keysOf_ok e2]
        rfl
theorem keysOf_kD : ∀ qs : List Key, keysOf (qs.map kD) = some qs
  | [] => rfl
  | q :: qs => by simp only [List.map_cons, keysOf, keyOf_kD, keysOf_kD qs]
theorem tkeyOf_ok {d : D} {q : List Key} (h : tkeyOf d = some q) : d = kT q := by
  cases d <;> simp only [tkeyOf] at h <;> try cases h
  rw [keysOf_ok h]; rfl
theorem tkeyOf_kT (q : List Key) : tkeyOf (kT q) = some q := keysOf_kD q
/-- look-up by a key -/
def dLook {κ : Type} [DecidableEq κ] (ko : D → Option κ) : List (D × D) → κ → Option D
  | [], _ => none
  | (a, d) :: r, q => match ko a with
    | some q' => match decide (q' = q) with
      | true => some d
      | false => dLook ko r q
    | none => dLook ko r q
def dRep {κ : Type} [DecidableEq κ] (ko : D → Option κ) (q : κ) (v : D) : List (D × D) → List (D × D)
  | [] => []
  | (a, d) :: r => match ko a with
    | some q' => match decide (q' = q) with
      | true => (a, v) :: dRep ko q v r
      | false => (a, d) :: dRep ko q v r
    | none => (a, d) :: dRep ko q v r
def dPut {κ : Type} [DecidableEq κ] (ko : D → Option κ) (kvs : List (D × D)) (q : κ) (kd v : D) : List (D × D) := match dLook ko kvs q with
  | some _ => dRep ko q v kvs
  | none => kvs ++ [(kd, v)]
section
variable {m : Nat → Addr} {S : Sto} {H : Hp} {κ : Type} [DecidableEq κ] {ko : D → Option κ} {kd : κ → D}
theorem dLook_ok {k : Nat} (hk : ∀ q, ko (kd q) = some q) : ∀ {kvs : List (D × D)} {ps : List (κ × V)} {q : κ}, RKv m k H kd kvs ps → (∀ d, dLook ko kvs q = some d → ∃ v, valV ps q = some v ∧ RD m k H d v) ∧ (dLook ko kvs q = none → valV ps q = none)
  | [], ps, q, h => by rw [show ps = [] from h]; exact ⟨fun d e => (by simp [dLook] at e), fun _ => rfl⟩
  | (a, d) :: r, ps, q, h => by
    obtain ⟨q', v, ps', rfl, rfl, h3, h4⟩ := h
    simp only [dLook, hk]
    by_cases e : q' = q
    · subst e
      simp only [decide_true]
      exact ⟨fun d' e' => ⟨v, by simp [valV], by cases e'; exact h3⟩, fun e' => (nomatch e')⟩
    · simp only [decide_eq_false e]
      have ih := dLook_ok hk (q := q) h4
      have ev : valV ((q', v) :: ps') q = valV ps' q := by simp [valV, List.find?_cons, e]
      rw [ev]
      exact ih
theorem RKv.append {k : Nat} : ∀ {kvs ls : List (D × D)} {ps qs : List (κ × V)}, RKv m k H kd kvs ps → RKv m k H kd ls qs → RKv m k H kd (kvs ++ ls) (ps ++ qs)
  | [], ls, ps, qs, h, h' => by rw [show ps = [] from h]; exact h'
  | (a, d) :: r, ls, ps, qs, h, h' => by
    obtain ⟨q', v, ps', rfl, h2, h3, h4⟩ := h
    exact ⟨q', v, ps' ++ qs, rfl, h2, h3, RKv.append h4 h'⟩
theorem RKv.length {k : Nat} : ∀ {kvs : List (D × D)} {ps : List (κ × V)}, RKv m k H kd kvs ps → kvs.length = ps.length
  | [], ps, h => by rw [show ps = [] from h]; rfl
  | (a, d) :: r, ps, h => by
    obtain ⟨q', v, ps', rfl, h2, h3, h4⟩ := h
    simp [RKv.length h4]
theorem dRep_ok {k : Nat} (hk : ∀ q, ko (kd q) = some q) {q : κ} {d : D} {v : V} (hd : RD m k H d v) : ∀ {kvs : List (D × D)} {ps : List (κ × V)}, RKv m k H kd kvs ps → RKv m k H kd (dRep ko q d kvs) (ps.map fun kv => if kv.1 = q then (kv.1, v) else kv)
  | [], ps, h => by rw [show ps = [] from h]; rfl
  | (a, d') :: r, ps, h => by
    obtain ⟨q', v', ps', rfl, rfl, h3, h4⟩ := h
    simp only [dRep, hk]
    by_cases e : q' = q
    · subst e
      simp only [decide_true]
      exact ⟨q', v, _, by simp, rfl, hd, dRep_ok hk hd h4⟩
    · simp only [decide_eq_false e]
      exact ⟨q', v', _, by simp [e], rfl, h3, dRep_ok hk hd h4⟩
theorem dPut_ok {k : Nat} (hk : ∀ q, ko (kd q) = some q) {kvs : List (D × D)} {ps : List (κ × V)} {q : κ} {d : D} {v : V} (h : RKv m k H kd kvs ps) (hd : RD m k H d v) : RKv m k H kd (dPut ko kvs q (kd q) d) (putK ps q v) := by
  obtain ⟨h1, h2⟩ := dLook_ok hk (q := q) h
  unfold dPut putK
  rw [valV_any]
  cases e : dLook ko kvs q with
  | none =>
    rw [h2 e]
    exact RKv.append h ⟨q, v, [], rfl, rfl, hd, rfl⟩
  | some d0 =>
    obtain ⟨v0, e0, _⟩ := h1 d0 e
    rw [e0]
    exact dRep_ok hk hd h
end
theorem RD.kD {m : Nat → Addr} {k : Nat} {H : Hp} {q : Key} {v : V} (h : RD m k H (kD q) v) : v = kV q := by cases q <;> exact h
theorem RDs.kDs {m : Nat → Addr} {k : Nat} {H : Hp} : ∀ {qs : List Key} {vs : List V}, RDs m k H (qs.map Sw.kD) vs → vs = qs.map kV
  | [], vs, h => h
  | q :: qs, vs, h => by
    obtain ⟨v, r, rfl, h2, h3⟩ := h
    rw [RD.kD h2, RDs.kDs h3]
    rfl
theorem RD.kT {m : Nat → Addr} {k : Nat} {H : Hp} {q : List Key} {v : V} (h : RD m k H (kT q) v) : ∃ b, v = .ref b ∧ H b = some (.tup (q.map kV)) := by
  obtain ⟨a, vs, h1, h2, h3⟩ := h
  rw [RDs.kDs h3] at h2
  exact ⟨a, h1, h2⟩
section
variable {m : Nat → Addr} {H : Hp}
theorem dLook_N {k : Nat} : ∀ {kvs : List (D × D)} {xs : List NE} {q : NestedKey}, RKn m k H kvs xs → (∀ d, dLook nkeyOf kvs q = some d → ∃ v, valN xs q = some v ∧ RD m k H d v) ∧ (dLook nkeyOf kvs q = none → valN xs q = none)
  | [], xs, q, h => by rw [show xs = [] from h]; exact ⟨fun d e => (by simp [dLook] at e), fun _ => rfl⟩
  | (a, d) :: r, xs, q, h => by
    obtain ⟨q', b, v, xs', rfl, h2, h3, h4, h5⟩ := h
    simp only [dLook, h2]
    by_cases e : q' = q
    · subst e
      simp only [decide_true]
      exact ⟨fun d' e' => ⟨v, by simp [valN], by cases e'; exact h4⟩, fun e' => (nomatch e')⟩
    · simp only [decide_eq_false e]
      have ih := dLook_N (q := q) h5
      have ev : valN ((q', b, v) :: xs') q = valN xs' q := by simp [valN, List.find?_cons, e]
      rw [ev]
      exact ih
theorem RKn.append {k : Nat} : ∀ {kvs ls : List (D × D)} {xs ys : List NE}, RKn m k H kvs xs → RKn m k H ls ys → RKn m k H (kvs ++ ls) (xs ++ ys)
  | [], ls, xs, ys, h, h' => by rw [show xs = [] from h]; exact h'
  | (a, d) :: r, ls, xs, ys, h, h' => by
    obtain ⟨q, b, v, xs', rfl, h2, h3, h4, h5⟩ := h
    exact ⟨q, b, v, xs' ++ ys, rfl, h2, h3, h4, RKn.append h5 h'⟩
theorem dRep_N {k : Nat} {q : NestedKey} {d : D} {v : V} (hd : RD m k H d v) : ∀ {kvs : List (D × D)} {xs : List NE}, RKn m k H kvs xs → RKn m k H (dRep nkeyOf q d kvs) (xs.map fun x => if x.1 = q then (x.1, x.2.1, v) else x)
  | [], xs, h => by rw [show xs = [] from h]; rfl
  | (a, d') :: r, xs, h => by
    obtain ⟨q', b, v', xs', rfl, h2, h3, h4, h5⟩ := h
    simp only [dRep, h2]
    by_cases e : q' = q
    · subst e
      simp only [decide_true]
      exact ⟨q', b, v, _, by simp, h2, h3, hd, dRep_N hd h5⟩
    · simp only [decide_eq_false e]
      exact ⟨q', b, v', _, by simp [e], h2, h3, h4, dRep_N hd h5⟩
theorem dPut_N {k : Nat} {kvs : List (D × D)} {xs : List NE} {q : NestedKey} {b : Addr} {kd d : D} {v : V} (h : RKn m k H kvs xs) (hk : nkeyOf kd = some q) (hkd : RD m k H kd (.ref b)) (hd : RD m k H d v) : RKn m k H (dPut nkeyOf kvs q kd d) (putN xs q b v) := by
  obtain ⟨h1, h2⟩ := dLook_N (q := q) h
  unfold dPut putN
  cases e : dLook nkeyOf kvs q with
  | none =>
    rw [h2 e]
    exact RKn.append h ⟨q, b, v, [], rfl, hk, hkd, hd, rfl⟩
  | some d0 =>
    obtain ⟨v0, e0, _⟩ := h1 d0 e
    rw [e0]
    exact dRep_N hd h
end
/-- look-up in the dict of a number -/
def Sto.get? (S : Sto) (n : Nat) (x : D) : Option (Option D) := match S.objs[n]? with
  | some (.dct kvs) => match keyOf x with
    | some q => some (dLook keyOf kvs q)
    | none => none
  | some (.dctT kvs) => match tkeyOf x with
    | some q => some (dLook tkeyOf kvs q)
    | none => none
  | some (.dctN kvs) => match nkeyOf x with
    | some q => some (dLook nkeyOf kvs q)
    | none => none
  | _ => none
theorem Rel.get {m : Nat → Addr} {S : Sto} {H : Hp} (R : Rel m S H) {n : Nat} {x : D} {v : V} {o : Option D} (hx : RD m S.len H x v) (h : S.get? n x = some o) :
    (∃ w, DGetA H (m n) v w ∧ (∀ d, o = some d → ∃ z, w = some z ∧ RD m S.len H d z) ∧ (o = none → w = none)) := by
  unfold Sto.get? at h
  cases e : S.objs[n]? with
  | none => rw [e] at h; cases h
  | some ob =>
    rw [e] at h
    have q := R.obj n ob e
    cases ob with
    | lst _ => cases h
    | frz _ => cases h
    | set _ => cases h
    | dct kvs =>
      obtain ⟨ps, h1, h2⟩ := q
      dsimp only at h
      cases ek : keyOf x with
      | none => rw [ek] at h; cases h
      | some q =>
        rw [ek] at h
        cases h
        rw [keyOf_ok ek] at hx
        rw [RD.kD hx]
        exact ⟨_, .inl (DGet.k h1), fun d e => by obtain ⟨z, z1, z2⟩ := (dLook_ok keyOf_kD h2).1 d e; exact ⟨z, z1, z2⟩, fun e => (dLook_ok keyOf_kD h2).2 e⟩
    | dctT kvs =>
      obtain ⟨ps, h1, h2⟩ := q
      dsimp only at h
      cases ek : tkeyOf x with
      | none => rw [ek] at h; cases h
      | some q =>
        rw [ek] at h
        cases h
        rw [tkeyOf_ok ek] at hx
        obtain ⟨b, rfl, hb⟩ := RD.kT hx
        exact ⟨_, .inl (DGet.t h1 hb), fun d e => by obtain ⟨z, z1, z2⟩ := (dLook_ok tkeyOf_kT h2).1 d e; exact ⟨z, z1, z2⟩, fun e => (dLook_ok tkeyOf_kT h2).2 e⟩
    | dctN kvs =>
      obtain ⟨xs, h1, h2⟩ := q
      dsimp only at h
      cases ek : nkeyOf x with
      | none => rw [ek] at h; cases h
      | some q =>
        rw [ek] at h
        cases h
        obtain ⟨e1, e2, ds, rfl⟩ := nkeyOf_ok ek
        obtain ⟨b, vs, rfl, hb, _⟩ := id hx
        exact ⟨_, .inr ⟨xs, q, b, h1, rfl, nk_rd _ _ _ e1 hx, e2, rfl⟩, fun d e => (dLook_N h2).1 d e, fun e => (dLook_N h2).2 e⟩

/-! ### in -/
def inAny (S : Sto) (x : D) (ys : List D) : Option Bool := match res S x with
  | some p => match resWs (resR S 6) ys with
    | some qs => match Nat.ble p.depth 60 with
      | true => some (qs.any fun y => PyData.eqv y p)
      | false => none
    | none => none
  | none => none
def in? (S : Sto) (x y : D) : Option Bool := match y with
  | .tup ys => inAny S x ys
  | .ref n => match S.list? n with
    | some ys => inAny S x ys
    | none => match S.get? n x with
      | some o => some o.isSome
      | none => none
  | _ => none
def inD (x y : D) (S : Sto) : Res D := match in? S x y with
  | some b => .ok (.bl b) S
  | none => .bad
def notInD (x y : D) (S : Sto) : Res D := match in? S x y with
  | some b => .ok (.bl (!b)) S
  | none => .bad
section
variable {X : Cx}
theorem inAny_ok {S : Sto} {x : D} {ys : List D} {b : Bool} (h : inAny S x ys = some b) : ∃ p qs, res S x = some p ∧ resWs (resR S 6) ys = some qs ∧ p.depth ≤ 60 ∧ b = qs.any fun y => PyData.eqv y p := by
  unfold inAny at h
  split at h
  · rename_i p hp
    split at h
    · rename_i qs hq
      split at h
      · rename_i hd
        cases h
        exact ⟨p, qs, hp, hq, Nat.le_of_ble_eq_true hd, rfl⟩
      · cases h
    · cases h
  · cases h
theorem in_wit {pins : List (Addr × Obj)} {s : Shared} {σ : L2.St} {m : Nat → Addr} {S : Sto} {H : Hp} (hu : X.A.units + 64 < cLine) (I : Inv X pins σ H s) (R : Rel m S H) {x y : D} {xv yv : V} {u w : Value} {b : Bool} (hx : RD m S.len H x xv) (hy : RD m S.len H y yv) (rx : RelV xv u) (ry : RelV yv w) (e : in? S x y = some b) {E : Value → Shared → Prop} :
    (∀ Q : Value → Shared → Prop, (∀ s', Inv X pins σ H s' → Q (.bool b) s') → wpAny (model X.prog X.w) X.A (compareOp .In u w) Q E s) ∧ (∀ Q : Value → Shared → Prop, (∀ s', Inv X pins σ H s' → Q (.bool (!b)) s') → wpAny (model X.prog X.w) X.A (compareOp .NotIn u w) Q E s) := by
  unfold in? at e
  split at e
  · rename_i ys
    obtain ⟨p, qs, h1, h2, h3, rfl⟩ := inAny_ok e
    obtain ⟨d1, p1⟩ := res_dp (K := X.K) R hx h1
    obtain ⟨a, vs, rfl, ha, q⟩ := hy
    obtain ⟨d2, p2⟩ := resWs_dp (K := X.K) (fun n p => resR_dp R 6 n p) ys vs qs q h2
    obtain ⟨as, r1⟩ := Dp.reads I p xv u d1 rx
    obtain ⟨bs, r2⟩ := Dp.reads I (.tuple qs) (.ref a) w (.tup (.of ha) d2) ry
    have hm := Nat.min_le_right (PyData.depthAll qs) p.depth
    exact ⟨fun Q hQ => SeqAt.in_tuple_data r2 r1 p2 p1 (by omega) (hQ s I), fun Q hQ => SeqAt.notIn_tuple_data r2 r1 p2 p1 (by omega) (hQ s I)⟩
  · rename_i n
    split at e
    · rename_i ys hl
      obtain ⟨p, qs, h1, h2, h3, rfl⟩ := inAny_ok e
      obtain ⟨d1, p1⟩ := res_dp (K := X.K) R hx h1
      obtain ⟨vs, hs, q, _⟩ := R.sqL (K := X.K) hl
      obtain ⟨d2, p2⟩ := resWs_dp (K := X.K) (fun n p => resR_dp R 6 n p) ys vs qs q h2
      obtain ⟨as, r1⟩ := Dp.reads I p xv u d1 rx
      obtain ⟨bs, r2⟩ := Dp.reads I (.list qs) yv w (by rw [hy.2]; exact .lst hs d2) ry
      have hm := Nat.min_le_right (PyData.depthAll qs) p.depth
      exact ⟨fun Q hQ => SeqAt.in_list_data r2 r1 p2 p1 (by omega) (hQ s I), fun Q hQ => SeqAt.notIn_list_data r2 r1 p2 p1 (by omega) (hQ s I)⟩
    · split at e
      · rename_i o ho
        cases e
        obtain ⟨w', g, h1, h2⟩ := R.get hx ho
        have eo : w'.isSome = o.isSome := by
          cases o with
          | none => rw [h2 rfl]; rfl
          | some d => obtain ⟨z, hz, _⟩ := h1 d rfl; rw [hz]; rfl
        rw [hy.2] at ry
        obtain rfl : w = .ref (m n) := ry
        rw [← eo]
        exact ⟨fun Q hQ => dA_in (by omega) I g rx hQ, fun Q hQ => dA_notIn (by omega) I g rx hQ⟩
      · cases e
  · cases e
theorem opv_in (hu : X.A.units + 64 < cLine) : OpR X (compareOp .In) (rd2 inD) := by
  intro pins s σ H x y v u Q I rx ry h
  obtain ⟨m, S, d1, d2, d, S', R, r1, r2, e, q⟩ := h
  unfold inD at e
  split at e
  · rename_i b hb
    cases e
    exact (in_wit hu I R r1 r2 rx ry hb).1 _ fun s' I' => ⟨.bl b, H, I', rfl, rdPure R q rfl⟩
  · cases e
theorem opv_notIn (hu : X.A.units + 64 < cLine) : OpR X (compareOp .NotIn) (rd2 notInD) := by
  intro pins s σ H x y v u Q I rx ry h
  obtain ⟨m, S, d1, d2, d, S', R, r1, r2, e, q⟩ := h
  unfold notInD at e
  split at e
  · rename_i b hb
    cases e
    exact (in_wit hu I R r1 r2 rx ry hb).2 _ fun s' I' => ⟨.bl (!b), H, I', rfl, rdPure R q rfl⟩
  · cases e

/-! ### subscripts -/
def ixD (x y : D) (S : Sto) : Res D := match x with
  | .tup xs => match y with
    | .int i => match atI xs i with
      | some d => .ok d S
      | none => .bad
    | _ => .bad
  | .str z => match y with
    | .int i => match fits z.length with
      | true => match atI z.cps.toList i with
        | some c => .ok (.str ⟨#[c]⟩) S
        | none => .bad
      | false => .bad
    | _ => .bad
  | .ref n => match S.list? n with
    | some xs => match y with
      | .int i => match atI xs i with
        | some d => .ok d S
        | none => .bad
      | _ => .bad
    | none => match S.get? n y with
      | some (some d) => .ok d S
      | _ => .bad
  | _ => .bad
theorem atI_rd {m : Nat → Addr} {k : Nat} {H : Hp} {ds : List D} {vs : List V} {i : Int} {d : D} (h : RDs m k H ds vs) (e : atI ds i = some d) : ∃ v, atI vs i = some v ∧ RD m k H d v := by
  unfold atI at e ⊢
  rw [← h.length]
  cases q : ixN ds.length i with
  | none => rw [q] at e; cases e
  | some j =>
    rw [q] at e
    exact h.get e
def rDG (H0 : Unit) : R2 := fun x y H Q => ∃ a v, x = .ref a ∧ DGetA H a y (some v) ∧ Q v H
theorem ix_dict (hu : X.A.units + 64 < cLine) : IxR X (rDG ()) := by
  intro value slice pins s σ H x y v u Q I rx ry h hs
  obtain ⟨a, z, rfl, g, q⟩ := h
  obtain rfl : v = .ref a := rx
  exact PyProof.Rows.tail_any (dA_typeIs I g) PySem.F.slot_dict_getitem.lookup (dA_getItem (by omega) I g ry fun w' s3 I3 rw' => ⟨z, H, I3, rw', q⟩) hs
theorem ixv (hu : X.A.units + 64 < cLine) : IxR X (rd2 ixD) := by
  intro value slice pins s σ H x y v u Q I rx ry h hs
  refine (IxR.or ix_seq (ix_dict hu)) value slice pins s σ H x y v u Q I rx ry ?_ hs
  obtain ⟨m, S, d1, d2, d, S', R, r1, r2, e, q⟩ := h
  unfold ixD at e
  split at e
  · rename_i xs
    split at e
    · rename_i i
      split at e
      · rename_i d0 hd
        cases e
        obtain ⟨a, vs, rfl, ha, qs⟩ := r1
        obtain ⟨w, hw, rw'⟩ := atI_rd qs hd
        exact .inl (.inr (.inl ⟨a, vs, i, w, rfl, r2, .of ha, hw, rdPure R q rw'⟩))
      · cases e
    · cases e
  · rename_i z
    split at e
    · rename_i i
      split at e
      · rename_i hf
        split at e
        · rename_i c hc
          cases e
          exact .inl (.inr (.inr ⟨z, i, c, r1, r2, fits_le hf, hc, rdPure R q rfl⟩))
        · cases e
      · cases e
    · cases e
  · rename_i n
    split at e
    · rename_i xs hl
      split at e
      · rename_i i
        split at e
        · rename_i d0 hd
          cases e
          obtain ⟨vs, hsq, qs, _⟩ := R.sqL (K := X.K) hl
          obtain ⟨w, hw, rw'⟩ := atI_rd qs hd
          exact .inl (.inl ⟨_, vs, i, w, r1.2, r2, hsq, hw, rdPure R q rw'⟩)
        · cases e
      · cases e
    · split at e
      · rename_i d0 hd
        cases e
        obtain ⟨w, g, h1, _⟩ := R.get r2 hd
        obtain ⟨z, rfl, hz⟩ := h1 _ rfl
        exact .inr ⟨_, z, r1.2, g, rdPure R q hz⟩
      · cases e
  · cases e
theorem pev_ix {a b : Expr} {fa fb : Ev} {pos : Pos} (hu : X.A.units + 64 < cLine) (ha : PE X a (rdE fa)) (hb : PE X b (rdE fb)) (hs : PlainIx b) : PE X (.Subscript a b pos) (rdE (ev2 ixD fa fb)) :=
  PE.of (pe_ix (ixv hu) ha hb hs) fun _ _ _ h => rd2_seq h
end
end Sw

/-! Eng4: displays, tests, slices, built-ins, methods. -/
namespace Sw
open PySem PySem.Spec PyProof.Rows L2

/-! ### arguments -/
def evNil : EvA := fun _ S => .ok [] S
def evCons (f : Ev) (g : EvA) : EvA := fun ρ S => match f ρ S with
  | .ok x S1 => match g ρ S1 with
    | .ok xs S2 => .ok (x :: xs) S2
    | .bad => .bad
  | .bad => .bad
def evStar (f : Ev) (g : EvA) : EvA := fun ρ S => match f ρ S with
  | .ok x S1 => match g ρ S1 with
    | .ok xs S2 => match x with
      | .tup ys => .ok (ys ++ xs) S2
      | .ref n => match S1.list? n with
        | some ys => .ok (ys ++ xs) S2
        | none => .bad
      | _ => .bad
    | .bad => .bad
  | .bad => .bad
def evN (g : List D → Sto → Res D) (fa : EvA) : Ev := fun ρ S => match fa ρ S with
  | .ok xs S1 => g xs S1
  | .bad => .bad
section
variable {X : Cx} {e a b c : Expr} {es : List Expr} {f fa fb fc : Ev} {g : EvA} {pos : Pos}
theorem pav_nil : PA X [] (rdA evNil) := PA.of pa_nil fun σ H Q h => by
  obtain ⟨m, S, ρ, d, S', R, E, e, q⟩ := h
  cases e
  exact q m H [] (Ext.refl R) rfl
theorem pav_cons (he : PE X e (rdE f)) (hes : PA X es (rdA g)) (hs : starEach (e :: es) X.env = (false, eval e X.env) :: starEach es X.env) : PA X (e :: es) (rdA (evCons f g)) := PA.of (pa_cons he hes hs) fun σ H Q h => by
  obtain ⟨m, S, ρ, d, S', R, E, e, q⟩ := h
  unfold evCons at e
  split at e
  · rename_i x S1 h1
    split at e
    · rename_i xs S2 h2
      cases e
      exact ⟨m, S, ρ, x, S1, R, E, h1, fun m1 H1 v1 X1 r1 => ⟨m1, S1, ρ, xs, S', X1.rel, E.ext X1, h2, fun m2 H2 v2 X2 r2 => q m2 H2 _ (X1.trans X2) ⟨v1, v2, rfl, r1.ext X2, r2⟩⟩⟩
    · cases e
  · cases e
theorem pav_star {p : Pos} (he : PE X e (rdE f)) (hes : PA X es (rdA g)) : PA X (.Starred e p :: es) (rdA (evStar f g)) := PA.of (StX.pa_star he hes) fun σ H Q h => by
  obtain ⟨m, S, ρ, d, S', R, E, e, q⟩ := h
  unfold evStar at e
  split at e
  · rename_i x S1 h1
    split at e
    · rename_i xs S2 h2
      refine ⟨m, S, ρ, x, S1, R, E, h1, fun m1 H1 v1 X1 r1 => ?_⟩
      split at e
      · rename_i ys
        cases e
        obtain ⟨a, vs, rfl, ha, qs⟩ := r1
        exact ⟨a, vs, rfl, .inl (.of ha), m1, S1, ρ, xs, S', X1.rel, E.ext X1, h2, fun m2 H2 v2 X2 r2 => q m2 H2 _ (X1.trans X2) ((qs.ext X2).append r2)⟩
      · rename_i n
        split at e
        · rename_i ys hl
          cases e
          obtain ⟨vs, hsq, qs, _⟩ := X1.rel.sqL (K := X.K) hl
          exact ⟨_, vs, r1.2, .inr hsq, m1, S1, ρ, xs, S', X1.rel, E.ext X1, h2, fun m2 H2 v2 X2 r2 => q m2 H2 _ (X1.trans X2) ((qs.ext X2).append r2)⟩
        · cases e
      · cases e
    · cases e
  · cases e
theorem rdN_seq {gg : List D → Sto → Res D} {σ : L2.St} {H : Hp} {Q : VK} (h : rdE (evN gg g) σ H Q) : rdA g σ H fun xs H1 => rdN gg xs H1 Q := by
  obtain ⟨m, S, ρ, d, S', R, E, e, q⟩ := h
  unfold evN at e
  split at e
  · rename_i xs S1 h1
    exact ⟨m, S, ρ, xs, S1, R, E, h1, fun m1 H1 v1 X1 r1 => ⟨m1, S1, xs, d, S', X1.rel, r1, e, fun m3 H3 v3 X3 r3 => q m3 H3 v3 (X1.trans X3) r3⟩⟩
  · cases e

/-! ### displays -/
def tupN (xs : List D) (S : Sto) : Res D := match fits xs.length with
  | true => .ok (.tup xs) S
  | false => .bad
def lstN (xs : List D) (S : Sto) : Res D := match fits xs.length with
  | true => newL S xs
  | false => .bad
theorem pev_tup {k : Nat} (h : PA X es (rdA g)) : PE X (.Tuple es k pos) (rdE (evN tupN g)) := PE.of (pe_tup h) fun σ H Q h => by
  obtain ⟨m, S, ρ, d, S', R, E, e, q⟩ := rdN_seq h
  refine ⟨m, S, ρ, d, S', R, E, e, fun m1 H1 v1 X1 r1 => ?_⟩
  obtain ⟨m2, S2, ds, d2, S3, R2, r2, e2, q2⟩ := q m1 H1 v1 X1 r1
  unfold tupN at e2
  split at e2
  · rename_i hf
    cases e2
    exact ⟨by rw [← r2.length]; exact fits_le hf, goTup R2 r2 q2⟩
  · cases e2
theorem pev_lst (h : PA X es (rdA g)) : PE X (.List es pos) (rdE (evN lstN g)) := PE.of (pe_lst h) fun σ H Q h => by
  obtain ⟨m, S, ρ, d, S', R, E, e, q⟩ := rdN_seq h
  refine ⟨m, S, ρ, d, S', R, E, e, fun m1 H1 v1 X1 r1 => ?_⟩
  obtain ⟨m2, S2, ds, d2, S3, R2, r2, e2, q2⟩ := q m1 H1 v1 X1 r1
  unfold lstN at e2
  split at e2
  · rename_i hf
    cases e2
    exact ⟨by rw [← r2.length]; exact fits_le hf, goLst R2 r2 q2⟩
  · cases e2
def dNewK : Ev := fun _ S => .ok (.ref S.len) (S.add (.dct []))
def dNewT : Ev := fun _ S => .ok (.ref S.len) (S.add (.dctT []))
def dNewN : Ev := fun _ S => .ok (.ref S.len) (S.add (.dctN []))
theorem goNew {m : Nat → Addr} {S : Sto} {H : Hp} {o : O} {ho : HO} {Q : VK} (r : Rel m S H) (ok : ∀ p, H p = none → OOk m S.len (upd H p ho) p o) (q : ∀ m' H' v, Ext m m' S (S.add o) H H' → RD m' (S.add o).len H' (.ref S.len) v → Q v H') : ∀ p, H p = none → Q (.ref p) (upd H p ho) :=
  fun p hp => q (withAt m S.len p) _ _ (Ext.add r hp (ok p hp)) ⟨by rw [Sto.add_len]; exact Nat.lt_succ_self _, by rw [withAt_same]⟩
theorem pev_dnewK : PE X (.Dict [] [] pos) (rdE dNewK) := PE.of pe_dnewK fun σ H Q h => by
  obtain ⟨m, S, ρ, d, S', R, E, e, q⟩ := h
  cases e
  exact goNew (o := .dct []) R (fun p hp => ⟨[], upd_same, rfl⟩) q
theorem pev_dnewT : PE X (.Dict [] [] pos) (rdE dNewT) := PE.of pe_dnewT fun σ H Q h => by
  obtain ⟨m, S, ρ, d, S', R, E, e, q⟩ := h
  cases e
  exact goNew (o := .dctT []) R (fun p hp => ⟨[], upd_same, rfl⟩) q
theorem pev_dnewN : PE X (.Dict [] [] pos) (rdE dNewN) := PE.of pe_dnewN fun σ H Q h => by
  obtain ⟨m, S, ρ, d, S', R, E, e, q⟩ := h
  cases e
  exact fun p hp hs => q (withAt m S.len p) _ _ (Ext.add R hp ⟨[], nat_empty hs, rfl⟩) ⟨by rw [Sto.add_len]; exact Nat.lt_succ_self _, by rw [withAt_same]⟩

/-! ### and, or, not, if -/
/-- a test, then what follows -/
def evB (f : Ev) (k : Bool → Ev) : Ev := fun ρ S => match f ρ S with
  | .ok (.bl b) S1 => k b ρ S1
  | _ => .bad
def kAnd (fb : Ev) : Bool → Ev
  | true => fb
  | false => evC (.bl false)
def kOr (fb : Ev) : Bool → Ev
  | true => evC (.bl true)
  | false => fb
def kIf (fa fb : Ev) : Bool → Ev
  | true => fa
  | false => fb
def evAnd (fa fb : Ev) : Ev := evB fa (kAnd fb)
def evOr (fa fb : Ev) : Ev := evB fa (kOr fb)
def evIf (fc fa fb : Ev) : Ev := evB fc (kIf fa fb)
def notD : D → Sto → Res D
  | .bl b, S => .ok (.bl (!b)) S
  | _, _ => .bad
theorem bool_seq {f : Ev} {ρ : En} {S S' : Sto} {d : D} {k : Bool → Ev} (h : evB f k ρ S = Res.ok d S') : ∃ b S1, f ρ S = .ok (.bl b) S1 ∧ k b ρ S1 = .ok d S' := by
  unfold evB at h
  split at h
  · rename_i b S1 h1; exact ⟨b, S1, h1, h⟩
  · cases h
theorem rdE_bool {f : Ev} {k : Bool → Ev} {σ : L2.St} {H : Hp} {Q : VK} (h : rdE (evB f k) σ H Q) : rdT f σ H fun b H1 => rdE (k b) σ H1 Q := by
  obtain ⟨m, S, ρ, d, S', R, E, e, q⟩ := h
  obtain ⟨b, S1, h1, h2⟩ := bool_seq e
  exact ⟨m, S, ρ, b, S1, R, E, h1, fun m1 H1 X1 => ⟨m1, S1, ρ, d, S', X1.rel, E.ext X1, h2, fun m2 H2 v2 X2 r2 => q m2 H2 v2 (X1.trans X2) r2⟩⟩
theorem rdT_bool {f : Ev} {k : Bool → Ev} {σ : L2.St} {H : Hp} {Q : Bool → Hp → Prop} (h : rdT (evB f k) σ H Q) : rdT f σ H fun b H1 => rdT (k b) σ H1 Q := by
  obtain ⟨m, S, ρ, d, S', R, E, e, q⟩ := h
  obtain ⟨b, S1, h1, h2⟩ := bool_seq e
  exact ⟨m, S, ρ, b, S1, R, E, h1, fun m1 H1 X1 => ⟨m1, S1, ρ, d, S', X1.rel, E.ext X1, h2, fun m2 H2 X2 => q m2 H2 (X1.trans X2)⟩⟩
theorem rdT_C {b : Bool} {σ : L2.St} {H : Hp} {Q : Bool → Hp → Prop} (h : rdT (evC (.bl b)) σ H Q) : Q b H := by
  obtain ⟨m, S, ρ, d, S', R, E, e, q⟩ := h
  cases e
  exact q m H (Ext.refl R)
variable {rest : List Expr}
theorem pev_one {op : BoolOp} (h : PE X a (rdE fa)) : PE X (.BoolOp op [a] pos) (rdE fa) := pe_one h
theorem pev_and (ha : PE X a (rdE fa)) (hb : PE X (.BoolOp .And (b :: rest) pos) (rdE fb)) : PE X (.BoolOp .And (a :: b :: rest) pos) (rdE (evAnd fa fb)) := PE.of (pe_and ha hb) fun σ H Q h => by
  obtain ⟨m, S, ρ, d, S', R, E, e, q⟩ := rdE_bool h
  refine ⟨m, S, ρ, _, S', R, E, e, fun m1 H1 v1 X1 r1 => ⟨d, r1, ?_⟩⟩
  have := q m1 H1 X1
  cases d with
  | true => exact this
  | false => exact rdC this fun _ _ _ => rfl
theorem pev_or (ha : PE X a (rdE fa)) (hb : PE X (.BoolOp .Or (b :: rest) pos) (rdE fb)) : PE X (.BoolOp .Or (a :: b :: rest) pos) (rdE (evOr fa fb)) := PE.of (pe_or ha hb) fun σ H Q h => by
  obtain ⟨m, S, ρ, d, S', R, E, e, q⟩ := rdE_bool h
  refine ⟨m, S, ρ, _, S', R, E, e, fun m1 H1 v1 X1 r1 => ⟨d, r1, ?_⟩⟩
  have := q m1 H1 X1
  cases d with
  | true => exact rdC this fun _ _ _ => rfl
  | false => exact this
theorem pwv_and1 (h : PT X a (rdT fa)) : PW X (.BoolOp .And [a] pos) (rdT fa) := pw_and1 h
theorem pwv_or1 (h : PT X a (rdT fa)) : PW X (.BoolOp .Or [a] pos) (rdT fa) := pw_or1 h
theorem pwv_and (ha : PT X a (rdT fa)) (hb : PW X (.BoolOp .And (b :: rest) pos) (rdT fb)) : PW X (.BoolOp .And (a :: b :: rest) pos) (rdT (evAnd fa fb)) := PW.of (pw_and ha hb) fun σ H Q h => by
  obtain ⟨m, S, ρ, d, S', R, E, e, q⟩ := rdT_bool h
  refine ⟨m, S, ρ, d, S', R, E, e, fun m1 H1 X1 => ?_⟩
  have := q m1 H1 X1
  cases d with
  | true => exact this
  | false => exact rdT_C this
theorem pwv_or (ha : PT X a (rdT fa)) (hb : PW X (.BoolOp .Or (b :: rest) pos) (rdT fb)) : PW X (.BoolOp .Or (a :: b :: rest) pos) (rdT (evOr fa fb)) := PW.of (pw_or ha hb) fun σ H Q h => by
  obtain ⟨m, S, ρ, d, S', R, E, e, q⟩ := rdT_bool h
  refine ⟨m, S, ρ, d, S', R, E, e, fun m1 H1 X1 => ?_⟩
  have := q m1 H1 X1
  cases d with
  | true => exact rdT_C this
  | false => exact this
theorem pev_not (ha : PE X a (rdE fa)) : PE X (.UnaryOp .Not a pos) (rdE (ev1 notD fa)) := PE.of (pe_not ha) fun σ H Q h => by
  obtain ⟨m, S, ρ, d, S', R, E, e, q⟩ := rd1_seq h
  refine ⟨m, S, ρ, d, S', R, E, e, fun m1 H1 v1 X1 r1 => ?_⟩
  obtain ⟨m2, S2, d1, d2, S3, R2, r2, e2, q2⟩ := q m1 H1 v1 X1 r1
  unfold notD at e2
  split at e2
  · rename_i bb
    cases e2
    exact ⟨bb, r2, rdPure R2 q2 rfl⟩
  · cases e2
theorem ptv_not (ha : PT X a (rdT fa)) : PT X (.UnaryOp .Not a pos) (rdT (ev1 notD fa)) := PT.of (pt_not ha) fun σ H Q h => by
  obtain ⟨m, S, ρ, b, S', R, E, e, q⟩ := h
  obtain ⟨x, S1, h1, h2⟩ := ev1_ok e
  unfold notD at h2
  split at h2
  · rename_i bb
    cases h2
    exact ⟨m, S, ρ, bb, _, R, E, h1, fun m1 H1 X1 => q m1 H1 X1⟩
  · cases h2
theorem pev_if (hc : PT X c (rdT fc)) (ha : PE X a (rdE fa)) (hb : PE X b (rdE fb)) : PE X (.IfExp c a b pos) (rdE (evIf fc fa fb)) := PE.of (pe_ifExp hc ha hb) fun σ H Q h => by
  obtain ⟨m, S, ρ, d, S', R, E, e, q⟩ := rdE_bool h
  refine ⟨m, S, ρ, d, S', R, E, e, fun m1 H1 X1 => ?_⟩
  have := q m1 H1 X1
  cases d with
  | true => exact this
  | false => exact this

/-! ### chains -/
def evChain (g h : D → D → Sto → Res D) (fa fb fc : Ev) : Ev := fun ρ S => match fa ρ S with
  | .ok x S1 => match fb ρ S1 with
    | .ok y S2 => match g x y S2 with
      | .ok (.bl true) S3 => match fc ρ S3 with
        | .ok z S4 => h y z S4
        | .bad => .bad
      | .ok (.bl false) S3 => .ok (.bl false) S3
      | _ => .bad
    | .bad => .bad
  | .bad => .bad
theorem rd_chain {gg hh : D → D → Sto → Res D} {σ : L2.St} {H : Hp} {Q : VK} (h : rdE (evChain gg hh fa fb fc) σ H Q) : tChain (rd2 gg) (rd2 hh) (rdE fa) (rdE fb) (rdE fc) σ H Q := by
  obtain ⟨m, S, ρ, d, S', R, E, e, q⟩ := h
  unfold evChain at e
  split at e
  · rename_i x S1 h1
    split at e
    · rename_i y S2 h2
      refine ⟨m, S, ρ, x, S1, R, E, h1, fun m1 H1 v1 X1 r1 => ⟨m1, S1, ρ, y, S2, X1.rel, E.ext X1, h2, fun m2 H2 v2 X2 r2 => ?_⟩⟩
      split at e
      · rename_i S3 h3
        refine ⟨m2, S2, x, y, _, S3, X2.rel, r1.ext X2, r2, h3, fun m3 H3 v3 X3 r3 => ⟨true, r3, ?_⟩⟩
        rw [if_pos rfl]
        split at e
        · rename_i z S4 h4
          exact ⟨m3, S3, ρ, z, S4, X3.rel, (E.ext (X1.trans (X2.trans X3))), h4, fun m4 H4 v4 X4 r4 => ⟨m4, S4, y, z, d, S', X4.rel, r2.ext (X3.trans X4), r4, e, fun m5 H5 v5 X5 r5 => q m5 H5 v5 (X1.trans (X2.trans (X3.trans (X4.trans X5)))) r5⟩⟩
        · cases e
      · rename_i S3 h3
        cases e
        refine ⟨m2, S2, x, y, _, S', X2.rel, r1.ext X2, r2, h3, fun m3 H3 v3 X3 r3 => ⟨false, r3, ?_⟩⟩
        rw [if_neg Bool.false_ne_true]
        exact q m3 H3 _ (X1.trans (X2.trans X3)) rfl
      · cases e
    · cases e
  · cases e
theorem pev_chain {op op' : CmpOp} {gg hh : D → D → Sto → Res D} (ho : OpR X (compareOp op) (rd2 gg)) (ho' : OpR X (compareOp op') (rd2 hh)) (ha : PE X a (rdE fa)) (hb : PE X b (rdE fb)) (hc : PE X c (rdE fc)) (hm : lastMarks [op, op'] [b, c] = false) :
    PE X (.Compare a [op, op'] [b, c] pos) (rdE (evChain gg hh fa fb fc)) := PE.of (pe_chain ho ho' ha hb hc hm) fun _ _ _ h => rd_chain h
theorem ptv_chain {op op' : CmpOp} {gg hh : D → D → Sto → Res D} (ho : OpR X (compareOp op) (rd2 gg)) (ho' : OpR X (compareOp op') (rd2 hh)) (ha : PE X a (rdE fa)) (hb : PE X b (rdE fb)) (hc : PE X c (rdE fc)) (hm : lastMarks [op, op'] [b, c] = false) :
    PT X (.Compare a [op, op'] [b, c] pos) (rdT (evChain gg hh fa fb fc)) := PT.of (pt_chain ho ho' ha hb hc hm) fun _ _ _ h => rd_chain (rdT_of h)

/-! ### -x -/
def negD : D → Sto → Res D
  | .int i, S => .ok (.int (-i)) S
  | _, _ => .bad
theorem pev_neg (ha : PE X a (rdE fa)) : PE X (.UnaryOp .USub a pos) (rdE (ev1 negD fa)) := PE.of (pe_un un_neg ha) fun σ H Q h => by
  obtain ⟨m, S, ρ, d, S', R, E, e, q⟩ := rd1_seq h
  refine ⟨m, S, ρ, d, S', R, E, e, fun m1 H1 v1 X1 r1 => ?_⟩
  obtain ⟨m2, S2, d1, d2, S3, R2, r2, e2, q2⟩ := q m1 H1 v1 X1 r1
  unfold negD at e2
  split at e2
  · cases e2; exact ⟨_, r2, rdPure R2 q2 rfl⟩
  · cases e2

/-! ### slices -/
def cutL {α : Type} (xs : List α) (lo hi : Option Int) : List α := (xs.drop (HT.sIx xs.length 0 lo)).take (HT.sIx xs.length xs.length hi - HT.sIx xs.length 0 lo)
def slD (x : D) (lo hi : Option Int) (S : Sto) : Res D := match x with
  | .tup xs => .ok (.tup (cutL xs lo hi)) S
  | .str z => match fits z.length with
    | true => .ok (.str (cutS z lo hi)) S
    | false => .bad
  | .ref n => match S.list? n with
    | some xs => newL S (cutL xs lo hi)
    | none => .bad
  | _ => .bad
/-- a part of a slice -/
def evPart : Option Ev → En → Sto → Res (Option Int)
  | none, _, S => .ok none S
  | some f, ρ, S => match f ρ S with
    | .ok (.int i) S1 => .ok (some i) S1
    | _ => .bad
def evSl (f : Ev) (lo hi : Option Ev) : Ev := fun ρ S => match f ρ S with
  | .ok x S1 => match evPart lo ρ S1 with
    | .ok l S2 => match evPart hi ρ S2 with
      | .ok h S3 => slD x l h S3
      | .bad => .bad
    | .bad => .bad
  | .bad => .bad
theorem RDs.cut {m : Nat → Addr} {k : Nat} {H : Hp} {ds : List D} {vs : List V} (h : RDs m k H ds vs) (lo hi : Option Int) : RDs m k H (cutL ds lo hi) (cutV vs lo hi) := by
  unfold cutL cutV
  rw [h.length]
  exact (h.drop _).take _
theorem cut_whole {α : Type} {xs : List α} {lo hi : Option Int} (h : HT.sIx xs.length 0 lo = 0 ∧ HT.sIx xs.length xs.length hi = xs.length) : cutL xs lo hi = xs := by
  unfold cutL
  rw [h.1, h.2]
  simp
def rdSl : V → Option Int → Option Int → Hp → VK → Prop := fun x lo hi H Q => ∃ m S d1 d S', Rel m S H ∧ RD m S.len H d1 x ∧ slD d1 lo hi S = .ok d S' ∧ ∀ m' H' v, Ext m m' S S' H H' → RD m' S'.len H' d v → Q v H'
theorem slv : SlR X rdSl := by
  intro pins s σ H x v vl vu lo hi sl Q I rx hs pl pu h
  refine (SlR.or sl_list (SlR.or sl_tupA sl_str)) pins s σ H x v vl vu lo hi sl Q I rx hs pl pu ?_
  obtain ⟨m, S, d1, d, S', R, r1, e, q⟩ := h
  unfold slD at e
  split at e
  · rename_i xs
    cases e
    obtain ⟨a, vs, rfl, ha, qs⟩ := r1
    refine .inr (.inl ⟨a, vs, rfl, .of ha, fun hw => ?_, fun hw => goTup R (qs.cut lo hi) q⟩)
    rw [← qs.length] at hw
    rw [cut_whole hw] at q
    exact rdPure R q ⟨a, vs, rfl, ha, qs⟩
  · rename_i z
    split at e
    · rename_i hf
      cases e
      exact .inr (.inr ⟨z, r1, fits_le hf, rdPure R q rfl⟩)
    · cases e
  · rename_i n
    split at e
    · rename_i xs hl
      cases e
      obtain ⟨vs, hsq, qs, _⟩ := R.sqL (K := X.K) hl
      exact .inl ⟨_, vs, r1.2, hsq, goLst R (qs.cut lo hi) q⟩
    · cases e
  · cases e
def rdO (f : Option Ev) : TO := fun σ H Q => ∃ m S ρ d S', Rel m S H ∧ REnv m S.len H ρ σ ∧ evPart f ρ S = .ok d S' ∧ ∀ m' H', Ext m m' S S' H H' → Q d H'
theorem PO.of {lo : Option Expr} {t t' : TO} (h : PO X lo t) (i : ∀ σ H Q, t' σ H Q → t σ H Q) : PO X lo t' := ⟨fun pins s σ H Q I q => h.run pins s σ H Q I (i σ H Q q)⟩
theorem pov_none : PO X none (rdO none) := PO.of po_none fun σ H Q h => by
  obtain ⟨m, S, ρ, d, S', R, E, e, q⟩ := h
  cases e
  exact q m H (Ext.refl R)
theorem pov_some (h : PE X e (rdE f)) : PO X (some e) (rdO (some f)) := PO.of (po_some h) fun σ H Q h => by
  obtain ⟨m, S, ρ, d, S', R, E, e, q⟩ := h
  simp only [evPart] at e
  split at e
  · rename_i i S1 h1
    cases e
    exact ⟨m, S, ρ, _, _, R, E, h1, fun m1 H1 v1 X1 r1 => ⟨i, r1, q m1 H1 X1⟩⟩
  · cases e
theorem pev_slice {lo hi : Option Expr} {fl fh : Option Ev} {p2 : Pos} (he : PE X e (rdE f)) (hl : PO X lo (rdO fl)) (hh : PO X hi (rdO fh)) : PE X (.Subscript e (.Slice lo hi none p2) pos) (rdE (evSl f fl fh)) := PE.of (pe_slice slv he hl hh) fun σ H Q h => by
  obtain ⟨m, S, ρ, d, S', R, E, e, q⟩ := h
  unfold evSl at e
  split at e
  · rename_i x S1 h1
    split at e
    · rename_i l S2 h2
      split at e
      · rename_i hh S3 h3
        exact ⟨m, S, ρ, x, S1, R, E, h1, fun m1 H1 v1 X1 r1 => ⟨m1, S1, ρ, l, S2, X1.rel, E.ext X1, h2, fun m2 H2 X2 => ⟨m2, S2, ρ, hh, S3, X2.rel, E.ext (X1.trans X2), h3, fun m3 H3 X3 => ⟨m3, S3, x, d, S', X3.rel, r1.ext (X2.trans X3), e, fun m4 H4 v4 X4 r4 => q m4 H4 v4 (X1.trans (X2.trans (X3.trans X4))) r4⟩⟩⟩⟩
      · cases e
    · cases e
  · cases e
end
end Sw

/-! EngM: tuple * 1, tuple * 0; the sum of a tuple. -/
namespace Sw
open PySem PySem.Spec PyProof.Rows L2
theorem tuple_mul1 (l : Addr) (items : Array Value) (n : Nat) (dd : Option Addr) (sl : Array (Option Value)) (u : Tok) :
    Meets (Builtin.«tuple.__mul__» ⟨[.ref l, .int 1 u], []⟩) (fun _ R s => s.heap.get? l = some { cls := .type "tuple", dict := dd, data := .seq items n, slots := sl } ∧ R (.ok (.ret (Value.ref l))) s) :=
  .of_wp fun prog w A R s h => by
    obtain ⟨hp, g, d, tk, os⟩ := s
    obtain ⟨hl, h⟩ := h
    have f1 := AutoSeq1.idx_int
    have c1 : (items.isEmpty || (1 : Int) == 1) = true := by simp
    wp_walk using wpAny_loadPart' hl
    repeat (first
      | (refine wpAny_ite_false (decide_eq_false (by decide)) ?_; wp_walk using wpAny_loadPart' hl)
      | (refine wpAny_ite_true (decide_eq_true c1) ?_; wp_walk using wpAny_loadPart' hl)
      | (refine wpAny_ite_true (decide_eq_true (by decide)) ?_; wp_walk using wpAny_loadPart' hl))
    exact ⟨_, rfl, h⟩
theorem tuple_mul0 (l : Addr) (items : Array Value) (n : Nat) (dd : Option Addr) (sl : Array (Option Value)) (u : Tok) (hi : items.isEmpty = false) :
    Meets (Builtin.«tuple.__mul__» ⟨[.ref l, .int 0 u], []⟩) (fun _ R s => s.heap.get? l = some { cls := .type "tuple", dict := dd, data := .seq items n, slots := sl } ∧
      R (.ok (.ret (Value.ref s.heap.objs.size))) { s with heap := s.heap.push { cls := Value.type "tuple", data := Data.seq #[] }, toks := s.toks }) :=
  .of_wp fun prog w A R s h => by
    obtain ⟨hp, g, d, tk, os⟩ := s
    obtain ⟨hl, h⟩ := h
    have f1 := AutoSeq1.idx_int
    have c1 : (items.isEmpty || (0 : Int) == 1) = false := by rw [hi]; rfl
    have c2 : (decide ((0 : Int) ≤ 0) || items.isEmpty) = true := by simp
    wp_walk using wpAny_loadPart' hl
    repeat (first
      | (refine wpAny_ite_false (decide_eq_false (by decide)) ?_; wp_walk using wpAny_loadPart' hl)
      | (refine wpAny_ite_false (decide_eq_false (by rw [c1]; exact Bool.false_ne_true)) ?_; wp_walk using wpAny_loadPart' hl)
      | (refine wpAny_ite_true (decide_eq_true c2) ?_; wp_walk using wpAny_loadPart' hl)
      | (refine wpAny_ite_true (decide_eq_true (by decide)) ?_; wp_walk using wpAny_loadPart' hl))
    exact ⟨_, rfl, h⟩
section
variable {X : Cx}
def rRep1 (K : PySem.W.Frag) : R2 := fun x y H Q => ∃ l xs, x = .ref l ∧ y = .int 1 ∧ SqT K H l xs ∧ xs ≠ [] ∧ Q (.ref l) H
def rRep0 (K : PySem.W.Frag) : R2 := fun x y H Q => ∃ l xs, x = .ref l ∧ y = .int 0 ∧ SqT K H l xs ∧ xs ≠ [] ∧ ∀ p, H p = none → Q (.ref p) (upd H p (.tup []))
theorem op_rep1 : OpR X (binaryOp .Mult) (rRep1 X.K) := by
  intro pins s σ H x y v u Q I rx ry h
  obtain ⟨l, xs, rfl, rfl, hT, hne, q⟩ := h
  cases rx
  obtain ⟨t, rfl⟩ := ry
  obtain ⟨its, r, ⟨⟨cls, dd, data, sl⟩, ho, hc, n, hd⟩, hs⟩ := I.tuple hT
  simp only at hc hd
  subst hc hd
  refine wpAny_binaryOp_repeat_ref (T := "tuple") (U := "int") (by decide) ⟨_, ho, rfl⟩ (fun s' => typeIs_int s' 1 t) noFill_tuple_mul F.fills_int_mul F.slot_int_rmul repeat_tuple F.slot_int_index.lookup
    (call_meets F.slot_int_rmul (typeIs_int s 1 t) F.entry_int_rmul (F.args_int_rmul_2 _ _) (int_rmul_tuple 1 t l its.toArray n dd sl)
      ⟨ho, rfl, ⟨_, ho, rfl⟩, call_meets F.slot_tuple_mul ⟨_, ho, rfl⟩ F.entry_tuple_mul (F.args_tuple_mul_2 _ _) (tuple_mul1 l its.toArray n dd sl t) ⟨ho, ?_⟩⟩)
  exact ⟨.ref l, H, I, rfl, q⟩
theorem op_rep0 : OpR X (binaryOp .Mult) (rRep0 X.K) := by
  intro pins s σ H x y v u Q I rx ry h
  obtain ⟨l, xs, rfl, rfl, hT, hne, q⟩ := h
  cases rx
  obtain ⟨t, rfl⟩ := ry
  obtain ⟨its, r, ⟨⟨cls, dd, data, sl⟩, ho, hc, n, hd⟩, hs⟩ := I.tuple hT
  simp only at hc hd
  subst hc hd
  have hle : its.length = xs.length := r.length.symm
  have hi : its.toArray.isEmpty = false := by
    cases its with
    | nil => exact absurd (List.eq_nil_of_length_eq_zero hle.symm) hne
    | cons a b => rfl
  refine wpAny_binaryOp_repeat_ref (T := "tuple") (U := "int") (by decide) ⟨_, ho, rfl⟩ (fun s' => typeIs_int s' 0 t) noFill_tuple_mul F.fills_int_mul F.slot_int_rmul repeat_tuple F.slot_int_index.lookup
    (call_meets F.slot_int_rmul (typeIs_int s 0 t) F.entry_int_rmul (F.args_int_rmul_2 _ _) (int_rmul_tuple 0 t l its.toArray n dd sl)
      ⟨ho, rfl, ⟨_, ho, rfl⟩, call_meets F.slot_tuple_mul ⟨_, ho, rfl⟩ F.entry_tuple_mul (F.args_tuple_mul_2 _ _) (tuple_mul0 l its.toArray n dd sl t hi) ⟨ho, ?_⟩⟩)
  refine ⟨.ref s.heap.objs.size, _, I.laid (t' := s.toks) (o := .tup []) (fun b ob q => Heap.get?_push_of_some _ q) (Nat.le_refl _) ?_, rfl, q _ (I.hok.fresh (Nat.le_refl _))⟩
  exact ⟨Nat.zero_le _, [], .nil, IsTup.new _ _⟩
/-! ### the sum of a tuple -/
def rSumT (K : PySem.W.Frag) : List V → Hp → VK → Prop := fun vs H Q => ∃ (a : Addr) (ns : List Int), vs = [V.ref a] ∧ SqT K H a (ns.map V.int) ∧ Q (.int ns.sum) H
theorem vals_intsD : ∀ {ns : List Int} {its : List Value} {i : Nat} {v : Value}, Vals (ns.map V.int) its → its[i]? = some v → ∃ t, v = .int (ns.getD i 0) t
  | [], its, i, v, r, h => by cases r; simp at h
  | n :: ns, its, i, v, r, h => by
    cases r with
    | cons r1 r2 =>
      cases i with
      | zero =>
        obtain ⟨t, rfl⟩ := r1
        simp at h
        exact ⟨t, h.symm⟩
      | succ i =>
        have := vals_intsD (i := i) r2 (by simpa using h)
        simpa using this
theorem cr_sumT (hc : X.calm = true) : CallR X (.builtin "sum") (rSumT X.K) := by
  intro pins s σ H vs us Q I r h
  obtain ⟨a, ns, rfl, hs, q⟩ := h
  obtain ⟨its, rv, hl, _⟩ := I.tuple hs
  rw [Vals.ref1 r]
  have hn : its.toArray.size = ns.length := by
    have := rv.length
    simp at this
    simp [this]
  have hT : s.heap.IsTuple a its.toArray := hl
  refine PySem.call_sum_walkAnyS (PySem.W.iter_tupleW (A := X.A.in1) (I.ok.hd hc) hT fun s₂ e W st hfp hw hk => ?_)
  refine ⟨_, _, _, _, _, _, _, fun i => ns.getD i 0, rfl, W, st, hfp, fun i v hv => vals_intsD (i := i) rv (by simpa using hv), fun s' t' m => ?_⟩
  obtain ⟨h', tk, rfl, hk'⟩ := PySem.W.moved_old e rfl m
  rw [preSum_getD, hn, List.take_length]
  exact ⟨.int _, H, I.kept hk', ⟨_, rfl⟩, q⟩
end
end Sw

/-! Eng5: built-ins and methods. -/
namespace Sw
open PySem PySem.Spec PyProof.Rows L2

theorem CallR.or2 {X : Cx} {f : Value} {r r' : List V → Hp → VK → Prop} (h : CallR X f r) (h' : CallR X f r') : CallR X f (fun xs H Q => r xs H Q ∨ r' xs H Q) := by
  intro pins s σ H xs us Q I rx q
  rcases q with q | q
  · exact h pins s σ H xs us Q I rx q
  · exact h' pins s σ H xs us Q I rx q
theorem RDs.one1 {m : Nat → Addr} {k : Nat} {H : Hp} {d : D} {vs : List V} (h : RDs m k H [d] vs) : ∃ v, vs = [v] ∧ RD m k H d v := by
  obtain ⟨v, r, h1, h2, h3⟩ := h
  rw [show r = [] from h3] at h1
  exact ⟨v, h1, h2⟩
theorem RDs.two {m : Nat → Addr} {k : Nat} {H : Hp} {d e : D} {vs : List V} (h : RDs m k H [d, e] vs) : ∃ v w, vs = [v, w] ∧ RD m k H d v ∧ RD m k H e w := by
  obtain ⟨v, r, h1, h2, h3⟩ := h
  obtain ⟨w, rfl, h5⟩ := h3.one1
  exact ⟨v, w, h1, h2, h5⟩

/-! ### len -/
def lenN : List D → Sto → Res D
  | [.tup xs], S => .ok (.int xs.length) S
  | [.str z], S => match fits z.length with
    | true => .ok (.int z.length) S
    | false => .bad
  | [.ref n], S => match S.objs[n]? with
    | some (.lst xs) => .ok (.int xs.length) S
    | some (.frz xs) => .ok (.int xs.length) S
    | some (.dct kvs) => .ok (.int kvs.length) S
    | some (.dctT kvs) => .ok (.int kvs.length) S
    | some (.dctN kvs) => .ok (.int kvs.length) S
    | _ => .bad
  | _, _ => .bad
section
variable {X : Cx}
theorem crv_len : CallR X (.builtin "len") (rdN lenN) := CallR.of (CallR.or2 call_len_seq (CallR.or2 call_len_str (CallR.or2 call_lenD (CallR.or2 call_len_dT call_len_dN)))) fun xs H Q h => by
  obtain ⟨m, S, ds, d, S', R, r, e, q⟩ := h
  unfold lenN at e
  split at e
  · cases e
    obtain ⟨v, rfl, a, vs, rfl, ha, qs⟩ := r.one1
    exact .inl ⟨a, vs, rfl, .inr (.of ha), by rw [← qs.length]; exact rdPure R q rfl⟩
  · split at e
    · rename_i hf
      cases e
      obtain ⟨v, rfl, hv⟩ := r.one1
      exact .inr (.inl ⟨_, by rw [show v = _ from hv], fits_le hf, rdPure R q rfl⟩)
    · cases e
  · rename_i n S
    obtain ⟨v, rfl, hn, rfl⟩ := r.one1
    split at e
    · rename_i ys ho
      cases e
      obtain ⟨vs, h1, h2⟩ := R.obj _ _ ho
      exact .inl ⟨_, vs, rfl, .inl (.of h1), by rw [← h2.length]; exact rdPure R q rfl⟩
    · rename_i ys ho
      cases e
      obtain ⟨vs, o, h1, h2⟩ := R.obj _ _ ho
      exact .inl ⟨_, vs, rfl, .inl (.inl (.inr ⟨o, h1⟩)), by rw [← h2.length]; exact rdPure R q rfl⟩
    · rename_i ys ho
      cases e
      obtain ⟨vs, h1, h2⟩ := R.obj _ _ ho
      exact .inr (.inr (.inl ⟨_, vs, rfl, h1, by rw [← h2.length]; exact rdPure R q rfl⟩))
    · rename_i ys ho
      cases e
      obtain ⟨vs, h1, h2⟩ := R.obj _ _ ho
      exact .inr (.inr (.inr (.inl ⟨_, vs, rfl, h1, by rw [← h2.length]; exact rdPure R q rfl⟩)))
    · rename_i ys ho
      cases e
      obtain ⟨vs, h1, h2⟩ := R.obj _ _ ho
      exact .inr (.inr (.inr (.inr ⟨_, vs, rfl, h1, by rw [← h2.length]; exact rdPure R q rfl⟩)))
    · cases e
  · cases e

/-! ### int, min, max -/
def intN : List D → Sto → Res D
  | [.int i], S => .ok (.int i) S
  | [.bl b], S => .ok (.int (if b then 1 else 0)) S
  | _, _ => .bad
theorem crv_int : CallR X (.type "int") (rdN intN) := CallR.of call_int1 fun xs H Q h => by
  obtain ⟨m, S, ds, d, S', R, r, e, q⟩ := h
  unfold intN at e
  split at e
  · cases e
    obtain ⟨v, rfl, hv⟩ := r.one1
    exact .inl ⟨_, by rw [show v = _ from hv], rdPure R q rfl⟩
  · cases e
    obtain ⟨v, rfl, hv⟩ := r.one1
    exact .inr ⟨_, by rw [show v = _ from hv], rdPure R q rfl⟩
  · cases e
def minN : List D → Sto → Res D
  | [.int i, .int j], S => .ok (.int (if j < i then j else i)) S
  | _, _ => .bad
def maxN : List D → Sto → Res D
  | [.int i, .int j], S => .ok (.int (if j > i then j else i)) S
  | _, _ => .bad
theorem crv_min (hc : X.calm = true) : CallR X (.builtin "min") (rdN minN) := CallR.of (call_min2 hc) fun xs H Q h => by
  obtain ⟨m, S, ds, d, S', R, r, e, q⟩ := h
  unfold minN at e
  split at e
  · cases e
    obtain ⟨v, w, rfl, hv, hw⟩ := r.two
    exact ⟨_, _, by rw [show v = _ from hv, show w = _ from hw], rdPure R q rfl⟩
  · cases e
theorem crv_max (hc : X.calm = true) : CallR X (.builtin "max") (rdN maxN) := CallR.of (call_max2 hc) fun xs H Q h => by
  obtain ⟨m, S, ds, d, S', R, r, e, q⟩ := h
  unfold maxN at e
  split at e
  · cases e
    obtain ⟨v, w, rfl, hv, hw⟩ := r.two
    exact ⟨_, _, by rw [show v = _ from hv, show w = _ from hw], rdPure R q rfl⟩
  · cases e

/-! ### all, any, sum -/
def blsOf : List D → Option (List Bool)
  | [] => some []
  | .bl b :: r => match blsOf r with
    | some bs => some (b :: bs)
    | none => none
  | _ :: _ => none
def intsOf : List D → Option (List Int)
  | [] => some []
  | .int b :: r => match intsOf r with
    | some bs => some (b :: bs)
    | none => none
  | _ :: _ => none
theorem blsOf_ok {m : Nat → Addr} {k : Nat} {H : Hp} : ∀ {ds : List D} {vs : List V} {bs : List Bool}, RDs m k H ds vs → blsOf ds = some bs → vs = bs.map V.bl
  | [], vs, bs, h, e => by simp only [blsOf] at e; cases e; exact h
  | d :: ds, vs, bs, h, e => by
    obtain ⟨v, r, rfl, h2, h3⟩ := h
    cases d <;> simp only [blsOf] at e <;> try cases e
    rename_i b
    cases e1 : blsOf ds with
    | none => rw [e1] at e; cases e
    | some cs =>
      rw [e1] at e
      cases e
      rw [show v = _ from h2, blsOf_ok h3 e1]
      rfl
theorem intsOf_ok {m : Nat → Addr} {k : Nat} {H : Hp} : ∀ {ds : List D} {vs : List V} {bs : List Int}, RDs m k H ds vs → intsOf ds = some bs → vs = bs.map V.int
  | [], vs, bs, h, e => by simp only [intsOf] at e; cases e; exact h
  | d :: ds, vs, bs, h, e => by
    obtain ⟨v, r, rfl, h2, h3⟩ := h
    cases d <;> simp only [intsOf] at e <;> try cases e
    rename_i b
    cases e1 : intsOf ds with
    | none => rw [e1] at e; cases e
    | some cs =>
      rw [e1] at e
      cases e
      rw [show v = _ from h2, intsOf_ok h3 e1]
      rfl
/-- a fold over a list's truths -/
def blN (p : List Bool → Bool) : List D → Sto → Res D
  | [.ref n], S => match S.list? n with
    | some xs => match blsOf xs with
      | some bs => .ok (.bl (p bs)) S
      | none => .bad
    | none => .bad
  | _, _ => .bad
def sumN : List D → Sto → Res D
  | [.ref n], S => match S.list? n with
    | some xs => match intsOf xs with
      | some ns => .ok (.int ns.sum) S
      | none => .bad
    | none => .bad
  | [.tup xs], S => match intsOf xs with
    | some ns => .ok (.int ns.sum) S
    | none => .bad
  | _, _ => .bad
theorem crv_bl {id : String} {p : List Bool → Bool} (hr : CallR X (.builtin id) (fun vs H Q => ∃ (a : Addr) (bs : List Bool), vs = [V.ref a] ∧ SqL X.K H a (bs.map V.bl) ∧ Q (.bl (p bs)) H)) : CallR X (.builtin id) (rdN (blN p)) := CallR.of hr fun xs H Q h => by
  obtain ⟨m, S, ds, d, S', R, r, e, q⟩ := h
  unfold blN at e
  split at e
  · obtain ⟨v, rfl, hn, rfl⟩ := r.one1
    split at e
    · rename_i ys hl
      split at e
      · rename_i bs hb
        cases e
        obtain ⟨vs, h1, h2, _⟩ := R.sqL (K := X.K) hl
        rw [blsOf_ok h2 hb] at h1
        exact ⟨_, bs, rfl, h1, rdPure R q rfl⟩
      · cases e
    · cases e
  · cases e
theorem crv_all (hc : X.calm = true) : CallR X (.builtin "all") (rdN (blN fun bs => bs.all id)) := crv_bl (cr_all hc)
theorem crv_any (hc : X.calm = true) : CallR X (.builtin "any") (rdN (blN fun bs => bs.any id)) := crv_bl (cr_any hc)
theorem crv_sum (hc : X.calm = true) : CallR X (.builtin "sum") (rdN sumN) := CallR.of (CallR.or2 (cr_sum hc) (cr_sumT hc)) fun xs H Q h => by
  obtain ⟨m, S, ds, d, S', R, r, e, q⟩ := h
  unfold sumN at e
  split at e
  · obtain ⟨v, rfl, hn, rfl⟩ := r.one1
    split at e
    · rename_i ys hl
      split at e
      · rename_i bs hb
        cases e
        obtain ⟨vs, h1, h2, _⟩ := R.sqL (K := X.K) hl
        rw [intsOf_ok h2 hb] at h1
        exact .inl ⟨_, bs, rfl, h1, rdPure R q rfl⟩
      · cases e
    · cases e
  · rename_i ys
    obtain ⟨v, rfl, hv⟩ := r.one1
    obtain ⟨a, vs, rfl, ha, qs⟩ := hv
    split at e
    · rename_i bs hb
      cases e
      rw [intsOf_ok qs hb] at ha
      exact .inr ⟨_, bs, rfl, .of ha, rdPure R q rfl⟩
    · cases e
  · cases e

/-! ### tuple, list -/
def tupleN : List D → Sto → Res D
  | [.tup xs], S => .ok (.tup xs) S
  | [.ref n], S => match S.list? n with
    | some xs => .ok (.tup xs) S
    | none => .bad
  | _, _ => .bad
def listN : List D → Sto → Res D
  | [.tup xs], S => newL S xs
  | [.ref n], S => match S.list? n with
    | some xs => newL S xs
    | none => .bad
  | _, _ => .bad
theorem crv_tuple : CallR X (.type "tuple") (rdN tupleN) := CallR.of call_tuple_of fun xs H Q h => by
  obtain ⟨m, S, ds, d, S', R, r, e, q⟩ := h
  unfold tupleN at e
  split at e
  · cases e
    obtain ⟨v, rfl, a, vs, rfl, ha, qs⟩ := r.one1
    exact ⟨a, vs, rfl, .inr ⟨.of ha, rdPure R q ⟨a, vs, rfl, ha, qs⟩⟩⟩
  · obtain ⟨v, rfl, hn, rfl⟩ := r.one1
    split at e
    · rename_i ys hl
      cases e
      obtain ⟨vs, h1, h2, _⟩ := R.sqL (K := X.K) hl
      exact ⟨_, vs, rfl, .inl ⟨h1, goTup R h2 q⟩⟩
    · cases e
  · cases e
theorem crv_list : CallR X (.type "list") (rdN listN) := CallR.of call_list_of fun xs H Q h => by
  obtain ⟨m, S, ds, d, S', R, r, e, q⟩ := h
  unfold listN at e
  split at e
  · cases e
    obtain ⟨v, rfl, a, vs, rfl, ha, qs⟩ := r.one1
    exact ⟨a, vs, rfl, .inr (.of ha), goLst R qs q⟩
  · obtain ⟨v, rfl, hn, rfl⟩ := r.one1
    split at e
    · rename_i ys hl
      cases e
      obtain ⟨vs, h1, h2, _⟩ := R.sqL (K := X.K) hl
      exact ⟨_, vs, rfl, .inl h1, goLst R h2 q⟩
    · cases e
  · cases e

/-! ### isinstance -/
inductive Tn where
  | non | bool | int | str | tuple | list | dict
def Tn.name : Tn → String
  | .non => "NoneType"
  | .bool => "bool"
  | .int => "int"
  | .str => "str"
  | .tuple => "tuple"
  | .list => "list"
  | .dict => "dict"
/-- the type of a thing -/
def tyOf (S : Sto) : D → Option Tn
  | .non => some .non
  | .bl _ => some .bool
  | .int _ => some .int
  | .str _ => some .str
  | .tup _ => some .tuple
  | .ref n => match S.objs[n]? with
    | some (.lst _) => some .list
    | some (.frz _) => some .list
    | some (.dct _) => some .dict
    | some (.dctT _) => some .dict
    | _ => none
def isSub : Tn → Tn → Bool
  | .non, .non => true
  | .bool, .bool => true
  | .bool, .int => true
  | .int, .int => true
  | .str, .str => true
  | .tuple, .tuple => true
  | .list, .list => true
  | .dict, .dict => true
  | _, _ => false
theorem kit_sub (t T : Tn) : kitB t.name T.name = some (isSub t T) := by
  cases t <;> cases T <;> decide +kernel
def isiD (Ts : List Tn) (x : D) (S : Sto) : Res D := match tyOf S x with
  | some t => .ok (.bl (Ts.any fun T => isSub t T)) S
  | none => .bad
theorem tyOf_ok {K : Frg} {m : Nat → Addr} {S : Sto} {H : Hp} (R : Rel m S H) {d : D} {v : V} {t : Tn} (h : RD m S.len H d v) (e : tyOf S d = some t) : TyX K H v (.type t.name) := by
  cases d with
  | non => cases e; rw [show v = _ from h]; exact .base .non
  | bl b => cases e; rw [show v = _ from h]; exact .base (.bl b)
  | int b => cases e; rw [show v = _ from h]; exact .base (.int b)
  | str b => cases e; rw [show v = _ from h]; exact .base (.str b)
  | tup xs => cases e; obtain ⟨a, vs, rfl, ha, _⟩ := h; exact .base (.tup ha)
  | ref n =>
    simp only [tyOf] at e
    rw [h.2]
    split at e
    · rename_i ho; cases e; obtain ⟨vs, h1, _⟩ := R.obj _ _ ho; exact .base (.lst h1)
    · rename_i ho; cases e; obtain ⟨vs, o, h1, _⟩ := R.obj _ _ ho; exact .base (.frz h1)
    · rename_i ho; cases e; obtain ⟨vs, h1, _⟩ := R.obj _ _ ho; exact .base (.dK h1)
    · rename_i ho; cases e; obtain ⟨vs, h1, _⟩ := R.obj _ _ ho; exact .base (.dT h1)
    · cases e
end
end Sw

/-! Eng6: calls of built-ins, isinstance, methods. -/
namespace Sw
open PySem PySem.Spec PyProof.Rows L2
section
variable {X : Cx} {e o a : Expr} {es : List Expr} {f fo fa : Ev} {g : EvA} {pos p apos cpos : Pos} {x : Str} {gg : List D → Sto → Res D}
theorem pev_callB {id : String} (hc : CallR X (.builtin id) (rdN gg)) (hg : Gl X x) (hm : X.mg x = none) (hv : bootBuiltins x = some (.builtin id)) (ha : PA X (e :: es) (rdA g)) (hn : x ≠ "__name__") (hdb : (x == ("__debug__" : Str)) = false)
    (he : starEach (e :: es) X.env = (false, eval e X.env) :: starEach es X.env) (hpl : (backTo pos (starEach es X.env)).any (·.1) = false) : PE X (.Call (.Name x p) (e :: es) [] pos) (rdE (evN gg g)) :=
  PE.of (pe_callB hc hg hm hv ha hn hdb he hpl) fun _ _ _ h => rdN_seq h
theorem pev_callTy {T : String} (hc : CallR X (.type T) (rdN gg)) (hg : Gl X x) (hm : X.mg x = none) (hv : bootBuiltins x = some (.type T)) (ha : PA X (e :: es) (rdA g)) (hn : x ≠ "__name__") (hdb : (x == ("__debug__" : Str)) = false)
    (he : starEach (e :: es) X.env = (false, eval e X.env) :: starEach es X.env) (hpl : (backTo pos (starEach es X.env)).any (·.1) = false) : PE X (.Call (.Name x p) (e :: es) [] pos) (rdE (evN gg g)) :=
  PE.of (pe_callTy hc hg hm hv ha hn hdb he hpl) fun _ _ _ h => rdN_seq h

/-! ### isinstance(a, T), isinstance(a, (T, U)) -/
theorem pev_isi {T : Tn} {y : Str} {p1 p2 : Pos} (ha : PE X a (rdE fa)) (hg : Gl X "isinstance") (hm : X.mg "isinstance" = none) (hg1 : Gl X y) (hm1 : X.mg y = none) (hv1 : bootBuiltins y = some (.type T.name)) (hn1 : y ≠ "__name__") (hd1 : (y == ("__debug__" : Str)) = false)
    (hs : starEach [a, .Name y p1] X.env = (false, eval a X.env) :: starEach [.Name y p1] X.env) : PE X (.Call (.Name "isinstance" p) [a, .Name y p1] [] pos) (rdE (ev1 (isiD [T]) fa)) :=
  PE.of (pe_callB call_isi hg hm boot_isinstance (pa_cons ha (pa_cons (pe_bltn (v := .ty T.name) hg1 hm1 hv1 rfl hn1 hd1) pa_nil) hs) (by decide) (by decide) hs (by rfl)) fun σ H Q h => by
    obtain ⟨m, S, ρ, d, S', R, E, e, q⟩ := rd1_seq h
    refine ⟨m, S, ρ, d, S', R, E, e, fun m1 H1 v1 X1 r1 => ?_⟩
    obtain ⟨m2, S2, d1, d2, S3, R2, r2, e2, q2⟩ := q m1 H1 v1 X1 r1
    unfold isiD at e2
    split at e2
    · rename_i t ht
      cases e2
      exact ⟨v1, .ty T.name, _, _, isSub t T, rfl, .ty _, tyOf_ok R2 r2 ht, kit_ty (kit_sub t T), by simpa using rdPure R2 q2 rfl⟩
    · cases e2
theorem pev_isi2 {T U : Tn} {y z : Str} {p1 p2 p3 : Pos} {k : Nat} (ha : PE X a (rdE fa)) (hg : Gl X "isinstance") (hm : X.mg "isinstance" = none) (hg1 : Gl X y) (hm1 : X.mg y = none) (hv1 : bootBuiltins y = some (.type T.name)) (hn1 : y ≠ "__name__") (hd1 : (y == ("__debug__" : Str)) = false)
    (hg2 : Gl X z) (hm2 : X.mg z = none) (hv2 : bootBuiltins z = some (.type U.name)) (hn2 : z ≠ "__name__") (hd2 : (z == ("__debug__" : Str)) = false)
    (hs : ∀ es, starEach (a :: es) X.env = (false, eval a X.env) :: starEach es X.env) : PE X (.Call (.Name "isinstance" p) [a, .Tuple [.Name y p1, .Name z p2] k p3] [] pos) (rdE (ev1 (isiD [T, U]) fa)) :=
  PE.of (pe_callB call_isiT hg hm boot_isinstance (pa_cons ha (pa_cons (pe_tup (pa_cons (pe_bltn (v := .ty T.name) hg1 hm1 hv1 rfl hn1 hd1) (pa_cons (pe_bltn (v := .ty U.name) hg2 hm2 hv2 rfl hn2 hd2) pa_nil))) pa_nil) (hs _)) (by decide) (by decide) (hs _) (by rfl)) fun σ H Q h => by
    obtain ⟨m, S, ρ, d, S', R, E, e, q⟩ := rd1_seq h
    refine ⟨m, S, ρ, d, S', R, E, e, fun m1 H1 v1 X1 r1 => ?_⟩
    obtain ⟨m2, S2, d1, d2, S3, R2, r2, e2, q2⟩ := q m1 H1 v1 X1 r1
    unfold isiD at e2
    split at e2
    · rename_i t ht
      cases e2
      refine ⟨by show 2 ≤ sizeLine; decide, fun tp htp => ?_⟩
      have X2 := Ext.tup (o := .tup [.ty T.name, .ty U.name]) R2 htp
      refine ⟨v1, tp, _, _, [.type T.name, .type U.name], isSub t T || isSub t U, rfl, upd_same, .cons (.ty _) (.cons (.ty _) .nil), tyOf_ok X2.rel (r2.ext X2) ht, ?_, q2 m2 _ _ X2 (by simp [RD])⟩
      unfold PySem.W.kitAny
      rw [kit_ty (kit_sub t T)]
      cases isSub t T with
      | true => rfl
      | false =>
        unfold PySem.W.kitAny
        rw [kit_ty (kit_sub t U)]
        cases isSub t U <;> rfl
    · cases e2

/-! ### methods -/
def evM (k : O → Bool) (gg : Nat → List D → Sto → Res D) (fo : Ev) (fa : EvA) : Ev := fun ρ S => match fo ρ S with
  | .ok (.ref n) S1 => match S1.objs[n]? with
    | some ob => match k ob with
      | true => match fa ρ S1 with
        | .ok xs S2 => gg n xs S2
        | .bad => .bad
      | false => .bad
    | none => .bad
  | _ => .bad
def isLst : O → Bool
  | .lst _ => true
  | .frz _ => true
  | _ => false
def isDct : O → Bool
  | .dct _ => true
  | .dctT _ => true
  | .dctN _ => true
  | _ => false
def rdM (gg : Nat → List D → Sto → Res D) : V → List V → Hp → VK → Prop := fun x xs H Q => ∃ m S n ds d S', Rel m S H ∧ RD m S.len H (.ref n) x ∧ RDs m S.len H ds xs ∧ gg n ds S = .ok d S' ∧ ∀ m' H' v, Ext m m' S S' H H' → RD m' S'.len H' d v → Q v H'
theorem evM_ok {k : O → Bool} {gm : Nat → List D → Sto → Res D} {ρ : En} {S S' : Sto} {d : D} (h : evM k gm fo g ρ S = .ok d S') : ∃ n S1 ob xs S2, fo ρ S = .ok (.ref n) S1 ∧ S1.objs[n]? = some ob ∧ k ob = true ∧ g ρ S1 = .ok xs S2 ∧ gm n xs S2 = .ok d S' := by
  unfold evM at h
  split at h
  · rename_i n S1 h1
    split at h
    · rename_i ob h2
      split at h
      · rename_i h3
        split at h
        · rename_i xs S2 h4
          exact ⟨n, S1, ob, xs, S2, h1, h2, h3, h4, h⟩
        · cases h
      · cases h
    · cases h
  · cases h
theorem rdM_seq {K : Frg} {k : O → Bool} {T : String} {gm : Nat → List D → Sto → Res D} {σ : L2.St} {H : Hp} {Q : VK} (hT : ∀ m S H n ob, Rel m S H → S.objs[n]? = some ob → k ob = true → tyV K T (.ref (m n)) H) (h : rdE (evM k gm fo g) σ H Q) :
    rdE fo σ H fun x H1 => tyV K T x H1 ∧ rdA g σ H1 fun xs H2 => rdM gm x xs H2 Q := by
  obtain ⟨m, S, ρ, d, S', R, E, e, q⟩ := h
  obtain ⟨n, S1, ob, xs, S2, h1, h2, h3, h4, h5⟩ := evM_ok e
  refine ⟨m, S, ρ, _, S1, R, E, h1, fun m1 H1 v1 X1 r1 => ⟨by rw [r1.2]; exact hT m1 S1 H1 n ob X1.rel h2 h3, ?_⟩⟩
  exact ⟨m1, S1, ρ, xs, S2, X1.rel, E.ext X1, h4, fun m2 H2 v2 X2 r2 => ⟨m2, S2, n, xs, d, S', X2.rel, RD.ext r1 X2, r2, h5, fun m3 H3 v3 X3 r3 => q m3 H3 v3 (X1.trans (X2.trans X3)) r3⟩⟩
theorem tyV_lst {K : Frg} (m : Nat → Addr) (S : Sto) (H : Hp) (n : Nat) (ob : O) (R : Rel m S H) (h : S.objs[n]? = some ob) (k : isLst ob = true) : tyV K "list" (.ref (m n)) H := by
  have q := R.obj n ob h
  cases ob with
  | lst xs => obtain ⟨vs, h1, _⟩ := q; exact .inl ⟨rfl, vs, .of h1⟩
  | frz xs => obtain ⟨vs, o, h1, _⟩ := q; exact .inl ⟨rfl, vs, .inl (.inr ⟨o, h1⟩)⟩
  | dct _ => cases k
  | dctT _ => cases k
  | dctN _ => cases k
  | set _ => cases k
theorem MtR.of {id : String} {r r' : V → List V → Hp → VK → Prop} (h : MtR X id r) (i : ∀ x xs H Q, r' x xs H Q → r x xs H Q) : MtR X id r' := fun pins s σ H x xs v us Q I rx rs q => h pins s σ H x xs v us Q I rx rs (i x xs H Q q)

/-! the operations -/
def appM (n : Nat) : List D → Sto → Res D
  | [d], S => match S.objs[n]? with
    | some (.lst xs) => match fits (xs.length + 1) with
      | true => .ok .non (S.put n (.lst (xs ++ [d])) (d.blw 0))
      | false => .bad
    | _ => .bad
  | _, _ => .bad
def popM (n : Nat) : List D → Sto → Res D
  | [], S => match S.objs[n]? with
    | some (.lst xs) => match xs[xs.length - 1]? with
      | some y => .ok y (S.put n (.lst xs.dropLast) true)
      | none => .bad
    | _ => .bad
  | [.int i], S => match S.objs[n]? with
    | some (.lst xs) => match decide (-(2 ^ 63) ≤ i) && decide (i < 2 ^ 63) with
      | true => match seqIndex? i xs.length with
        | some k => match xs[k]? with
          | some y => .ok y (S.put n (.lst (xs.eraseIdx k)) true)
          | none => .bad
        | none => .bad
      | false => .bad
    | _ => .bad
  | _, _ => .bad
theorem blws_append {k : Nat} : ∀ {xs ys : List D}, D.blws k (xs ++ ys) = (D.blws k xs && D.blws k ys)
  | [], ys => by simp [D.blws]
  | x :: xs, ys => by simp only [List.cons_append, D.blws, blws_append (xs := xs), Bool.and_assoc]
theorem blws_erase {k : Nat} : ∀ (xs : List D) (i : Nat), D.blws k xs = true → D.blws k (xs.eraseIdx i) = true
  | [], i, h => h
  | x :: xs, 0, h => by
    simp only [D.blws, Bool.and_eq_true] at h
    exact h.2
  | x :: xs, i + 1, h => by
    simp only [D.blws, Bool.and_eq_true, List.eraseIdx_cons_succ] at h ⊢
    exact ⟨h.1, blws_erase xs i h.2⟩
theorem RDs.erase {m : Nat → Addr} {k : Nat} {H : Hp} : ∀ {ds : List D} {vs : List V} (i : Nat), RDs m k H ds vs → RDs m k H (ds.eraseIdx i) (vs.eraseIdx i)
  | [], vs, i, h => by rw [show vs = [] from h]; rfl
  | d :: ds, vs, 0, h => by
    obtain ⟨v, r, rfl, h2, h3⟩ := h
    exact h3
  | d :: ds, vs, i + 1, h => by
    obtain ⟨v, r, rfl, h2, h3⟩ := h
    exact ⟨v, r.eraseIdx i, rfl, h2, h3.erase i⟩
theorem dropLast_erase {α : Type} : ∀ xs : List α, xs.dropLast = xs.eraseIdx (xs.length - 1)
  | [] => rfl
  | [x] => rfl
  | x :: y :: r => by
    have := dropLast_erase (y :: r)
    simp only [List.dropLast_cons₂, this, List.length_cons]
    rfl
/-- behind a list's change -/
theorem goPut {m : Nat → Addr} {S : Sto} {H : Hp} (R : Rel m S H) {n : Nat} {xs ys : List D} {vs ws : List V} {ok : Bool} (ho : S.objs[n]? = some (.lst xs)) (h1 : H (m n) = some (.lst vs)) (hy : RDs m S.len H ys ws) (hb : ok = true → ∀ b, D.blws b xs = true → D.blws b ys = true) :
    Ext m m S (S.put n (.lst ys) ok) H (upd H (m n) (.lst ws)) := by
  have kp : Keep H (upd H (m n) (.lst ws)) := ⟨fun a zs e => (by
      rw [upd_ne]
      · exact e
      · rintro rfl; rw [h1] at e; cases e), fun a o' u e => (by
      rw [upd_ne]
      · exact e
      · rintro rfl; rw [h1] at e; cases e)⟩
  exact Ext.put R ho h1 True.intro ⟨ws, upd_same, RDs.mono' (Nat.le_refl _) (fun _ _ => rfl) kp _ _ hy⟩ hb
theorem mtv_app : MtR X "list.append" (rdM appM) := MtR.of mt_append fun x xs H Q h => by
  obtain ⟨m, S, n, ds, d, S', R, r, rs, e, q⟩ := h
  unfold appM at e
  split at e
  · rename_i d0
    obtain ⟨v, rfl, hv⟩ := rs.one1
    split at e
    · rename_i ys ho
      split at e
      · rename_i hf
        cases e
        obtain ⟨vs, h1, h2⟩ := R.obj _ _ ho
        have X1 := goPut (ok := d0.blw 0) R ho h1 (h2.append (.one hv)) (fun z b hb => by rw [blws_append, hb]; simp only [D.blws, below_mono (Nat.zero_le b) _ z, Bool.and_self])
        refine ⟨m n, vs, v, r.2, rfl, h1, ?_, q m _ _ X1 rfl⟩
        have := fits_le hf
        rw [h2.length] at this
        omega
      · cases e
    · cases e
  · cases e
theorem mtv_pop : MtR X "list.pop" (rdM popM) := MtR.of (MtR.or mt_pop mt_popAt) fun x xs H Q h => by
  obtain ⟨m, S, n, ds, d, S', R, r, rs, e, q⟩ := h
  unfold popM at e
  split at e
  · split at e
    · rename_i ys ho
      split at e
      · rename_i y hy
        cases e
        obtain ⟨vs, h1, h2⟩ := R.obj _ _ ho
        have X1 := goPut (ok := true) R ho h1 (h2.erase (ys.length - 1)) (fun z b hb => blws_erase _ _ hb)
        rw [← dropLast_erase, h2.length, ← dropLast_erase] at X1
        rw [h2.length] at hy
        obtain ⟨w, hw, rw'⟩ := h2.get hy
        exact .inl ⟨m n, vs, w, r.2, rs, h1, hw, q m _ _ X1 (RD.ext rw' X1)⟩
      · cases e
    · cases e
  · rename_i i
    obtain ⟨v, rfl, hv⟩ := rs.one1
    split at e
    · rename_i ys ho
      split at e
      · rename_i hb
        split at e
        · rename_i k hk
          split at e
          · rename_i y hy
            cases e
            simp only [Bool.and_eq_true, decide_eq_true_eq] at hb
            obtain ⟨vs, h1, h2⟩ := R.obj _ _ ho
            have X1 := goPut (ok := true) R ho h1 (h2.erase k) (fun z b hb => blws_erase _ _ hb)
            obtain ⟨w, hw, rw'⟩ := h2.get hy
            exact .inr ⟨m n, vs, i, k, w, r.2, by rw [show v = _ from hv], h1, hb.1, hb.2, by rw [← h2.length]; exact hk, hw, q m _ _ X1 (RD.ext rw' X1)⟩
          · cases e
        · cases e
      · cases e
    · cases e
  · cases e
end
end Sw

/-! Eng7: statements. -/
namespace Sw
open PySem PySem.Spec PyProof.Rows L2

inductive SR where
  | nx (ρ : En) (S : Sto)
  | rt (d : D) (S : Sto)
  | bk (ρ : En) (S : Sto)
  | ct (ρ : En) (S : Sto)
  | bad
abbrev Sv := En → Sto → SR
def SPost (m : Nat → Addr) (S : Sto) (H : Hp) (D : Ends) : SR → Prop
  | .nx ρ' S' => ∀ m' H' σ', Ext m m' S S' H H' → REnv m' S'.len H' ρ' σ' → D.nx σ' H'
  | .rt d S' => ∀ m' H' v, Ext m m' S S' H H' → RD m' S'.len H' d v → D.rt v H'
  | .bk ρ' S' => ∀ m' H' σ', Ext m m' S S' H H' → REnv m' S'.len H' ρ' σ' → D.bk σ' H'
  | .ct ρ' S' => ∀ m' H' σ', Ext m m' S S' H H' → REnv m' S'.len H' ρ' σ' → D.ct σ' H'
  | .bad => False
theorem SPost.ext {m m1 : Nat → Addr} {S S1 : Sto} {H H1 : Hp} {D : Ends} (X1 : Ext m m1 S S1 H H1) : ∀ {r : SR}, SPost m S H D r → SPost m1 S1 H1 D r
  | .nx _ _, h => fun m' H' σ' X2 e => h m' H' σ' (X1.trans X2) e
  | .rt _ _, h => fun m' H' σ' X2 e => h m' H' σ' (X1.trans X2) e
  | .bk _ _, h => fun m' H' σ' X2 e => h m' H' σ' (X1.trans X2) e
  | .ct _ _, h => fun m' H' σ' X2 e => h m' H' σ' (X1.trans X2) e
  | .bad, h => h
def rdS (f : Sv) : TS := fun D σ H => ∃ m S ρ, Rel m S H ∧ REnv m S.len H ρ σ ∧ SPost m S H D (f ρ S)
section
variable {X : Cx} {st : Stmt} {rest : List Stmt} {f g : Sv} {e a b c : Expr} {fe fc : Ev} {pos : Pos}
theorem PS.of {t t' : TS} (h : PS X st t) (i : ∀ D σ H, t' D σ H → t D σ H) : PS X st t' := ⟨fun pins s σ H D I q => h.run pins s σ H D I (i D σ H q)⟩
theorem PSs.of {t t' : TS} (h : PSs X rest t) (i : ∀ D σ H, t' D σ H → t D σ H) : PSs X rest t' := ⟨fun pins s σ H D I q => h.run pins s σ H D I (i D σ H q)⟩
def svNext : Sv := fun ρ S => .nx ρ S
def svSeq (f g : Sv) : Sv := fun ρ S => match f ρ S with
  | .nx ρ1 S1 => g ρ1 S1
  | r => r
theorem psv_nil : PSs X [] (rdS svNext) := PSs.of pss_nil fun D σ H h => by
  obtain ⟨m, S, ρ, R, E, q⟩ := h
  exact q m H σ (Ext.refl R) E
theorem psv_cons (h1 : PS X st (rdS f)) (h2 : PSs X rest (rdS g)) : PSs X (st :: rest) (rdS (svSeq f g)) := PSs.of (pss_cons h1 h2) fun D σ H h => by
  obtain ⟨m, S, ρ, R, E, q⟩ := h
  refine ⟨m, S, ρ, R, E, ?_⟩
  unfold svSeq at q
  cases e : f ρ S with
  | nx ρ1 S1 =>
    rw [e] at q
    exact fun m1 H1 σ1 X1 E1 => ⟨m1, S1, ρ1, X1.rel, E1, SPost.ext X1 q⟩
  | rt d S1 => rw [e] at q; exact q
  | bk ρ1 S1 => rw [e] at q; exact q
  | ct ρ1 S1 => rw [e] at q; exact q
  | bad => rw [e] at q; exact q
theorem psv_pass : PS X (.Pass pos) (rdS svNext) := PS.of ps_pass fun D σ H h => by
  obtain ⟨m, S, ρ, R, E, q⟩ := h
  exact q m H σ (Ext.refl R) E
theorem psv_break : PS X (.Break pos) (rdS fun ρ S => .bk ρ S) := PS.of ps_break fun D σ H h => by
  obtain ⟨m, S, ρ, R, E, q⟩ := h
  exact q m H σ (Ext.refl R) E
theorem psv_cont : PS X (.Continue pos) (rdS fun ρ S => .ct ρ S) := PS.of ps_continue fun D σ H h => by
  obtain ⟨m, S, ρ, R, E, q⟩ := h
  exact q m H σ (Ext.refl R) E
/-- what cannot be taken -/
theorem psv_bad : PS X st (rdS fun _ _ => .bad) := PS.of ps_never fun D σ H h => by
  obtain ⟨m, S, ρ, R, E, q⟩ := h
  exact q
def svExpr (f : Ev) : Sv := fun ρ S => match f ρ S with
  | .ok _ S1 => .nx ρ S1
  | .bad => .bad
def svRet (f : Ev) : Sv := fun ρ S => match f ρ S with
  | .ok d S1 => .rt d S1
  | .bad => .bad
theorem psv_expr (he : PE X e (rdE fe)) (hs : swapsWith e none pos.line X.env = pure false) : PS X (.Expr e pos) (rdS (svExpr fe)) := PS.of (ps_expr he hs) fun D σ H h => by
  obtain ⟨m, S, ρ, R, E, q⟩ := h
  unfold svExpr at q
  cases h1 : fe ρ S with
  | bad => rw [h1] at q; exact q.elim
  | ok d S1 =>
    rw [h1] at q
    exact ⟨m, S, ρ, d, S1, R, E, h1, fun m1 H1 v1 X1 r1 => q m1 H1 σ X1 (E.ext X1)⟩
theorem psv_ret (he : PE X e (rdE fe)) : PS X (.Return (some e) pos) (rdS (svRet fe)) := PS.of (ps_ret he) fun D σ H h => by
  obtain ⟨m, S, ρ, R, E, q⟩ := h
  unfold svRet at q
  cases h1 : fe ρ S with
  | bad => rw [h1] at q; exact q.elim
  | ok d S1 =>
    rw [h1] at q
    exact ⟨m, S, ρ, d, S1, R, E, h1, fun m1 H1 v1 X1 r1 => q m1 H1 v1 X1 r1⟩
def svIf (c : Ev) (f g : Sv) : Sv := fun ρ S => match c ρ S with
  | .ok (.bl b) S1 => match b with
    | true => f ρ S1
    | false => g ρ S1
  | _ => .bad
theorem psv_if {A B : List Stmt} (hc : PT X c (rdT fc)) (ha : PSs X A (rdS f)) (hb : PSs X B (rdS g)) : PS X (.If c A B pos) (rdS (svIf fc f g)) := PS.of (ps_if hc ha hb) fun D σ H h => by
  obtain ⟨m, S, ρ, R, E, q⟩ := h
  unfold svIf at q
  split at q
  · rename_i bb S1 h1
    refine ⟨m, S, ρ, bb, S1, R, E, h1, fun m1 H1 X1 => ?_⟩
    cases bb with
    | true => exact ⟨m1, S1, ρ, X1.rel, E.ext X1, SPost.ext X1 q⟩
    | false => exact ⟨m1, S1, ρ, X1.rel, E.ext X1, SPost.ext X1 q⟩
  · exact q.elim

/-! ### targets -/
abbrev Gv := D → En → Sto → Res En
abbrev Gvs := List D → En → Sto → Res En
/-- only some slots are changed -/
structure Chg (vs : List Nat) (σ σ' : L2.St) : Prop where
  len : σ'.length = σ.length
  get : ∀ i, i ∉ vs → σ'[i]? = σ[i]?
theorem Chg.refl (vs : List Nat) (σ : L2.St) : Chg vs σ σ := ⟨rfl, fun _ _ => rfl⟩
theorem Chg.trans {vs : List Nat} {σ σ1 σ2 : L2.St} (a : Chg vs σ σ1) (b : Chg vs σ1 σ2) : Chg vs σ σ2 := ⟨b.len.trans a.len, fun i h => (b.get i h).trans (a.get i h)⟩
theorem Chg.set {vs : List Nat} {σ : L2.St} {i : Nat} (h : i ∈ vs) (o : Option V) : Chg vs σ (σ.set i o) := ⟨by simp, fun j hj => List.getElem?_set_ne (show i ≠ j from fun e => hj (by rw [← e]; exact h))⟩
def rdG (vs : List Nat) (g : Gv) : TG := fun v σ H Q => ∃ m S ρ d ρ' S', Rel m S H ∧ REnv m S.len H ρ σ ∧ RD m S.len H d v ∧ g d ρ S = .ok ρ' S' ∧ ∀ m' H' σ', Ext m m' S S' H H' → REnv m' S'.len H' ρ' σ' → Chg vs σ σ' → Q σ' H'
def rdGs (sl : List Nat) (g : Gvs) : TGs := fun vs σ H Q => ∃ m S ρ ds ρ' S', Rel m S H ∧ REnv m S.len H ρ σ ∧ RDs m S.len H ds vs ∧ g ds ρ S = .ok ρ' S' ∧ ∀ m' H' σ', Ext m m' S S' H H' → REnv m' S'.len H' ρ' σ' → Chg sl σ σ' → Q σ' H'
theorem PG.of {tg : Expr} {t t' : TG} (h : PG X tg t) (i : ∀ v σ H Q, t' v σ H Q → t v σ H Q) : PG X tg t' := ⟨fun pins s σ H v u Q I r q => h.run pins s σ H v u Q I r (i v σ H Q q)⟩
theorem PGs.of {ts : List Expr} {t t' : TGs} (h : PGs X ts t) (i : ∀ v σ H Q, t' v σ H Q → t v σ H Q) : PGs X ts t' := ⟨fun pins s σ H v u Q I r q => h.run pins s σ H v u Q I r (i v σ H Q q)⟩
def gvName (i : Nat) : Gv := fun d ρ S => .ok (ρ.set i (some d)) S
theorem REnv.set {m : Nat → Addr} {k : Nat} {H : Hp} {ρ : En} {σ : L2.St} {d : D} {v : V} (E : REnv m k H ρ σ) (i : Nat) (h : RD m k H d v) : REnv m k H (ρ.set i (some d)) (σ.set i (some v)) := by
  refine ⟨by simp [E.len], fun j d' e => ?_⟩
  by_cases hj : j = i
  · subst hj
    have hl : j < ρ.length := by
      have := (List.getElem?_eq_some_iff.mp e).1
      simpa using this
    rw [List.getElem?_set_self hl] at e
    cases e
    exact ⟨v, by rw [List.getElem?_set_self (by rw [← E.len]; exact hl)], h⟩
  · rw [List.getElem?_set_ne (Ne.symm hj)] at e
    obtain ⟨w, h1, h2⟩ := E.get j d' e
    exact ⟨w, by rw [List.getElem?_set_ne (Ne.symm hj)]; exact h1, h2⟩
theorem pgv_name {sl : List Nat} {i : Nat} {x : Str} (hsl : i ∈ sl) (hN : X.N.Nodup) (hi : X.N[i]? = some x) (hx : Loc X.env.scope x) (hf : X.fn x = true ∨ X.env.scope.names.lookup x = some .local) : PG X (.Name x pos) (rdG sl (gvName i)) := PG.of (pg_name hN hi hx hf) fun v σ H Q h => by
  obtain ⟨m, S, ρ, d, ρ', S', R, E, r, e, q⟩ := h
  cases e
  exact q m H _ (Ext.refl R) (E.set i r) (Chg.set hsl _)
def gvNil : Gvs := fun ds ρ S => match ds with
  | [] => .ok ρ S
  | _ => .bad
def gvCons (g : Gv) (gs : Gvs) : Gvs := fun ds ρ S => match ds with
  | d :: r => match g d ρ S with
    | .ok ρ1 S1 => gs r ρ1 S1
    | .bad => .bad
  | [] => .bad
theorem pgvs_nil {sl : List Nat} : PGs X [] (rdGs sl gvNil) := PGs.of pgs_nil fun v σ H Q h => by
  obtain ⟨m, S, ρ, d, ρ', S', R, E, r, e, q⟩ := h
  unfold gvNil at e
  split at e
  · cases e; exact ⟨r, q m H σ (Ext.refl R) E (Chg.refl _ _)⟩
  · cases e
theorem pgvs_cons {sl : List Nat} {es : List Expr} {gv : Gv} {gs : Gvs} (h1 : PG X e (rdG sl gv)) (h2 : PGs X es (rdGs sl gs)) (hs : (assignEach (e :: es) X.env).map (·.2) = assign e X.env :: (assignEach es X.env).map (·.2)) : PGs X (e :: es) (rdGs sl (gvCons gv gs)) := PGs.of (pgs_cons h1 h2 hs) fun v σ H Q h => by
  obtain ⟨m, S, ρ, ds, ρ', S', R, E, r, e, q⟩ := h
  unfold gvCons at e
  split at e
  · rename_i d ds
    obtain ⟨w, ws, rfl, r1, r2⟩ := r
    split at e
    · rename_i ρ1 S1 h1
      exact ⟨w, ws, rfl, m, S, ρ, d, ρ1, S1, R, E, r1, h1, fun m1 H1 σ1 X1 E1 C1 => ⟨m1, S1, ρ1, ds, ρ', S', X1.rel, E1, r2.ext X1, e, fun m2 H2 σ2 X2 E2 C2 => q m2 H2 σ2 (X1.trans X2) E2 (C1.trans C2)⟩⟩
    · cases e
  · cases e
def gvTup (n : Nat) (gs : Gvs) : Gv := fun d ρ S => match d with
  | .tup ds => match Nat.beq ds.length n with
    | true => gs ds ρ S
    | false => .bad
  | _ => .bad
theorem pgv_tup {sl : List Nat} {es : List Expr} {k n : Nat} {gs : Gvs} (hc : X.calm = true) (h : PGs X es (rdGs sl gs)) (hn : (assignEach es X.env).length = n) (hst : (assignEach es X.env).findIdx? (·.1) = none) : PG X (.Tuple es k pos) (rdG sl (gvTup n gs)) := PG.of (pg_tup hc h hn hst) fun v σ H Q h => by
  obtain ⟨m, S, ρ, d, ρ', S', R, E, r, e, q⟩ := h
  unfold gvTup at e
  split at e
  · rename_i ds
    obtain ⟨a, vs, rfl, ha, qs⟩ := r
    split at e
    · rename_i hl
      refine ⟨a, vs, rfl, .of ha, ?_, m, S, ρ, ds, ρ', S', R, E, qs, e, q⟩
      rw [← qs.length]
      exact Nat.eq_of_beq_eq_true hl
    · cases e
  · cases e
/-- target = value -/
def svAsg (f : Ev) (g : Gv) : Sv := fun ρ S => match f ρ S with
  | .ok d S1 => match g d ρ S1 with
    | .ok ρ1 S2 => .nx ρ1 S2
    | .bad => .bad
  | .bad => .bad
theorem rd_asg {sl : List Nat} {gv : Gv} {D : Ends} {σ : L2.St} {H : Hp} (h : rdS (svAsg fe gv) D σ H) : tAsg (rdE fe) (rdG sl gv) D σ H := by
  obtain ⟨m, S, ρ, R, E, q⟩ := h
  unfold svAsg at q
  cases h1 : fe ρ S with
  | bad => rw [h1] at q; exact q.elim
  | ok d S1 =>
    rw [h1] at q
    dsimp only at q
    refine ⟨m, S, ρ, d, S1, R, E, h1, fun m1 H1 v1 X1 r1 => ?_⟩
    cases h2 : gv d ρ S1 with
    | bad => rw [h2] at q; exact q.elim
    | ok ρ1 S2 =>
      rw [h2] at q
      exact ⟨m1, S1, ρ, d, ρ1, S2, X1.rel, E.ext X1, r1, h2, fun m2 H2 σ2 X2 E2 _ => q m2 H2 σ2 (X1.trans X2) E2⟩
theorem psv_asg {sl : List Nat} {tg : Expr} {gv : Gv} (he : PE X e (rdE fe)) (hg : PG X tg (rdG sl gv)) (hs : swapsWithSole [tg] e pos.line X.env = pure false) (hw : swappedStores [tg] e X.env = pure none) (h1 : (assignEach [tg] X.env).map (·.2) = [assign tg X.env]) : PS X (.Assign [tg] e pos) (rdS (svAsg fe gv)) :=
  PS.of (ps_asg he hg hs hw h1) fun _ _ _ h => rd_asg h
theorem psv_set {i : Nat} {x : Str} {pos' : Pos} (hN : X.N.Nodup) (hi : X.N[i]? = some x) (hx : Loc X.env.scope x) (he : PE X e (rdE fe)) (hs : swapsWith e (some (.Name x pos')) pos.line X.env = pure false) (hf : X.fn x = true ∨ X.env.scope.names.lookup x = some .local) :
    PS X (.Assign [.Name x pos'] e pos) (rdS (svAsg fe (gvName i))) := PS.of (ps_set hN hi hx he hs hf) fun D σ H h => by
  obtain ⟨m, S, ρ, d, S1, R, E, h1, q⟩ := rd_asg (sl := [i]) h
  refine ⟨m, S, ρ, d, S1, R, E, h1, fun m1 H1 v1 X1 r1 => ?_⟩
  obtain ⟨m2, S2, ρ2, d2, ρ', S', R2, E2, r2, e2, q2⟩ := q m1 H1 v1 X1 r1
  cases e2
  exact q2 m2 H1 _ (Ext.refl R2) (E2.set i r2) (Chg.set (List.mem_singleton.mpr rfl) _)
/-- a, b = x, y -/
theorem psv_par {i j : Nat} {x y : Str} {ga : EvA} {px py pt : Pos} {kt k2 : Nat} {pt2 : Pos} (hc : X.calm = true) (hN : X.N.Nodup) (hi : X.N[i]? = some x) (hj : X.N[j]? = some y) (hij : i ≠ j)
    (hx : X.env.scope.names.lookup x = some .local) (hy : X.env.scope.names.lookup y = some .local) (ha : PA X [a, b] (rdA ga))
    (hw : swappedStores [.Tuple [.Name x px, .Name y py] kt pt] (.Tuple [a, b] k2 pt2) X.env = pure (some [x, y])) :
    PS X (.Assign [.Tuple [.Name x px, .Name y py] kt pt] (.Tuple [a, b] k2 pt2) pos) (rdS (svAsg (evN tupN ga) (gvTup 2 (gvCons (gvName i) (gvCons (gvName j) gvNil))))) := PS.of (ps_par hc hN hi hj hij hx hy ha hw rfl) fun D σ H h => by
  obtain ⟨m, S, ρ, R, E, q⟩ := h
  unfold svAsg evN at q
  cases h1 : ga ρ S with
  | bad => rw [h1] at q; exact q.elim
  | ok ds S1 =>
    rw [h1] at q
    refine ⟨m, S, ρ, ds, S1, R, E, h1, fun m1 H1 v1 X1 r1 => ?_⟩
    dsimp only [tupN] at q
    split at q
    · rename_i d S2 h2
      split at h2
      · cases h2
        simp only [gvTup] at q
        split at q
        · rename_i ρ' S' h3
          split at h3
          · rename_i hl
            have hl := Nat.eq_of_beq_eq_true hl
            obtain ⟨d1, d2, rfl⟩ : ∃ d1 d2, ds = [d1, d2] := by
              match ds, hl with
              | [d1, d2], _ => exact ⟨d1, d2, rfl⟩
            obtain ⟨v, w, rfl, hv, hw⟩ := r1.two
            simp only [gvCons, gvName, gvNil] at h3
            cases h3
            exact ⟨v, w, rfl, q m1 H1 _ X1 (((E.ext X1).set i hv).set j hw)⟩
          · cases h3
        · exact q.elim
      · cases h2
    · exact q.elim
theorem psv_par3 {i j l : Nat} {x y z : Str} {ga : EvA} {px py pz pt : Pos} {kt k2 : Nat} {pt2 : Pos} (hc : X.calm = true) (hN : X.N.Nodup) (hi : X.N[i]? = some x) (hj : X.N[j]? = some y) (hl : X.N[l]? = some z) (hij : i ≠ j) (hil : i ≠ l) (hjl : j ≠ l)
    (hx : X.env.scope.names.lookup x = some .local) (hy : X.env.scope.names.lookup y = some .local) (hz : X.env.scope.names.lookup z = some .local) (ha : PA X [a, b, c] (rdA ga))
    (hw : swappedStores [.Tuple [.Name x px, .Name y py, .Name z pz] kt pt] (.Tuple [a, b, c] k2 pt2) X.env = pure (some [x, y, z])) :
    PS X (.Assign [.Tuple [.Name x px, .Name y py, .Name z pz] kt pt] (.Tuple [a, b, c] k2 pt2) pos) (rdS (svAsg (evN tupN ga) (gvTup 3 (gvCons (gvName i) (gvCons (gvName j) (gvCons (gvName l) gvNil)))))) := PS.of (ps_par3 hc hN hi hj hl hij hil hjl hx hy hz ha hw rfl) fun D σ H h => by
  obtain ⟨m, S, ρ, R, E, q⟩ := h
  unfold svAsg evN at q
  cases h1 : ga ρ S with
  | bad => rw [h1] at q; exact q.elim
  | ok ds S1 =>
    rw [h1] at q
    refine ⟨m, S, ρ, ds, S1, R, E, h1, fun m1 H1 v1 X1 r1 => ?_⟩
    dsimp only [tupN] at q
    split at q
    · rename_i d S2 h2
      split at h2
      · cases h2
        simp only [gvTup] at q
        split at q
        · rename_i ρ' S' h3
          split at h3
          · rename_i hl
            have hl := Nat.eq_of_beq_eq_true hl
            obtain ⟨d1, d2, d3, rfl⟩ : ∃ d1 d2 d3, ds = [d1, d2, d3] := by
              match ds, hl with
              | [d1, d2, d3], _ => exact ⟨d1, d2, d3, rfl⟩
            obtain ⟨u, ws, rfl, hu, hws⟩ := r1
            obtain ⟨v, w, rfl, hv, hw⟩ := hws.two
            simp only [gvCons, gvName, gvNil] at h3
            cases h3
            exact ⟨u, v, w, rfl, q m1 H1 _ X1 ((((E.ext X1).set i hu).set j hv).set l hw)⟩
          · cases h3
        · exact q.elim
      · cases h2
    · exact q.elim
end
end Sw

/-! Eng8a: enumerate over a tuple. -/
namespace PySem
open Sem (wp)
open AutoSeq1 (wpAny_loadPart')
theorem Sw_enumerate_newT (l : Addr) (items : Array Value) (n : Nat) (dct : Option Addr) (sl : Array (Option Value)) :
    Meets (Builtin.«enumerate.__new__» ⟨[.type "enumerate", .ref l], []⟩) (fun _ R s => s.heap.get? l = some { cls := .type "tuple", dict := dct, data := .seq items n, slots := sl } ∧
      R (.ok (.ret (.ref (s.heap.push { cls := .type "tuple_iterator", data := .fields #[.ref l, .int 0 0] }).objs.size)))
        { s with heap := (s.heap.push { cls := .type "tuple_iterator", data := .fields #[.ref l, .int 0 0] }).push { cls := .type "enumerate", data := .fields #[.none, .bool false, .ref s.heap.objs.size, rawInt 0, .none, .none] } }) :=
  .of_wp fun prog w A R s h => by
    obtain ⟨hp, g, d, tk, os⟩ := s; obtain ⟨hl, h⟩ := h
    have hsub := sub_enumerate
    have hL : Heap.IsTuple (Shared.heap ⟨hp, g, d, tk, os⟩) l items := ⟨_, hl, rfl, n, rfl⟩
    wp_walk using wpAny_loadPart' hl
    refine wpAny_stack_any fun st => wpAny_pure ?_
    split
    · rename_i c _ _ _ _ _
      cases (c == Value.type "enumerate")
      · wp_walk using wpAny_loadPart' hl, wpAny_pyIter_tuple hL
        exact ⟨_, rfl, h⟩
      · wp_walk using wpAny_loadPart' hl, wpAny_pyIter_tuple hL
        exact ⟨_, rfl, h⟩
    · wp_walk using wpAny_loadPart' hl, wpAny_pyIter_tuple hL
      exact ⟨_, rfl, h⟩
theorem Sw_enumerate_tuple {prog : Program} {w : World} {A : Around} {E : Value → Shared → Prop} {s : Shared} {l : Addr} {items : Array Value} {Q : Value → Shared → Prop} (hL : s.heap.IsTuple l items)
    (h : ∀ h', IsEnum h' (s.heap.objs.size + 1) s.heap.objs.size 0 .none → h'.IsTupleIter s.heap.objs.size l 0 → h'.objs.size = s.heap.objs.size + 2 →
      (∀ b o, s.heap.get? b = some o → h'.get? b = some o) → Q (.ref (s.heap.objs.size + 1)) { s with heap := h' }) :
    wpAny (model prog w) A (call (.type "enumerate") [.ref l]) Q E s := by
  obtain ⟨⟨c, dct, dt, sl⟩, hl, hc, n, hd⟩ := hL
  replace hc : c = .type "tuple" := hc
  replace hd : dt = .seq items n := hd
  subst hc hd
  refine callType_new F.called_enumerate (by decide) (F.typeCall_enumerate_1 _) (F.newCall_enumerate_1 _) (fun obj => F.args_object_init_2 obj _) F.entry_enumerate_new
    (Sw_enumerate_newT l items n dct sl) ⟨hl, ?_⟩
  have hz : (s.heap.push { cls := .type "tuple_iterator", data := .fields #[.ref l, .int 0 0] }).objs.size = s.heap.objs.size + 1 := Heap.size_push ..
  show _ ∧ _
  rw [hz]
  have he : IsEnum ((s.heap.push { cls := .type "tuple_iterator", data := .fields #[.ref l, .int 0 0] }).push { cls := .type "enumerate", data := .fields #[.none, .bool false, .ref s.heap.objs.size, rawInt 0, .none, .none] }) (s.heap.objs.size + 1) s.heap.objs.size 0 .none := by
    have := Heap.get?_push_size (s.heap.push { cls := .type "tuple_iterator", data := .fields #[.ref l, .int 0 0] }) (o := { cls := .type "enumerate", data := .fields #[.none, .bool false, .ref s.heap.objs.size, rawInt 0, .none, .none] }) rfl
    rw [hz] at this; exact this
  refine ⟨⟨_, he, rfl⟩, h _ he ⟨_, Heap.get?_push_of_some _ (Heap.get?_push_size _ rfl), rfl, rfl⟩ (by rw [Heap.size_push, hz]) fun b o x => Heap.get?_push_of_some _ (Heap.get?_push_of_some _ x)⟩
end PySem
namespace Sw
open PySem PySem.Spec PyProof.Rows L2
def IteT (K : PySem.W.Frag) (a : Addr) : It :=
  ⟨fun i H => ∃ (xs : List V) (x : V), H a = some (.tup xs) ∧ xs[i]? = some x, fun i H v H' => ∃ T x, v = .ref T ∧ H T = none ∧ H' = upd H T (.tup [.int (i : Nat), x]) ∧ ∀ xs, H a = some (.tup xs) → xs[i]? = some x, fun i H => ∃ xs : List V, H a = some (.tup xs) ∧ xs.length = i⟩
theorem turn_enumT {P : Program} {w : World} {K : PySem.W.Frag} {elts : List Expr} {kk : Nat} {tpos : Pos} (a e it : Addr) :
    Turn P w K (.Tuple elts kk tpos) (IteT K a) [e, it] e (fun i h => (∃ old, IsEnum h e it ((i : Nat) : Int) old) ∧ h.IsTupleIter it a i ∧ e ≠ it ∧ a ≠ it ∧ e ≠ a) where
  mem := by simp
  obj := fun i h st b hb => by
    obtain ⟨⟨old, he⟩, ⟨o, ho, hc, hd⟩, _⟩ := st
    have e' : b = e ∨ b = it := by simpa using hb
    rcases e' with z | z
    · rw [z]; exact ⟨_, he, fun v q => nomatch q⟩
    · rw [z]; exact ⟨o, ho, fun v q => by rw [hd] at q; cases q⟩
  keep := fun i h h' st k => let ⟨⟨old, he⟩, hi, hne⟩ := st; ⟨⟨old, k e (by simp) _ he⟩, hi.at fun o q => k it (by simp) o q, hne⟩
  item := by
    intro X hP hw hK hc i pins s σ H E I hf st hg
    subst hP hw hK
    obtain ⟨⟨old, he⟩, hit, hne, hai, hea⟩ := st
    obtain ⟨xs, x, hq, hx⟩ := hg
    obtain ⟨its, rv, p, hz⟩ := I.tuple (.of hq)
    obtain ⟨u, hu, ru⟩ := rv.get hx
    have hel : e < s.heap.objs.size := Heap.lt_size he
    have hil : it < s.heap.objs.size := by obtain ⟨_, q, _⟩ := hit; exact Heap.lt_size q
    have hlt : i < its.toArray.size := by
      have := (List.getElem?_eq_some_iff.mp hu).1
      simpa using this
    refine wpAny_pyNext_enum_itemD (Draws.tuple (A := X.A.in1) (show X.A.in1.handled = none from I.ok.hd hc) it a hai its.toArray) he ⟨hit, p⟩ hlt hne (by simp [hne, hea]) fun y h' tk hy ho hit' hT hsz hk => ?_
    have : y = u := by
      have e1 : its[i]? = some y := by simpa using hy
      rw [hu] at e1
      exact (Option.some.inj e1).symm
    subst this
    refine ⟨_, rfl, wpAny_letOwnedTupleGo_enum (s := { s with heap := h', toks := tk + 1 }) ho fun h'' he' sb => ?_⟩
    have hT2 : h''.get? s.heap.objs.size = some { cls := .type "tuple", data := .seq #[.int i tk, y] } := (sb.2 _ (Nat.ne_of_gt hel)).trans hT
    have new : ObjOk X.prog X.w (upd H s.heap.objs.size (.tup [.int (i : Nat), x])) h'' s.heap.objs.size (.tup [.int (i : Nat), x]) :=
      ⟨by show 2 ≤ sizeLine; decide, [.int i tk, y], .cons ⟨_, rfl⟩ (.cons ru .nil), ⟨_, hT2, rfl, _, rfl⟩⟩
    have I1 : Inv X pins σ (upd H s.heap.objs.size (.tup [.int (i : Nat), x])) { s with heap := h'', toks := tk + 1 } :=
      I.turnedNew (ch := [e, it]) (fun b ob hb q => (sb.2 b (fun z => hb (by simp [z]))).trans (hk b ob (fun z => hb (by simp [z])) (fun z => hb (by simp [z])) q)) hf (Nat.le_refl _) new
    refine ⟨.ref s.heap.objs.size, _, I1, rfl, ⟨_, x, rfl, I.hok.fresh (Nat.le_refl _), rfl, fun ys hy => by rw [hq] at hy; cases hy; exact hx⟩, ⟨⟨y, ?_⟩, hit'.1.at fun o q => (sb.2 it (Ne.symm hne)).trans q, hne, hai, hea⟩, fun b hb => ?_⟩
    · have e1 : ((i + 1 : Nat) : Int) = (i : Int) + 1 := by omega
      rw [e1]; exact he'
    · have hb' : b < s.heap.objs.size := by
        have e' : b = e ∨ b = it := by simpa using hb
        rcases e' with z | z
        · rw [z]; exact hel
        · rw [z]; exact hil
      rw [upd_ne (Nat.ne_of_lt hb')]
      exact (hf b hb).1
  done := by
    intro X hP hw hK hc i pins s σ H E I hf st hg
    subst hP hw hK
    obtain ⟨⟨old, he⟩, hit, hne, hai, hea⟩ := st
    obtain ⟨xs, hq, hx⟩ := hg
    obtain ⟨its, rv, p, hz⟩ := I.tuple (.of hq)
    obtain ⟨f0, f1, f2, f3, f4, f5⟩ := hf it (by simp)
    have hl : its.toArray.size = i := by
      have := rv.length
      simp
      omega
    subst hl
    exact wpAny_pyNext_enum_endD (Draws.tuple (A := X.A.in1) (show X.A.in1.handled = none from I.ok.hd hc) it a hai its.toArray) he ⟨hit, p⟩ fun h' eb => ⟨rfl, I.turned (t' := s.toks) (fun b o hb q => eb b o hb q) f0 f1 f3 f4 f5⟩
  self := fun A i s Q E st h => let ⟨⟨_, he⟩, _⟩ := st; wpAny_pyIter_enum he h
def iEnumT (K : PySem.W.Frag) (ta : TA) : TI := fun σ H R => ta σ H fun vs H1 => ∃ a xs, vs = [.ref a] ∧ H1 a = some (.tup xs) ∧ R (IteT K a) H1
theorem pi_enumT {X : Cx} {e : Expr} {ta : TA} {p pos tpos : Pos} {elts : List Expr} {kk : Nat} (hg : Gl X "enumerate") (hm : X.mg "enumerate" = none) (ha : PA X [e] ta) (hs : starEach [e] X.env = [(false, eval e X.env)]) :
    PI X (.Tuple elts kk tpos) (.Call (.Name "enumerate" p) [e] [] pos) (iEnumT X.K ta) := by
  refine ⟨fun pins s σ H R I h => ?_⟩
  refine Call_ (ld_blt I hg hm boot_enumerate (PyProof.Rows.callWith_type1 (thn (ha.run pos pins s σ H _ I h) fun us s1 ⟨vs, H1, I1, r1, q1⟩ => ?_) hs rfl))
  obtain ⟨a, xs, ex, hq, q⟩ := q1
  subst ex
  cases r1 with
  | cons r rr =>
    cases rr
    cases r
    obtain ⟨its, rv, p', hz⟩ := I1.tuple (.of hq)
    have hal : a < s1.heap.objs.size := I1.hok.lt hq
    refine Sw_enumerate_tuple (show s1.heap.IsTuple a its.toArray from p') fun h' he hit hsz hk => wpAny_pyIter_enum he ?_
    have I2 : Inv X pins σ H1 { s1 with heap := h' } := I1.kept (t' := s1.toks) hk
    refine ⟨s1.heap.objs.size + 1, [s1.heap.objs.size + 1, s1.heap.objs.size], _, _, H1, rfl, I2, turn_enumT a (s1.heap.objs.size + 1) s1.heap.objs.size, ⟨⟨.none, he⟩, hit, Nat.succ_ne_self _, Nat.ne_of_lt hal, fun z => absurd hal (by rw [← z]; exact Nat.not_lt_of_le (Nat.le_succ _))⟩, fun b hb => ?_, q⟩
    have e' : b = s1.heap.objs.size + 1 ∨ b = s1.heap.objs.size := by simpa using hb
    have hle : s1.heap.objs.size ≤ b := by
      rcases e' with z | z
      · rw [z]; exact Nat.le_add_right _ _
      · rw [z]; exact Nat.le_refl _
    exact I1.fpOk hle (I1.hok.fresh hle)
end Sw

/-! Eng8z: zip of any two things whose iterators are known; of a list with a tuple. -/
namespace Sw
open PySem PySem.Spec PyProof.Rows L2
/-- the iterator gives x, and stands one further -/
def Gives (it : Addr) (st st' : Heap → Prop) (x : Value) : Prop := ∀ (prog : Program) (w : World) (A : Around) (E : Value → Shared → Prop) (s : Shared) (Q : Value → Shared → Prop), st s.heap → (∀ h', st' h' → Heap.SameBut it s.heap h' → Q x { s with heap := h' }) → wpAny (model prog w) A (Builtin.SmallTypes.nextOf (.ref it)) Q E s
/-- the iterator is at its end -/
def Stops (it : Addr) (st : Heap → Prop) : Prop := ∀ (prog : Program) (w : World) (A : Around) (E : Value → Shared → Prop) (s : Shared) (Q : Value → Shared → Prop), A.handled = none → st s.heap → (∀ h' e, Heap.ExtBut it s.heap h' → (∃ o, h'.get? e = some o ∧ o.cls = .type "StopIteration") → E (.ref e) { s with heap := h' }) → wpAny (model prog w) A (Builtin.SmallTypes.nextOf (.ref it)) Q E s
/-- what is said of a heap stays if what changes lies at one of these places -/
def Stays (cs : List Addr) (st : Heap → Prop) : Prop := ∀ c ∈ cs, ∀ h h', Heap.ExtBut c h h' → st h → st h'
/-- the places of a zip lie apart -/
structure Apart (z TI TO i1 i2 : Addr) : Prop where
  TIz : TI ≠ z
  TOz : TO ≠ z
  i1z : i1 ≠ z
  i2z : i2 ≠ z
  TITO : TI ≠ TO
  TIi1 : TI ≠ i1
  TIi2 : TI ≠ i2
  TOi1 : TO ≠ i1
  TOi2 : TO ≠ i2
  i12 : i1 ≠ i2
section
variable {prog : Program} {w : World} {A : Around} {E : Value → Shared → Prop} {s : Shared} {z TI TO i1 i2 : Addr} {st1 st1' st2 st2' : Heap → Prop} {x y a b : Value}
theorem zg_item {Q : Value → Shared → Prop} (D : Apart z TI TO i1 i2) (hz : IsZip s.heap z TI TO .none) (hTI : IsPair s.heap TI (.ref i1) (.ref i2)) (hTO : IsPair s.heap TO a b)
    (g1 : Gives i1 st1 st1' x) (g2 : Gives i2 st2 st2' y) (k1 : Stays [z, TO, i2] st1) (k1' : Stays [z, TO, i2] st1') (k2 : Stays [z, TO, i1] st2) (k2' : Stays [z, TO, i1] st2') (h1 : st1 s.heap) (h2 : st2 s.heap)
    (hQ : ∀ h', IsZip h' z TI TO (rawInt s.heap.objs.size) → IsPair h' TO x y → st1' h' → st2' h' → IsPair h' s.heap.objs.size x y → h'.objs.size = s.heap.objs.size + 1 →
      (∀ c o, c ≠ z → c ≠ TO → c ≠ i1 → c ≠ i2 → s.heap.get? c = some o → h'.get? c = some o) → Q (.ref s.heap.objs.size) { s with heap := h' }) :
    wpAny (model prog w) A (Builtin.«zip.__next__» ⟨[.ref z], []⟩) (fun fin s' => ∃ v, fin = .done (.ret v) ∧ Q v s') E s := by
  show wpAny _ _ (field (.ref z) 2 >>= _) _ _ _
  refine wpAny_bind (wpAny_field hz rfl (x := .bool false) rfl ?_)
  show wpAny _ _ (field (.ref z) 3 >>= _) _ _ _
  refine wpAny_bind (wpAny_field hz rfl (x := .ref TI) rfl (wpAny_bind (wpAny_seqItems hTI rfl ?_)))
  show wpAny _ _ (Builtin.SmallTypes.ownedTupleIsFree (.ref z) >>= _) _ _ _
  unfold Builtin.SmallTypes.ownedTupleIsFree
  refine wpAny_bind (wpAny_bind (wpAny_field hz rfl (x := .none) rfl (wpAny_pure ?_)))
  simp only [if_true]
  refine wpAny_bind (wpAny_rule (wpAny_bind (wpAny_field hz rfl (x := .ref TO) rfl (wpAny_bind (wpAny_setField_rec hz (by simp) fun ha za sa => ?_)))))
  replace za : IsZip ha z TI TO .ellipsis := za
  have ea := sa.extBut
  refine wpAny_bind ?_
  simp only [List.zipIdx_cons, List.zipIdx_nil, List.forIn_cons, List.forIn_nil]
  refine wpAny_bind (wpAny_bind (wpAny_onRaise ?_))
  show wpAny _ _ (Builtin.SmallTypes.nextOf (.ref i1) >>= _) _ _ _
  refine wpAny_bind (g1 _ _ _ _ _ _ (k1 z (by simp) _ _ ea h1) fun hb tb sb => wpAny_pure ?_)
  have eb := sb.extBut
  have Tb : IsPair hb TO a b := eb _ _ D.TOi1 (ea _ _ D.TOz hTO)
  refine wpAny_bind (wpAny_seqItems Tb rfl (wpAny_bind (wpAny_updateSeq_pair Tb fun hc Tc sc => ?_)))
  replace Tc : IsPair hc TO x b := Tc
  have ec := sc.extBut
  refine wpAny_bind (wpAny_letGo (wpAny_pure (wpAny_bind (wpAny_bind (wpAny_onRaise ?_)))))
  show wpAny _ _ (Builtin.SmallTypes.nextOf (.ref i2) >>= _) _ _ _
  refine wpAny_bind (g2 _ _ _ _ _ _ (k2 TO (by simp) _ _ ec (k2 i1 (by simp) _ _ eb (k2 z (by simp) _ _ ea h2))) fun hd td sd => wpAny_pure ?_)
  have ed := sd.extBut
  have Td : IsPair hd TO x b := ed _ _ D.TOi2 Tc
  refine wpAny_bind (wpAny_seqItems Td rfl (wpAny_bind (wpAny_updateSeq_pair Td fun he Te se => ?_)))
  replace Te : IsPair he TO x y := Te
  have ee := se.extBut
  refine wpAny_bind (wpAny_letGo (wpAny_pure (wpAny_pure (wpAny_bind (wpAny_seqItems Te rfl (wpAny_bind (wpAny_newTuple ?_)))))))
  have hsz : he.objs.size = s.heap.objs.size := by rw [se.1, sd.1, sc.1, sb.1, sa.1]
  have ze : IsZip he z TI TO .ellipsis := ee _ _ D.TOz.symm (ed _ _ D.i2z.symm (ec _ _ D.TOz.symm (eb _ _ D.i1z.symm za)))
  have keep : ∀ c o, c ≠ z → c ≠ TO → c ≠ i1 → c ≠ i2 → s.heap.get? c = some o → he.get? c = some o := fun c o c1 c2 c3 c4 q => ee _ _ c2 (ed _ _ c4 (ec _ _ c2 (eb _ _ c3 (ea _ _ c1 q))))
  have t1 : st1' he := k1' TO (by simp) _ _ ee (k1' i2 (by simp) _ _ ed (k1' TO (by simp) _ _ ec tb))
  have t2 : st2' he := k2' TO (by simp) _ _ ee td
  have zlt : z < he.objs.size := Heap.lt_size ze
  show wpAny _ _ (Builtin.SmallTypes.ownedTupleHandOut (.ref z) (.ref he.objs.size) >>= _) _ _ _
  unfold Builtin.SmallTypes.ownedTupleHandOut
  have zf : IsZip (he.push { cls := .type "tuple", data := .seq #[x, y] }) z TI TO .ellipsis := Heap.get?_push_of_some _ ze
  refine wpAny_bind (wpAny_bind (wpAny_setField_rec zf (by simp) fun hg zg sg => ?_))
  replace zg : IsZip hg z TI TO (rawInt he.objs.size) := zg
  refine wpAny_setField_rec zg (by simp) fun hh zh sh => ?_
  replace zh : IsZip hh z TI TO (rawInt he.objs.size) := zh
  have up : Heap.ExtBut z he hh := fun c o c1 q => sh.extBut _ _ c1 (sg.extBut _ _ c1 (Heap.get?_push_of_some _ q))
  have Th : IsPair hh he.objs.size x y := sh.extBut _ _ (Nat.ne_of_gt zlt) (sg.extBut _ _ (Nat.ne_of_gt zlt) (Heap.get?_push_size _ rfl))
  have sz : hh.objs.size = he.objs.size + 1 := by rw [sh.1, sg.1, Heap.size_push]
  rw [hsz] at zh Th sz
  refine wpAny_pure ⟨_, rfl, ?_⟩
  show Q (.ref he.objs.size) _
  rw [hsz]
  exact hQ hh zh (up _ _ D.TOz Te) (k1' z (by simp) _ _ up t1) (k2' z (by simp) _ _ up t2) Th sz fun c o c1 c2 c3 c4 q => up c o c1 (keep c o c1 c2 c3 c4 q)
theorem zg_end {Q : Fin → Shared → Prop} (hn : A.handled = none) (D : Apart z TI TO i1 i2) (hz : IsZip s.heap z TI TO .none) (hTI : IsPair s.heap TI (.ref i1) (.ref i2)) (hTO : IsPair s.heap TO a b)
    (k1 : Stays [z, TO, i2] st1) (k2 : Stays [z, TO, i1] st2) (h1 : st1 s.heap) (h2 : st2 s.heap) (g : Stops i1 st1 ∨ (∃ x st1', Gives i1 st1 st1' x) ∧ Stops i2 st2)
    (hE : ∀ h' e, (∀ c o, c ≠ z → c ≠ TO → c ≠ i1 → c ≠ i2 → s.heap.get? c = some o → h'.get? c = some o) → (∃ o, h'.get? e = some o ∧ o.cls = .type "StopIteration") → E (.ref e) { s with heap := h' }) :
    wpAny (model prog w) A (Builtin.«zip.__next__» ⟨[.ref z], []⟩) Q E s := by
  show wpAny _ _ (field (.ref z) 2 >>= _) _ _ _
  refine wpAny_bind (wpAny_field hz rfl (x := .bool false) rfl ?_)
  show wpAny _ _ (field (.ref z) 3 >>= _) _ _ _
  refine wpAny_bind (wpAny_field hz rfl (x := .ref TI) rfl (wpAny_bind (wpAny_seqItems hTI rfl ?_)))
  show wpAny _ _ (Builtin.SmallTypes.ownedTupleIsFree (.ref z) >>= _) _ _ _
  unfold Builtin.SmallTypes.ownedTupleIsFree
  refine wpAny_bind (wpAny_bind (wpAny_field hz rfl (x := .none) rfl (wpAny_pure ?_)))
  simp only [if_true]
  refine wpAny_bind (wpAny_rule (wpAny_bind (wpAny_field hz rfl (x := .ref TO) rfl (wpAny_bind (wpAny_setField_rec hz (by simp) fun ha za sa => ?_)))))
  replace za : IsZip ha z TI TO .ellipsis := za
  have ea := sa.extBut
  refine wpAny_bind ?_
  simp only [List.zipIdx_cons, List.zipIdx_nil, List.forIn_cons, List.forIn_nil]
  refine wpAny_bind (wpAny_bind (wpAny_onRaise ?_))
  show wpAny _ _ (Builtin.SmallTypes.nextOf (.ref i1) >>= _) _ _ _
  rcases g with g | ⟨⟨x, st1', g1⟩, g⟩
  · refine wpAny_bind (g _ _ _ _ _ _ hn (k1 z (by simp) _ _ ea h1) fun hb e eb he => ?_)
    obtain ⟨oe, hoe, hce⟩ := he
    have zb : IsZip hb z TI TO .ellipsis := eb _ _ D.i1z.symm za
    have hez : e ≠ z := fun q => by subst q; rw [zb] at hoe; cases hoe; simp at hce
    exact wpAny_setField_rec zb (by simp) fun hc _ sc => hE hc e (fun c o c1 _ c3 _ q => sc.extBut _ _ c1 (eb _ _ c3 (ea _ _ c1 q))) ⟨oe, sc.extBut _ _ hez hoe, hce⟩
  · refine wpAny_bind (g1 _ _ _ _ _ _ (k1 z (by simp) _ _ ea h1) fun hb tb sb => wpAny_pure ?_)
    have eb := sb.extBut
    have Tb : IsPair hb TO a b := eb _ _ D.TOi1 (ea _ _ D.TOz hTO)
    refine wpAny_bind (wpAny_seqItems Tb rfl (wpAny_bind (wpAny_updateSeq_pair Tb fun hc Tc sc => ?_)))
    have ec := sc.extBut
    refine wpAny_bind (wpAny_letGo (wpAny_pure (wpAny_bind (wpAny_bind (wpAny_onRaise ?_)))))
    show wpAny _ _ (Builtin.SmallTypes.nextOf (.ref i2) >>= _) _ _ _
    refine wpAny_bind (g _ _ _ _ _ _ hn (k2 TO (by simp) _ _ ec (k2 i1 (by simp) _ _ eb (k2 z (by simp) _ _ ea h2))) fun hd e ed he => ?_)
    obtain ⟨oe, hoe, hce⟩ := he
    have zd : IsZip hd z TI TO .ellipsis := ed _ _ D.i2z.symm (ec _ _ D.TOz.symm (eb _ _ D.i1z.symm za))
    have hez : e ≠ z := fun q => by subst q; rw [zd] at hoe; cases hoe; simp at hce
    exact wpAny_setField_rec zd (by simp) fun hf _ sf => hE hf e (fun c o c1 c2 c3 c4 q => sf.extBut _ _ c1 (ed _ _ c4 (ec _ _ c2 (eb _ _ c3 (ea _ _ c1 q))))) ⟨oe, sf.extBut _ _ hez hoe, hce⟩
theorem pz_item {Q : Option Value → Shared → Prop} (D : Apart z TI TO i1 i2) (hz : IsZip s.heap z TI TO .none) (hTI : IsPair s.heap TI (.ref i1) (.ref i2)) (hTO : IsPair s.heap TO a b)
    (g1 : Gives i1 st1 st1' x) (g2 : Gives i2 st2 st2' y) (k1 : Stays [z, TO, i2] st1) (k1' : Stays [z, TO, i2] st1') (k2 : Stays [z, TO, i1] st2) (k2' : Stays [z, TO, i1] st2') (h1 : st1 s.heap) (h2 : st2 s.heap)
    (hQ : ∀ h', IsZip h' z TI TO (rawInt s.heap.objs.size) → IsPair h' TO x y → st1' h' → st2' h' → IsPair h' s.heap.objs.size x y → h'.objs.size = s.heap.objs.size + 1 →
      (∀ c o, c ≠ z → c ≠ TO → c ≠ i1 → c ≠ i2 → s.heap.get? c = some o → h'.get? c = some o) → Q (some (.ref s.heap.objs.size)) { s with heap := h' }) :
    wpAny (model prog w) A (pyNext (.ref z)) Q E s := by
  have hT : s.TypeIs (.ref z) "zip" := ⟨_, hz, rfl⟩
  unfold pyNext
  exact wpAny_bind (wpAny_attempt (wpAny_callSpecial?_slot (name := Str.ofString "__next__") hT F.slot_zip_next
    (wpAny_call_entry F.slot_zip_next hT F.entry_zip_next
      (zg_item D hz hTI hTO g1 g2 k1 k1' k2 k2' h1 h2 fun h' q1 q2 q3 q4 q5 q6 q7 => wpAny_pure (hQ h' q1 q2 q3 q4 q5 q6 q7)) (F.args_zip_next_1 _))))
theorem pz_end {Q : Option Value → Shared → Prop} (hn : A.handled = none) (D : Apart z TI TO i1 i2) (hz : IsZip s.heap z TI TO .none) (hTI : IsPair s.heap TI (.ref i1) (.ref i2)) (hTO : IsPair s.heap TO a b)
    (k1 : Stays [z, TO, i2] st1) (k2 : Stays [z, TO, i1] st2) (h1 : st1 s.heap) (h2 : st2 s.heap) (g : Stops i1 st1 ∨ (∃ x st1', Gives i1 st1 st1' x) ∧ Stops i2 st2)
    (hQ : ∀ h', (∀ c o, c ≠ z → c ≠ TO → c ≠ i1 → c ≠ i2 → s.heap.get? c = some o → h'.get? c = some o) → Q none { s with heap := h' }) : wpAny (model prog w) A (pyNext (.ref z)) Q E s := by
  have hT : s.TypeIs (.ref z) "zip" := ⟨_, hz, rfl⟩
  unfold pyNext
  refine wpAny_bind (wpAny_attempt (wpAny_callSpecial?_slot (name := Str.ofString "__next__") hT F.slot_zip_next
    (wpAny_call_entry F.slot_zip_next hT F.entry_zip_next (zg_end hn D hz hTI hTO k1 k2 h1 h2 g fun h' e hk ⟨o, ho, hc⟩ => ?_) (F.args_zip_next_1 _))))
  exact wpAny_bind (wpAny_isInstance (T := "StopIteration") (b := true) ⟨o, ho, hc⟩ isSubtype_stop (wpAny_pure (hQ _ hk)))
end
/-! ### iterators of lists and of tuples -/
def stL (it l : Addr) (items : Array Value) (i : Nat) (h : Heap) : Prop := h.IsListIter it l i ∧ h.IsList l items
def stT (it l : Addr) (items : Array Value) (i : Nat) (h : Heap) : Prop := h.IsTupleIter it l i ∧ h.IsTuple l items
section
variable {it l : Addr} {items : Array Value} {i : Nat} {x : Value} {cs : List Addr}
theorem stL_gives (hl : l ≠ it) (hx : items[i]? = some x) : Gives it (stL it l items i) (stL it l items (i + 1)) x := fun prog w A E s Q h q => wpAny_nextOf_list_item h.1 h.2 hx fun h' h1 sb => q h' ⟨h1, h.2.extBut sb.extBut hl⟩ sb
theorem stT_gives (hl : l ≠ it) (hx : items[i]? = some x) : Gives it (stT it l items i) (stT it l items (i + 1)) x := fun prog w A E s Q h q => RZ.nextOf_tuple_item h.1 h.2 hx fun h' h1 sb => q h' ⟨h1, h.2.extBut sb.extBut hl⟩ sb
theorem stL_stops (hx : items[i]? = none) : Stops it (stL it l items i) := fun prog w A E s Q hn h q => wpAny_nextOf_list_end hn h.1 h.2 hx q
theorem stT_stops (hx : items[i]? = none) : Stops it (stT it l items i) := fun prog w A E s Q hn h q => RZ.nextOf_tuple_end hn h.1 h.2 hx q
theorem stL_stays (h1 : ∀ c ∈ cs, it ≠ c) (h2 : ∀ c ∈ cs, l ≠ c) : Stays cs (stL it l items i) := fun c hc h h' e q => ⟨q.1.extBut e (h1 c hc), q.2.extBut e (h2 c hc)⟩
theorem stT_stays (h1 : ∀ c ∈ cs, it ≠ c) (h2 : ∀ c ∈ cs, l ≠ c) : Stays cs (stT it l items i) := fun c hc h h' e q => ⟨q.1.extBut e (h1 c hc), q.2.extBut e (h2 c hc)⟩
end
/-! ### zip of a list with a tuple -/
theorem ne3 {p q r x : Addr} (h1 : x ≠ p) (h2 : x ≠ q) (h3 : x ≠ r) : ∀ c ∈ [p, q, r], x ≠ c := fun c hc => by
  simp only [List.mem_cons, List.not_mem_nil, or_false] at hc
  rcases hc with e | e | e
  · rw [e]; exact h1
  · rw [e]; exact h2
  · rw [e]; exact h3
abbrev zm1 (h : Heap) (l1 : Addr) : Heap := h.push { cls := .type "list_iterator", data := .fields #[.ref l1, .int 0 0] }
abbrev zm2 (h : Heap) (l1 l2 : Addr) : Heap := (zm1 h l1).push { cls := .type "tuple_iterator", data := .fields #[.ref l2, .int 0 0] }
abbrev zm3 (h : Heap) (l1 l2 : Addr) : Heap := (zm2 h l1 l2).push { cls := .type "tuple", data := .seq #[.ref h.objs.size, .ref (zm1 h l1).objs.size] }
abbrev zm4 (h : Heap) (l1 l2 : Addr) : Heap := (zm3 h l1 l2).push { cls := .type "tuple", data := .seq #[.none, .none] }
abbrev zm5 (h : Heap) (l1 l2 : Addr) : Heap := (zm4 h l1 l2).push { cls := .type "zip", data := .fields #[.none, .bool false, .bool false, .ref (zm2 h l1 l2).objs.size, .ref (zm3 h l1 l2).objs.size] }
theorem meets_zm (l1 l2 : Addr) (xs ys : Array Value) : Meets (Builtin.«zip.__new__» ⟨[.type "zip", .ref l1, .ref l2], []⟩) (fun _ R s => s.heap.IsList l1 xs ∧ s.heap.IsTuple l2 ys ∧ R (.ok (.ret (.ref (zm4 s.heap l1 l2).objs.size))) { s with heap := zm5 s.heap l1 l2 }) :=
  .of_wp fun prog w A R s h => by
    obtain ⟨hp, g, d, tk, os⟩ := s
    obtain ⟨hl1, hl2, h⟩ := h
    have hsub := sub_zip
    have hL1 : Heap.IsList (Shared.heap ⟨hp, g, d, tk, os⟩) l1 xs := hl1
    have hL2 : Heap.IsTuple (Shared.heap ⟨zm1 hp l1, g, d, tk, os⟩) l2 ys := Heap.IsTuple.push hl2 _
    wp_walk using wpAny_pyIter_list hL1, wpAny_pyIter_tuple hL2
    exact ⟨_, rfl, h⟩
theorem call_zm {prog : Program} {w : World} {A : Around} {E : Value → Shared → Prop} {s : Shared} {l1 l2 : Addr} {xs ys : Array Value} {Q : Value → Shared → Prop} (hl1 : s.heap.IsList l1 xs) (hl2 : s.heap.IsTuple l2 ys)
    (h : ∀ h', IsZip h' (s.heap.objs.size + 4) (s.heap.objs.size + 2) (s.heap.objs.size + 3) .none → IsPair h' (s.heap.objs.size + 2) (.ref s.heap.objs.size) (.ref (s.heap.objs.size + 1)) →
      IsPair h' (s.heap.objs.size + 3) .none .none → h'.IsListIter s.heap.objs.size l1 0 → h'.IsTupleIter (s.heap.objs.size + 1) l2 0 →
      (∀ c o, s.heap.get? c = some o → h'.get? c = some o) → Q (.ref (s.heap.objs.size + 4)) { s with heap := h' }) :
    wpAny (model prog w) A (call (.type "zip") [.ref l1, .ref l2]) Q E s := by
  refine callType_new F.called_zip (by decide) (F.typeCall_zip_2 _ _) (F.newCall_zip_2 _ _) (fun obj => F.args_object_init_3 obj _ _) F.entry_zip_new (meets_zm l1 l2 xs ys) ⟨hl1, hl2, ?_⟩
  have z1 : (zm1 s.heap l1).objs.size = s.heap.objs.size + 1 := Heap.size_push ..
  have z2 : (zm2 s.heap l1 l2).objs.size = s.heap.objs.size + 2 := by rw [Heap.size_push, z1]
  have z3 : (zm3 s.heap l1 l2).objs.size = s.heap.objs.size + 3 := by rw [Heap.size_push, z2]
  have z4 : (zm4 s.heap l1 l2).objs.size = s.heap.objs.size + 4 := by rw [Heap.size_push, z3]
  have up : ∀ {h : Heap} {c o} (n : Obj), h.get? c = some o → (h.push n).get? c = some o := fun n q => Heap.get?_push_of_some _ q
  have g5 : (zm5 s.heap l1 l2).get? (zm4 s.heap l1 l2).objs.size = some _ := Heap.get?_push_size _ rfl
  have g4 : (zm5 s.heap l1 l2).get? (zm3 s.heap l1 l2).objs.size = some _ := up _ (Heap.get?_push_size _ rfl)
  have g3 : (zm5 s.heap l1 l2).get? (zm2 s.heap l1 l2).objs.size = some _ := up _ (up _ (Heap.get?_push_size _ rfl))
  have g2 : (zm5 s.heap l1 l2).get? (zm1 s.heap l1).objs.size = some _ := up _ (up _ (up _ (Heap.get?_push_size _ rfl)))
  have g1 : (zm5 s.heap l1 l2).get? s.heap.objs.size = some _ := up _ (up _ (up _ (up _ (Heap.get?_push_size _ rfl))))
  show _ ∧ _
  rw [z2, z3, z4] at g5
  rw [z1, z2] at g3
  rw [z3] at g4
  rw [z1] at g2
  rw [z4]
  exact ⟨⟨_, g5, rfl⟩, h _ g5 g3 g4 ⟨_, g1, rfl, rfl⟩ ⟨_, g2, rfl, rfl⟩ fun c o q => up _ (up _ (up _ (up _ (up _ q))))⟩
/-- the list at a as it stands at each turn, and the tuple at b -/
def ItzM (K : PySem.W.Frag) (a b : Addr) : It :=
  ⟨fun i H => ∃ (xs ys : List V) (x y : V), SqL K H a xs ∧ SqT K H b ys ∧ xs[i]? = some x ∧ ys[i]? = some y,
    fun i H v H' => ∃ T x y, v = .ref T ∧ H T = none ∧ H' = upd H T (.tup [x, y]) ∧ (∀ xs, SqL K H a xs → xs[i]? = some x) ∧ ∀ ys, SqT K H b ys → ys[i]? = some y,
    fun i H => ∃ xs ys : List V, SqL K H a xs ∧ SqT K H b ys ∧ (xs.length ≤ i ∨ ys.length ≤ i)⟩
theorem turn_zm {P : Program} {w : World} {K : PySem.W.Frag} {elts : List Expr} {kk : Nat} {tpos : Pos} {a b z TI TO i1 i2 : Addr} (D : ZipApart z TI TO i1 i2 a b) :
    Turn P w K (.Tuple elts kk tpos) (ItzM K a b) [z, TI, TO, i1, i2] z (fun i h => IsZip h z TI TO .none ∧ IsPair h TI (.ref i1) (.ref i2) ∧ (∃ x y, IsPair h TO x y) ∧ h.IsListIter i1 a i ∧ h.IsTupleIter i2 b i) where
  mem := by simp
  obj := fun i h st c hc => by
    obtain ⟨hz, hTI, ⟨x, y, hTO⟩, ⟨o1, e1, _, d1⟩, ⟨o2, e2, _, d2⟩⟩ := st
    simp only [List.mem_cons, List.not_mem_nil, or_false] at hc
    rcases hc with rfl | rfl | rfl | rfl | rfl
    · exact ⟨_, hz, fun v q => nomatch q⟩
    · exact ⟨_, hTI, fun v q => nomatch q⟩
    · exact ⟨_, hTO, fun v q => nomatch q⟩
    · exact ⟨o1, e1, fun v q => by rw [d1] at q; cases q⟩
    · exact ⟨o2, e2, fun v q => by rw [d2] at q; cases q⟩
  keep := fun i h h' ⟨hz, hTI, ⟨x, y, hTO⟩, h1, h2⟩ k => ⟨k z (by simp) _ hz, k TI (by simp) _ hTI, ⟨x, y, k TO (by simp) _ hTO⟩, h1.at fun o q => k i1 (by simp) o q, h2.at fun o q => k i2 (by simp) o q⟩
  item := by
    intro X hP hw hK hc i pins s σ H E I hf st hg
    subst hP hw hK
    obtain ⟨hz, hTI, ⟨x0, y0, hTO⟩, h1, h2⟩ := st
    obtain ⟨xs, ys, x, y, hqx, hqy, hx, hy⟩ := hg
    obtain ⟨its, rv, p, _⟩ := I.list hqx
    obtain ⟨its2, rv2, p2, _⟩ := I.tuple hqy
    obtain ⟨u, hu, ru⟩ := rv.get hx
    obtain ⟨u2, hu2, ru2⟩ := rv2.get hy
    have zl : z < s.heap.objs.size := Heap.lt_size hz
    have lt : ∀ c ∈ [z, TI, TO, i1, i2], c < s.heap.objs.size := fun c hcm => by
      simp only [List.mem_cons, List.not_mem_nil, or_false] at hcm
      rcases hcm with rfl | rfl | rfl | rfl | rfl
      · exact zl
      · exact Heap.lt_size hTI
      · exact Heap.lt_size hTO
      · obtain ⟨_, e1, _⟩ := h1; exact Heap.lt_size e1
      · obtain ⟨_, e2, _⟩ := h2; exact Heap.lt_size e2
    have n1 : ∀ c ∈ [z, TO, i2], i1 ≠ c := ne3 D.i1z D.TOi1.symm D.i12
    have n1' : ∀ c ∈ [z, TO, i2], a ≠ c := ne3 D.l1z D.l1TO D.l1i2
    have n2 : ∀ c ∈ [z, TO, i1], i2 ≠ c := ne3 D.i2z D.TOi2.symm D.i12.symm
    have n2' : ∀ c ∈ [z, TO, i1], b ≠ c := ne3 D.l2z D.l2TO D.l2i1
    refine pz_item (x := u) (y := u2) ⟨D.TIz, D.TOz, D.i1z, D.i2z, D.TITO, D.TIi1, D.TIi2, D.TOi1, D.TOi2, D.i12⟩ hz hTI hTO (stL_gives (items := its.toArray) (i := i) D.l1i1 (by simpa using hu)) (stT_gives (items := its2.toArray) (i := i) D.l2i2 (by simpa using hu2))
      (stL_stays n1 n1') (stL_stays n1 n1') (stT_stays n2 n2') (stT_stays n2 n2') ⟨h1, p.isList⟩ ⟨h2, p2⟩ fun h' z' TO' t1 t2 hT hsz hk => ?_
    refine ⟨_, rfl, wpAny_letOwnedTupleGo_zip (s := { s with heap := h' }) z' fun h'' z'' sb => ?_⟩
    have hT2 : h''.get? s.heap.objs.size = some { cls := .type "tuple", data := .seq #[u, u2] } := (sb.2 _ (Nat.ne_of_gt zl)).trans hT
    have new : ObjOk X.prog X.w (upd H s.heap.objs.size (.tup [x, y])) h'' s.heap.objs.size (.tup [x, y]) := ⟨by show 2 ≤ sizeLine; decide, [u, u2], .cons ru (.cons ru2 .nil), ⟨_, hT2, rfl, _, rfl⟩⟩
    have I1 : Inv X pins σ (upd H s.heap.objs.size (.tup [x, y])) { s with heap := h'' } :=
      I.turnedNew (t' := s.toks) (ch := [z, TI, TO, i1, i2]) (fun c o hb q => by
        simp only [List.mem_cons, List.not_mem_nil, or_false, not_or] at hb
        exact (sb.2 c hb.1).trans (hk c o hb.1 hb.2.2.1 hb.2.2.2.1 hb.2.2.2.2 q)) hf (Nat.le_refl _) new
    exact ⟨.ref s.heap.objs.size, _, I1, rfl, ⟨_, x, y, rfl, I.hok.fresh (Nat.le_refl _), rfl, fun l hl => by rw [I.list_inj hl hqx]; exact hx, fun l hl => by rw [I.tuple_inj hl hqy]; exact hy⟩,
      ⟨z'', (sb.2 _ D.TIz).trans (hk _ _ D.TIz D.TITO D.TIi1 D.TIi2 hTI), ⟨u, u2, (sb.2 _ D.TOz).trans TO'⟩, t1.1.at fun o q => (sb.2 _ D.i1z).trans q, t2.1.at fun o q => (sb.2 _ D.i2z).trans q⟩,
      fun c hcm => by rw [upd_ne (Nat.ne_of_lt (lt c hcm))]; exact (hf c hcm).1⟩
  done := by
    intro X hP hw hK hc i pins s σ H E I hf st hg
    subst hP hw hK
    obtain ⟨hz, hTI, ⟨x0, y0, hTO⟩, h1, h2⟩ := st
    obtain ⟨xs, ys, hqx, hqy, hend⟩ := hg
    obtain ⟨its, rv, p, _⟩ := I.list hqx
    obtain ⟨its2, rv2, p2, _⟩ := I.tuple hqy
    have l1 := rv.length
    have l2 := rv2.length
    have n1 : ∀ c ∈ [z, TO, i2], i1 ≠ c := ne3 D.i1z D.TOi1.symm D.i12
    have n1' : ∀ c ∈ [z, TO, i2], a ≠ c := ne3 D.l1z D.l1TO D.l1i2
    have n2 : ∀ c ∈ [z, TO, i1], i2 ≠ c := ne3 D.i2z D.TOi2.symm D.i12.symm
    have n2' : ∀ c ∈ [z, TO, i1], b ≠ c := ne3 D.l2z D.l2TO D.l2i1
    have g : Stops i1 (stL i1 a its.toArray i) ∨ (∃ x st1', Gives i1 (stL i1 a its.toArray i) st1' x) ∧ Stops i2 (stT i2 b its2.toArray i) := by
      cases e : its.toArray[i]? with
      | none => exact .inl (stL_stops e)
      | some x =>
        refine .inr ⟨⟨x, _, stL_gives D.l1i1 e⟩, stT_stops ?_⟩
        have : i < its.length := by have := (Array.getElem?_eq_some_iff.mp e).1; simpa using this
        rcases hend with q | q
        · omega
        · simp; omega
    exact pz_end (I.ok.hd hc) ⟨D.TIz, D.TOz, D.i1z, D.i2z, D.TITO, D.TIi1, D.TIi2, D.TOi1, D.TOi2, D.i12⟩ hz hTI hTO (stL_stays n1 n1') (stT_stays n2 n2') ⟨h1, p.isList⟩ ⟨h2, p2⟩ g fun h' hk => ⟨rfl, I.turnedL (t' := s.toks) (ch := [z, TI, TO, i1, i2]) (fun c o hb q => by
      simp only [List.mem_cons, List.not_mem_nil, or_false, not_or] at hb
      exact hk c o hb.1 hb.2.2.1 hb.2.2.2.1 hb.2.2.2.2 q) hf⟩
  self := fun A i s Q E st h => wpAny_pyIter_zip st.1 h
def iZipM (K : PySem.W.Frag) (ta : TA) : TI := fun σ H R => ta σ H fun vs H1 => ∃ a b xs ys, vs = [.ref a, .ref b] ∧ SqL K H1 a xs ∧ SqT K H1 b ys ∧ R (ItzM K a b) H1
theorem pi_zipM {X : Cx} {e e2 : Expr} {ta : TA} {p pos tpos : Pos} {elts : List Expr} {kk : Nat} (hg : Gl X "zip") (hm : X.mg "zip" = none) (ha : PA X [e, e2] ta)
    (hs : starEach [e, e2] X.env = (false, eval e X.env) :: starEach [e2] X.env) (hpl : (backTo pos (starEach [e2] X.env)).any (·.1) = false) :
    PI X (.Tuple elts kk tpos) (.Call (.Name "zip" p) [e, e2] [] pos) (iZipM X.K ta) := by
  refine ⟨fun pins s σ H R I h => ?_⟩
  refine Call_ (ld_blt I hg hm PyProof.Rows.boot_zip (PyProof.Rows.callWith_type1 (thn (ha.run pos pins s σ H _ I h) fun us s1 ⟨vs, H1, I1, r1, q1⟩ => ?_) hs hpl))
  obtain ⟨a, b, xs, ys, rfl, hqx, hqy, q⟩ := q1
  cases r1 with
  | cons r rr =>
    cases rr with
    | cons r' rr =>
      cases rr
      cases r
      cases r'
      obtain ⟨its, rv, p1, _⟩ := I1.list hqx
      obtain ⟨its2, rv2, p2, _⟩ := I1.tuple hqy
      obtain ⟨o2, ho2, _⟩ := id p2
      refine call_zm p1.isList (show s1.heap.IsTuple b its2.toArray from p2) fun h' hz hTI hTO h1 h2 hk => wpAny_pyIter_zip hz ?_
      refine ⟨s1.heap.objs.size + 4, [s1.heap.objs.size + 4, s1.heap.objs.size + 2, s1.heap.objs.size + 3, s1.heap.objs.size, s1.heap.objs.size + 1], _, _, H1, rfl, I1.kept (t' := s1.toks) hk, turn_zm (PySem.W.ktu_apart s1.heap.objs.size a b p1.lt (Heap.lt_size ho2)), ⟨hz, hTI, ⟨_, _, hTO⟩, h1, h2⟩, fun c hcm => ?_, q⟩
      have hle : s1.heap.objs.size ≤ c := by
        simp only [List.mem_cons, List.not_mem_nil, or_false] at hcm
        rcases hcm with rfl | rfl | rfl | rfl | rfl
        · exact Nat.le_add_right _ _
        · exact Nat.le_add_right _ _
        · exact Nat.le_add_right _ _
        · exact Nat.le_refl _
        · exact Nat.le_add_right _ _
      exact I1.fpOk hle (I1.hok.fresh hle)
end Sw

/-! Eng9: loops. -/
namespace Sw
open PySem PySem.Spec PyProof.Rows L2

/-! ### while -/
def svWhile (c : Ev) (f : Sv) : Nat → Sv
  | 0, _, _ => .bad
  | n + 1, ρ, S => match c ρ S with
    | .ok (.bl b) S1 => match b with
      | true => match f ρ S1 with
        | .nx ρ1 S2 => svWhile c f n ρ1 S2
        | .ct ρ1 S2 => svWhile c f n ρ1 S2
        | .bk ρ1 S2 => .nx ρ1 S2
        | .rt d S2 => .rt d S2
        | .bad => .bad
      | false => .nx ρ S1
    | _ => .bad
section
variable {X : Cx} {st : Stmt} {f : Sv} {e c tg iter : Expr} {fc fe : Ev} {pos : Pos} {body : List Stmt}
theorem psv_while {n : Nat} (hp : PassesOwn (model X.prog X.w) X.A X.env X.xe) (hc : PT X c (rdT fc)) (hb : PSs X body (rdS f)) : PS X (.While c body [] pos) (rdS (svWhile fc f n)) := PS.of (ps_while hp hc hb) fun D σ H h => by
  obtain ⟨m, S, ρ, R, E, q⟩ := h
  refine ⟨fun k σ H => ∃ m S ρ, Rel m S H ∧ REnv m S.len H ρ σ ∧ SPost m S H D (svWhile fc f k ρ S), ⟨n, m, S, ρ, R, E, q⟩, ?_⟩
  rintro k σ H ⟨m, S, ρ, R, E, q⟩
  cases k with
  | zero => exact q.elim
  | succ k =>
    simp only [svWhile] at q
    split at q
    · rename_i b S1 h1
      refine ⟨m, S, ρ, b, S1, R, E, h1, fun m1 H1 X1 => ?_⟩
      cases b with
      | false =>
        rw [if_neg Bool.false_ne_true]
        exact q m1 H1 σ X1 (E.ext X1)
      | true =>
        rw [if_pos rfl]
        dsimp only at q
        refine ⟨fun σ H => ∃ m S ρ, Rel m S H ∧ REnv m S.len H ρ σ ∧ SPost m S H D (svWhile fc f k ρ S), fun σ' H' z => ⟨k, Nat.lt_succ_self k, z⟩, m1, S1, ρ, X1.rel, E.ext X1, ?_⟩
        cases h2 : f ρ S1 with
        | nx ρ1 S2 => rw [h2] at q; exact fun m2 H2 σ2 X2 E2 => ⟨m2, S2, ρ1, X2.rel, E2, SPost.ext (X1.trans X2) q⟩
        | ct ρ1 S2 => rw [h2] at q; exact fun m2 H2 σ2 X2 E2 => ⟨m2, S2, ρ1, X2.rel, E2, SPost.ext (X1.trans X2) q⟩
        | bk ρ1 S2 => rw [h2] at q; exact fun m2 H2 σ2 X2 E2 => q m2 H2 σ2 (X1.trans X2) E2
        | rt d S2 => rw [h2] at q; exact fun m2 H2 v2 X2 r2 => q m2 H2 v2 (X1.trans X2) r2
        | bad => rw [h2] at q; exact q
    · exact q.elim

/-! ### what is walked -/
inductive Src where
  | items (ds : List D)
  | live (n : Nat)
  | range (lo : Int) (n : Nat)
  | enumI (ds : List D)
  | enumL (n : Nat)
  | zipI (xs ys : List D)
  | zipL (n k : Nat)
  | zipM (n : Nat) (ys : List D)
/-- the item of a turn: none: it is no more known; some none: the end -/
def Src.next (S : Sto) (i : Nat) : Src → Option (Option D)
  | .items ds => some ds[i]?
  | .live n => match S.list? n with
    | some xs => some xs[i]?
    | none => none
  | .range lo n => match Nat.blt i n with
    | true => some (some (.int (lo + i)))
    | false => some none
  | .enumI ds => match ds[i]? with
    | some d => some (some (.tup [.int (i : Nat), d]))
    | none => match Nat.beq ds.length i with
      | true => some none
      | false => none
  | .enumL n => match S.list? n with
    | some xs => match xs[i]? with
      | some d => some (some (.tup [.int (i : Nat), d]))
      | none => some none
    | none => none
  | .zipI xs ys => match xs[i]?, ys[i]? with
    | some a, some b => some (some (.tup [a, b]))
    | _, _ => some none
  | .zipL n k => match S.list? n, S.list? k with
    | some xs, some ys => match xs[i]?, ys[i]? with
      | some a, some b => some (some (.tup [a, b]))
      | _, _ => some none
    | _, _ => none
  | .zipM n ys => match S.list? n with
    | some xs => match xs[i]?, ys[i]? with
      | some a, some b => some (some (.tup [a, b]))
      | _, _ => some none
    | none => none
/-- how many turns at most -/
def Src.turns (S : Sto) : Src → Nat
  | .items ds => ds.length
  | .live n => match S.list? n with
    | some xs => xs.length
    | none => 0
  | .range _ n => n
  | .enumI ds => ds.length
  | .enumL n => match S.list? n with
    | some xs => xs.length
    | none => 0
  | .zipI xs _ => xs.length
  | .zipL n _ => match S.list? n with
    | some xs => xs.length
    | none => 0
  | .zipM n _ => match S.list? n with
    | some xs => xs.length
    | none => 0
def ItOk (m0 : Nat → Addr) (S0 : Sto) (H0 : Hp) (src : Src) (J : It) : Prop := ∀ m S H i, ExtX m0 m S0 S H0 H →
  (∀ d, src.next S i = some (some d) → J.go i H ∧ ∀ x H', J.yld i H x H' → Ext m m S S H H' ∧ RD m S.len H' d x) ∧ (src.next S i = some none → J.stop i H)
abbrev Iv := En → Sto → Res Src
def rdI (f : Iv) : TI := fun σ H R => ∃ m S ρ src S', Rel m S H ∧ REnv m S.len H ρ σ ∧ f ρ S = .ok src S' ∧ ∀ m' H' J, Ext m m' S S' H H' → ItOk m' S' H' src J → R J H'
theorem PI.of {wi wi' : TI} (h : PI X tg iter wi) (i : ∀ σ H R, wi' σ H R → wi σ H R) : PI X tg iter wi' := ⟨fun pins s σ H R I q => h.run pins s σ H R I (i σ H R q)⟩
theorem PI.or {w1 w2 : TI} (h1 : PI X tg iter w1) (h2 : PI X tg iter w2) : PI X tg iter (fun σ H R => w1 σ H R ∨ w2 σ H R) := ⟨fun pins s σ H R I q => q.elim (h1.run pins s σ H R I) (h2.run pins s σ H R I)⟩

def svFor (src : Src) (g : Gv) (f : Sv) : Nat → Nat → Sv
  | 0, _, _, _ => .bad
  | k + 1, i, ρ, S => match src.next S i with
    | some (some d) => match g d ρ S with
      | .ok ρ1 S1 => match f ρ1 S1 with
        | .nx ρ2 S2 => svFor src g f k (i + 1) ρ2 S2
        | .ct ρ2 S2 => svFor src g f k (i + 1) ρ2 S2
        | .bk ρ2 S2 => .nx ρ2 S2
        | .rt d S2 => .rt d S2
        | .bad => .bad
      | .bad => .bad
    | some none => .nx ρ S
    | none => .bad
def svForI (fi : Iv) (g : Gv) (f : Sv) : Sv := fun ρ S => match fi ρ S with
  | .ok src S1 => svFor src g f (src.turns S1 + 1) 0 ρ S1
  | .bad => .bad
theorem psv_for {sl : List Nat} {fi : Iv} {g : Gv} (hp : PassesOwn (model X.prog X.w) X.A X.env X.xe) (hc : X.calm = true) (hi : PI X tg iter (rdI fi)) (hg : PG X tg (rdG sl g)) (hb : PSs X body (rdS f)) (hs : ∀ x, foldedSetIterable iter X.env x = pure x) : PS X (.For tg iter body [] pos) (rdS (svForI fi g f)) := PS.of (ps_for hp hc hi hg hb hs) fun D σ H h => by
  obtain ⟨m, S, ρ, R, E, q⟩ := h
  unfold svForI at q
  cases h0 : fi ρ S with
  | bad => rw [h0] at q; exact q.elim
  | ok src S0 =>
    rw [h0] at q
    dsimp only at q
    refine ⟨m, S, ρ, src, S0, R, E, h0, fun m0 H0 J X0 OK => ?_⟩
    refine ⟨fun i k σ H => ∃ m S ρ, Ext m0 m S0 S H0 H ∧ REnv m S.len H ρ σ ∧ SPost m S H D (svFor src g f k i ρ S), ⟨_, m0, S0, ρ, Ext.refl X0.rel, E.ext X0, SPost.ext X0 q⟩, ?_⟩
    rintro i k σ H ⟨m, S, ρ, X1, E, q⟩
    cases k with
    | zero => exact q.elim
    | succ k =>
      simp only [svFor] at q
      obtain ⟨ok1, ok2⟩ := OK m S H i X1.x
      split at q
      · rename_i d hd
        obtain ⟨go, yl⟩ := ok1 d hd
        refine .inr ⟨go, fun σ H => ∃ m S ρ, Ext m0 m S0 S H0 H ∧ REnv m S.len H ρ σ ∧ SPost m S H D (svFor src g f k (i + 1) ρ S), fun σ' H' z => ⟨k, Nat.lt_succ_self k, z⟩, fun x H' y => ?_⟩
        obtain ⟨X2, rx⟩ := yl x H' y
        split at q
        · rename_i ρ1 S1 hg1
          refine ⟨m, S, ρ, d, ρ1, S1, X2.rel, E.ext X2, rx, hg1, fun m3 H3 σ3 X3 E3 _ => ⟨m3, S1, ρ1, X3.rel, E3, ?_⟩⟩
          have X23 := X2.trans X3
          cases h2 : f ρ1 S1 with
          | nx ρ2 S2 => rw [h2] at q; exact fun m4 H4 σ4 X4 E4 => ⟨m4, S2, ρ2, X1.trans (X23.trans X4), E4, SPost.ext (X23.trans X4) q⟩
          | ct ρ2 S2 => rw [h2] at q; exact fun m4 H4 σ4 X4 E4 => ⟨m4, S2, ρ2, X1.trans (X23.trans X4), E4, SPost.ext (X23.trans X4) q⟩
          | bk ρ2 S2 => rw [h2] at q; exact fun m4 H4 σ4 X4 E4 => q m4 H4 σ4 (X23.trans X4) E4
          | rt d S2 => rw [h2] at q; exact fun m4 H4 v4 X4 r4 => q m4 H4 v4 (X23.trans X4) r4
          | bad => rw [h2] at q; exact q
        · exact q.elim
      · rename_i hd
        exact .inl ⟨ok2 hd, q m H σ (Ext.refl X1.rel) E⟩
      · exact q.elim

/-! ### the walked things -/
def ivE (fe : Ev) : Iv := fun ρ S => match fe ρ S with
  | .ok (.tup ds) S1 => .ok (.items ds) S1
  | .ok (.ref n) S1 => match S1.list? n with
    | some _ => .ok (.live n) S1
    | none => .bad
  | _ => .bad
theorem live_sq {K : Frg} {m0 m : Nat → Addr} {S0 S : Sto} {H0 H : Hp} {n : Nat} {xs : List D} (X : ExtX m0 m S0 S H0 H) (hn : n < S0.len) (h : S.list? n = some xs) : ∃ vs, SqL K H (m0 n) vs ∧ RDs m S.len H xs vs := by
  obtain ⟨vs, h1, h2, _⟩ := X.rel.sqL (K := K) h
  rw [X.ag n hn] at h1
  exact ⟨vs, h1, h2⟩
theorem itOk_live {K : Frg} {m0 : Nat → Addr} {S0 : Sto} {H0 : Hp} {n : Nat} (hn : n < S0.len) : ItOk m0 S0 H0 (.live n) (Itl K (m0 n)) := fun m S H i X1 => by
  refine ⟨fun d hd => ?_, fun hd => ?_⟩
  · simp only [Src.next] at hd
    split at hd
    · rename_i xs hl
      have hd : xs[i]? = some d := Option.some.inj hd
      obtain ⟨vs, h1, h2⟩ := live_sq (K := K) X1 hn hl
      obtain ⟨v, h3, h4⟩ := h2.get hd
      exact ⟨⟨vs, v, h1, h3⟩, fun x H' y => by
        obtain ⟨rfl, y⟩ := y
        have := y vs h1
        rw [h3] at this
        cases this
        exact ⟨Ext.refl X1.rel, h4⟩⟩
    · cases hd
  · simp only [Src.next] at hd
    split at hd
    · rename_i xs hl
      have hd : xs[i]? = none := Option.some.inj hd
      obtain ⟨vs, h1, h2⟩ := live_sq (K := K) X1 hn hl
      exact ⟨vs, h1, by rw [← h2.length]; exact List.getElem?_eq_none_iff.mp hd⟩
    · cases hd
theorem itOk_items {K : Frg} {m0 : Nat → Addr} {S0 : Sto} {H0 : Hp} {ds : List D} {a : Addr} {vs : List V} (ha : H0 a = some (.tup vs)) (hs : RDs m0 S0.len H0 ds vs) : ItOk m0 S0 H0 (.items ds) (Itt K a) := fun m S H i X1 => by
  have ha1 := X1.keep.tup _ _ (noT_tup ha)
  have hs1 := hs.extX X1
  refine ⟨fun d hd => ?_, fun hd => ?_⟩
  · have hd : ds[i]? = some d := Option.some.inj hd
    obtain ⟨v, h3, h4⟩ := hs1.get hd
    exact ⟨⟨vs, v, .of ha1, h3⟩, fun x H' y => by
      obtain ⟨rfl, y⟩ := y
      have := y vs (.of ha1)
      rw [h3] at this
      cases this
      exact ⟨Ext.refl X1.rel, h4⟩⟩
  · have hd : ds[i]? = none := Option.some.inj hd
    exact ⟨vs, .of ha1, by rw [← hs1.length]; exact List.getElem?_eq_none_iff.mp hd⟩
theorem piv_e (he : PE X e (rdE fe)) : PI X tg e (rdI (ivE fe)) := PI.of (PI.or (pi_list he) (pi_tup he)) fun σ H Rr h => by
  obtain ⟨m, S, ρ, src, S', R, E, e0, q⟩ := h
  unfold ivE at e0
  split at e0
  · rename_i ds S1 h1
    cases e0
    exact .inr ⟨m, S, ρ, _, _, R, E, h1, fun m1 H1 v1 X1 r1 => by
      obtain ⟨a, vs, rfl, ha, qs⟩ := r1
      exact ⟨a, rfl, ⟨vs, .of ha⟩, q m1 H1 _ X1 (itOk_items ha qs)⟩⟩
  · rename_i n S1 h1
    split at e0
    · rename_i xs hl
      cases e0
      exact .inl ⟨m, S, ρ, _, _, R, E, h1, fun m1 H1 v1 X1 r1 => by
        obtain ⟨vs, h2, _⟩ := X1.rel.sqL (K := X.K) hl
        exact ⟨_, r1.2, ⟨vs, h2⟩, q m1 H1 _ X1 (itOk_live r1.1)⟩⟩
    · cases e0
  · cases e0
def okR (i : Int) : Bool := decide (-(2 ^ 62) ≤ i) && decide (i < 2 ^ 62)
def ivR1 (g : EvA) : Iv := fun ρ S => match g ρ S with
  | .ok [.int j] S1 => match okR j with
    | true => .ok (.range 0 j.toNat) S1
    | false => .bad
  | _ => .bad
def ivR2 (g : EvA) : Iv := fun ρ S => match g ρ S with
  | .ok [.int i, .int j] S1 => match okR i && okR j with
    | true => .ok (.range i (j - i).toNat) S1
    | false => .bad
  | _ => .bad
theorem itOk_range {m0 : Nat → Addr} {S0 : Sto} {H0 : Hp} {lo : Int} {n : Nat} : ItOk m0 S0 H0 (.range lo n) (Itr lo n) := fun m S H i X1 => by
  refine ⟨fun d hd => ?_, fun hd => ?_⟩
  · simp only [Src.next] at hd
    split at hd
    · rename_i h
      cases hd
      exact ⟨Nat.le_of_ble_eq_true h, fun x H' y => by
        obtain ⟨rfl, rfl⟩ := y
        exact ⟨Ext.refl X1.rel, rfl⟩⟩
    · cases hd
  · simp only [Src.next] at hd
    split at hd
    · cases hd
    · rename_i h
      show n ≤ i
      by_cases z : i < n
      · rw [show Nat.blt i n = true from Nat.ble_eq_true_of_le z] at h; cases h
      · omega
theorem okR_ok {i : Int} (h : okR i = true) : -(2 ^ 62) ≤ i ∧ i < 2 ^ 62 := by
  unfold okR at h
  simp only [Bool.and_eq_true, decide_eq_true_eq] at h
  exact h
theorem piv_range1 {a : Expr} {g : EvA} {p : Pos} (hg : Gl X "range") (hm : X.mg "range" = none) (ha : PA X [a] (rdA g)) (hs : starEach [a] X.env = [(false, eval a X.env)]) : PI X tg (.Call (.Name "range" p) [a] [] pos) (rdI (ivR1 g)) := PI.of (pi_range1 hg hm ha hs) fun σ H Rr h => by
  obtain ⟨m, S, ρ, src, S', R, E, e0, q⟩ := h
  unfold ivR1 at e0
  split at e0
  · rename_i j S1 h1
    split at e0
    · rename_i hj
      cases e0
      exact ⟨m, S, ρ, _, _, R, E, h1, fun m1 H1 v1 X1 r1 => by
        obtain ⟨v, rfl, hv⟩ := r1.one1
        exact ⟨j, by rw [show v = _ from hv], (okR_ok hj).1, (okR_ok hj).2, q m1 H1 _ X1 itOk_range⟩⟩
    · cases e0
  · cases e0
theorem piv_range2 {a b : Expr} {g : EvA} {p : Pos} (hg : Gl X "range") (hm : X.mg "range" = none) (ha : PA X [a, b] (rdA g)) (hs : starEach [a, b] X.env = [(false, eval a X.env), (false, eval b X.env)]) (hs2 : starEach [b] X.env = [(false, eval b X.env)]) : PI X tg (.Call (.Name "range" p) [a, b] [] pos) (rdI (ivR2 g)) := PI.of (pi_range2 hg hm ha hs hs2) fun σ H Rr h => by
  obtain ⟨m, S, ρ, src, S', R, E, e0, q⟩ := h
  unfold ivR2 at e0
  split at e0
  · rename_i i j S1 h1
    split at e0
    · rename_i hj
      cases e0
      obtain ⟨hj1, hj2⟩ := Bool.and_eq_true_iff.mp hj
      exact ⟨m, S, ρ, _, _, R, E, h1, fun m1 H1 v1 X1 r1 => by
        obtain ⟨v, w, rfl, hv, hw⟩ := r1.two
        exact ⟨i, j, by rw [show v = _ from hv, show w = _ from hw], ⟨(okR_ok hj1).1, (okR_ok hj1).2, (okR_ok hj2).1, (okR_ok hj2).2⟩, q m1 H1 _ X1 itOk_range⟩⟩
    · cases e0
  · cases e0
def ivEnum (g : EvA) : Iv := fun ρ S => match g ρ S with
  | .ok [.tup ds] S1 => .ok (.enumI ds) S1
  | .ok [.ref n] S1 => match S1.list? n with
    | some _ => .ok (.enumL n) S1
    | none => .bad
  | _ => .bad
theorem pairRD {m : Nat → Addr} {S : Sto} {H : Hp} (R : Rel m S H) {T : Addr} {d d' : D} {x y : V} (hT : H T = none) (h : RD m S.len H d x) (h' : RD m S.len H d' y) : Ext m m S S H (upd H T (.tup [x, y])) ∧ RD m S.len (upd H T (.tup [x, y])) (.tup [d, d']) (.ref T) :=
  ⟨Ext.tup R hT, RD.newTup R hT ⟨x, [y], rfl, h, y, [], rfl, h', rfl⟩⟩
theorem itOk_enumL {K : Frg} {m0 : Nat → Addr} {S0 : Sto} {H0 : Hp} {n : Nat} (hn : n < S0.len) : ItOk m0 S0 H0 (.enumL n) (Ite K (m0 n)) := fun m S H i X1 => by
  refine ⟨fun d hd => ?_, fun hd => ?_⟩
  · simp only [Src.next] at hd
    split at hd
    · rename_i xs hl
      split at hd
      · rename_i d0 h0
        cases hd
        obtain ⟨vs, h1, h2⟩ := live_sq (K := K) X1 hn hl
        obtain ⟨v, h3, h4⟩ := h2.get h0
        exact ⟨⟨vs, v, h1, h3⟩, fun x H' y => by
          obtain ⟨T, x0, rfl, hT, rfl, y⟩ := y
          have := y vs h1
          rw [h3] at this
          cases this
          exact pairRD X1.rel hT rfl h4⟩
      · cases hd
    · cases hd
  · simp only [Src.next] at hd
    split at hd
    · rename_i xs hl
      split at hd
      · cases hd
      · rename_i h0
        obtain ⟨vs, h1, h2⟩ := live_sq (K := K) X1 hn hl
        exact ⟨vs, h1, by rw [← h2.length]; exact List.getElem?_eq_none_iff.mp h0⟩
    · cases hd
theorem itOk_enumI {K : Frg} {m0 : Nat → Addr} {S0 : Sto} {H0 : Hp} {ds : List D} {a : Addr} {vs : List V} (ha : H0 a = some (.tup vs)) (hs : RDs m0 S0.len H0 ds vs) : ItOk m0 S0 H0 (.enumI ds) (IteT K a) := fun m S H i X1 => by
  have ha1 := X1.keep.tup _ _ (noT_tup ha)
  have hs1 := hs.extX X1
  refine ⟨fun d hd => ?_, fun hd => ?_⟩
  · simp only [Src.next] at hd
    split at hd
    · rename_i d0 h0
      cases hd
      obtain ⟨v, h3, h4⟩ := hs1.get h0
      exact ⟨⟨vs, v, ha1, h3⟩, fun x H' y => by
        obtain ⟨T, x0, rfl, hT, rfl, y⟩ := y
        have := y vs ha1
        rw [h3] at this
        cases this
        exact pairRD X1.rel hT rfl h4⟩
    · split at hd
      · cases hd
      · cases hd
  · simp only [Src.next] at hd
    split at hd
    · cases hd
    · split at hd
      · rename_i hb
        exact ⟨vs, ha1, by rw [← hs1.length]; exact Nat.eq_of_beq_eq_true hb⟩
      · cases hd
theorem piv_enum {a : Expr} {g : EvA} {p tpos : Pos} {elts : List Expr} {kk : Nat} (hg : Gl X "enumerate") (hm : X.mg "enumerate" = none) (ha : PA X [a] (rdA g)) (hs : starEach [a] X.env = [(false, eval a X.env)]) : PI X (.Tuple elts kk tpos) (.Call (.Name "enumerate" p) [a] [] pos) (rdI (ivEnum g)) := PI.of (PI.or (pi_enum hg hm ha hs) (pi_enumT hg hm ha hs)) fun σ H Rr h => by
  obtain ⟨m, S, ρ, src, S', R, E, e0, q⟩ := h
  unfold ivEnum at e0
  split at e0
  · rename_i ds S1 h1
    cases e0
    exact .inr ⟨m, S, ρ, _, _, R, E, h1, fun m1 H1 v1 X1 r1 => by
      obtain ⟨v, rfl, a, vs, rfl, ha, qs⟩ := r1.one1
      exact ⟨a, vs, rfl, ha, q m1 H1 _ X1 (itOk_enumI ha qs)⟩⟩
  · rename_i n S1 h1
    split at e0
    · rename_i xs hl
      cases e0
      exact .inl ⟨m, S, ρ, _, _, R, E, h1, fun m1 H1 v1 X1 r1 => by
        obtain ⟨v, rfl, hn, rfl⟩ := r1.one1
        obtain ⟨vs, h2, _⟩ := X1.rel.sqL (K := X.K) hl
        exact ⟨_, vs, rfl, h2, q m1 H1 _ X1 (itOk_enumL hn)⟩⟩
    · cases e0
  · cases e0
def ivZip (g : EvA) : Iv := fun ρ S => match g ρ S with
  | .ok [.tup xs, .tup ys] S1 => .ok (.zipI xs ys) S1
  | .ok [.ref n, .ref k] S1 => match S1.list? n, S1.list? k with
    | some _, some _ => .ok (.zipL n k) S1
    | _, _ => .bad
  | .ok [.ref n, .tup ys] S1 => match S1.list? n with
    | some _ => .ok (.zipM n ys) S1
    | none => .bad
  | _ => .bad
theorem itOk_zipM {K : Frg} {m0 : Nat → Addr} {S0 : Sto} {H0 : Hp} {n : Nat} {ys : List D} {b : Addr} {ws : List V} (hn : n < S0.len) (hb : H0 b = some (.tup ws)) (hs' : RDs m0 S0.len H0 ys ws) : ItOk m0 S0 H0 (.zipM n ys) (ItzM K (m0 n) b) := fun m S H i X1 => by
  have hb1 := X1.keep.tup _ _ (noT_tup hb)
  have hs2 := hs'.extX X1
  refine ⟨fun d hd => ?_, fun hd => ?_⟩
  · simp only [Src.next] at hd
    split at hd
    · rename_i xs hl
      split at hd
      · rename_i a0 b0 h0 h0'
        cases hd
        obtain ⟨vs, h1, h2⟩ := live_sq (K := K) X1 hn hl
        obtain ⟨v, h3, h4⟩ := h2.get h0
        obtain ⟨w, g3, g4⟩ := hs2.get h0'
        exact ⟨⟨vs, ws, v, w, h1, .of hb1, h3, g3⟩, fun x H' y => by
          obtain ⟨T, x0, y0, rfl, hT, rfl, y1, y2⟩ := y
          have := y1 vs h1
          rw [h3] at this
          cases this
          have := y2 ws (.of hb1)
          rw [g3] at this
          cases this
          exact pairRD X1.rel hT h4 g4⟩
      · cases hd
    · cases hd
  · simp only [Src.next] at hd
    split at hd
    · rename_i xs hl
      split at hd
      · cases hd
      · rename_i hno
        obtain ⟨vs, h1, h2⟩ := live_sq (K := K) X1 hn hl
        refine ⟨vs, ws, h1, .of hb1, ?_⟩
        rw [← h2.length, ← hs2.length]
        by_cases z : i < xs.length
        · by_cases z' : i < ys.length
          · exact (hno _ _ (List.getElem?_eq_getElem z) (List.getElem?_eq_getElem z')).elim
          · exact .inr (by omega)
        · exact .inl (by omega)
    · cases hd
theorem itOk_zipL {K : Frg} {m0 : Nat → Addr} {S0 : Sto} {H0 : Hp} {n k : Nat} (hn : n < S0.len) (hk : k < S0.len) : ItOk m0 S0 H0 (.zipL n k) (Itz K (m0 n) (m0 k)) := fun m S H i X1 => by
  refine ⟨fun d hd => ?_, fun hd => ?_⟩
  · simp only [Src.next] at hd
    split at hd
    · rename_i xs ys hl hl'
      split at hd
      · rename_i a b h0 h0'
        cases hd
        obtain ⟨vs, h1, h2⟩ := live_sq (K := K) X1 hn hl
        obtain ⟨ws, g1, g2⟩ := live_sq (K := K) X1 hk hl'
        obtain ⟨v, h3, h4⟩ := h2.get h0
        obtain ⟨w, g3, g4⟩ := g2.get h0'
        exact ⟨⟨vs, ws, v, w, h1, g1, h3, g3⟩, fun x H' y => by
          obtain ⟨T, x0, y0, rfl, hT, rfl, y1, y2⟩ := y
          have := y1 vs h1
          rw [h3] at this
          cases this
          have := y2 ws g1
          rw [g3] at this
          cases this
          exact pairRD X1.rel hT h4 g4⟩
      · cases hd
    · cases hd
  · simp only [Src.next] at hd
    split at hd
    · rename_i xs ys hl hl'
      split at hd
      · cases hd
      · rename_i hno
        obtain ⟨vs, h1, h2⟩ := live_sq (K := K) X1 hn hl
        obtain ⟨ws, g1, g2⟩ := live_sq (K := K) X1 hk hl'
        refine ⟨vs, ws, h1, g1, ?_⟩
        rw [← h2.length, ← g2.length]
        by_cases z : i < xs.length
        · by_cases z' : i < ys.length
          · exact (hno _ _ (List.getElem?_eq_getElem z) (List.getElem?_eq_getElem z')).elim
          · exact .inr (by omega)
        · exact .inl (by omega)
    · cases hd
theorem itOk_zipI {K : Frg} {m0 : Nat → Addr} {S0 : Sto} {H0 : Hp} {xs ys : List D} {a b : Addr} {vs ws : List V} (ha : H0 a = some (.tup vs)) (hs : RDs m0 S0.len H0 xs vs) (hb : H0 b = some (.tup ws)) (hs' : RDs m0 S0.len H0 ys ws) : ItOk m0 S0 H0 (.zipI xs ys) (RZ.ItzT K a b) := fun m S H i X1 => by
  have ha1 := X1.keep.tup _ _ (noT_tup ha)
  have hs1 := hs.extX X1
  have hb1 := X1.keep.tup _ _ (noT_tup hb)
  have hs2 := hs'.extX X1
  refine ⟨fun d hd => ?_, fun hd => ?_⟩
  · simp only [Src.next] at hd
    split at hd
    · rename_i a0 b0 h0 h0'
      cases hd
      obtain ⟨v, h3, h4⟩ := hs1.get h0
      obtain ⟨w, g3, g4⟩ := hs2.get h0'
      exact ⟨⟨vs, ws, v, w, .of ha1, .of hb1, h3, g3⟩, fun x H' y => by
        obtain ⟨T, x0, y0, rfl, hT, rfl, y1, y2⟩ := y
        have := y1 vs (.of ha1)
        rw [h3] at this
        cases this
        have := y2 ws (.of hb1)
        rw [g3] at this
        cases this
        exact pairRD X1.rel hT h4 g4⟩
    · cases hd
  · simp only [Src.next] at hd
    split at hd
    · cases hd
    · rename_i hno
      refine ⟨vs, ws, .of ha1, .of hb1, ?_⟩
      rw [← hs1.length, ← hs2.length]
      by_cases z : i < xs.length
      · by_cases z' : i < ys.length
        · exact (hno _ _ (List.getElem?_eq_getElem z) (List.getElem?_eq_getElem z')).elim
        · exact .inr (by omega)
      · exact .inl (by omega)
theorem piv_zip {a b : Expr} {g : EvA} {p tpos : Pos} {elts : List Expr} {kk : Nat} (hg : Gl X "zip") (hm : X.mg "zip" = none) (ha : PA X [a, b] (rdA g)) (hs : starEach [a, b] X.env = [(false, eval a X.env), (false, eval b X.env)]) (hs2 : starEach [b] X.env = [(false, eval b X.env)]) : PI X (.Tuple elts kk tpos) (.Call (.Name "zip" p) [a, b] [] pos) (rdI (ivZip g)) := PI.of (PI.or (RZ.pi_zipA hg hm ha (by rw [hs, hs2]) (by rw [hs2]; rfl)) (pi_zipM hg hm ha (by rw [hs, hs2]) (by rw [hs2]; rfl))) fun σ H Rr h => by
  obtain ⟨m, S, ρ, src, S', R, E, e0, q⟩ := h
  unfold ivZip at e0
  split at e0
  · rename_i xs ys S1 h1
    cases e0
    exact .inl ⟨m, S, ρ, _, _, R, E, h1, fun m1 H1 v1 X1 r1 => by
      obtain ⟨v, w, rfl, ⟨a, vs, rfl, ha, qs⟩, b, ws, rfl, hb, qs'⟩ := r1.two
      exact ⟨a, b, vs, ws, rfl, .inr ⟨.of ha, .of hb, q m1 H1 _ X1 (itOk_zipI ha qs hb qs')⟩⟩⟩
  · rename_i n k S1 h1
    split at e0
    · rename_i xs ys hl hl'
      cases e0
      exact .inl ⟨m, S, ρ, _, _, R, E, h1, fun m1 H1 v1 X1 r1 => by
        obtain ⟨v, w, rfl, ⟨hn, rfl⟩, hk, rfl⟩ := r1.two
        obtain ⟨vs, h2, _⟩ := X1.rel.sqL (K := X.K) hl
        obtain ⟨ws, h3, _⟩ := X1.rel.sqL (K := X.K) hl'
        exact ⟨_, _, vs, ws, rfl, .inl ⟨h2, h3, q m1 H1 _ X1 (itOk_zipL hn hk)⟩⟩⟩
    · cases e0
  · rename_i n ys S1 h1
    split at e0
    · rename_i xs hl
      cases e0
      exact .inr ⟨m, S, ρ, _, _, R, E, h1, fun m1 H1 v1 X1 r1 => by
        obtain ⟨v, w, rfl, ⟨hn, rfl⟩, b, ws, rfl, hb, qs'⟩ := r1.two
        obtain ⟨vs, h2, _⟩ := X1.rel.sqL (K := X.K) hl
        exact ⟨_, _, vs, ws, rfl, h2, .of hb, q m1 H1 _ X1 (itOk_zipM hn hb qs')⟩⟩
    · cases e0
  · cases e0
end
end Sw

/-! Eng10: list comprehensions. -/
namespace Sw
open PySem PySem.Spec PyProof.Rows L2
def wipeE (ρ : En) : List Nat → En
  | [] => ρ
  | v :: vs => (wipeE ρ vs).set v none
theorem wipeE_length (ρ : En) : ∀ vs : List Nat, (wipeE ρ vs).length = ρ.length
  | [] => rfl
  | v :: vs => by unfold wipeE; rw [List.length_set, wipeE_length ρ vs]
theorem wipeE_some {ρ : En} {i : Nat} {x : D} : ∀ {vs : List Nat}, (wipeE ρ vs)[i]? = some (some x) → ρ[i]? = some (some x) ∧ i ∉ vs
  | [], h => ⟨h, by simp⟩
  | v :: vs, h => by
    unfold wipeE at h
    by_cases hi : v = i
    · subst hi
      by_cases hv : v < (wipeE ρ vs).length
      · rw [List.getElem?_set_self hv] at h; cases h
      · rw [List.getElem?_eq_none (by simpa using hv)] at h; cases h
    · rw [List.getElem?_set_ne hi] at h
      obtain ⟨h1, h2⟩ := wipeE_some h
      exact ⟨h1, by simp only [List.mem_cons, not_or]; exact ⟨fun e => hi e.symm, h2⟩⟩
theorem wipe_get {σ : L2.St} : ∀ {vs : List Nat} {i : Nat}, (wipe σ vs)[i]? = if i ∈ vs then (if i < σ.length then some none else none) else σ[i]?
  | [], i => by simp [wipe]
  | v :: vs, i => by
    unfold wipe
    by_cases hi : v = i
    · subst hi
      by_cases hv : v < σ.length
      · rw [List.getElem?_set_self (by rw [wipe_length]; exact hv)]
        simp [hv]
      · rw [List.getElem?_eq_none (by simp [wipe_length]; omega)]
        simp [hv]
    · rw [List.getElem?_set_ne hi, wipe_get]
      have : (i ∈ v :: vs) ↔ i ∈ vs := by simp [Ne.symm hi]
      simp only [this]
theorem wipe_chg {vs : List Nat} {σ σ' : L2.St} (c : Chg vs (wipe σ vs) σ') : wipe σ' vs = wipe σ vs := by
  apply List.ext_getElem?
  intro i
  rw [wipe_get, wipe_get]
  have hl : σ'.length = σ.length := by rw [c.len, wipe_length]
  by_cases h : i ∈ vs
  · rw [if_pos h, if_pos h, hl]
  · rw [if_neg h, if_neg h, c.get i h, wipe_get, if_neg h]
theorem REnv.wipe {m : Nat → Addr} {k : Nat} {H : Hp} {ρ : En} {σ : L2.St} (E : REnv m k H ρ σ) (vs : List Nat) : REnv m k H (wipeE ρ vs) (L2.wipe σ vs) := by
  refine ⟨by rw [wipeE_length, wipe_length]; exact E.len, fun i d h => ?_⟩
  obtain ⟨h1, h2⟩ := wipeE_some h
  obtain ⟨v, h3, h4⟩ := E.get i d h1
  exact ⟨v, by rw [wipe_get, if_neg h2]; exact h3, h4⟩
/-- the turns of a comprehension whose list has the number n -/
def compL (src : Src) (n : Nat) (g : Gv) (ft fe : Ev) (ρ : En) : Nat → Nat → Sto → Res D
  | 0, _, _ => .bad
  | k + 1, i, S => match src.next S i with
    | some (some d) => match g d ρ S with
      | .ok ρ1 S1 => match ft ρ1 S1 with
        | .ok (.bl b) S2 => match b with
          | true => match fe ρ1 S2 with
            | .ok y S3 => match S3.objs[n]? with
              | some (.lst acc) => match fits (acc.length + 1) with
                | true => compL src n g ft fe ρ k (i + 1) (S3.put n (.lst (acc ++ [y])) (y.blw 0))
                | false => .bad
              | _ => .bad
            | .bad => .bad
          | false => compL src n g ft fe ρ k (i + 1) S2
        | _ => .bad
      | .bad => .bad
    | some none => .ok (.ref n) S
    | none => .bad
def evComp (fi : Iv) (vs : List Nat) (g : Gv) (ft fe : Ev) : Ev := fun ρ S => match fi ρ S with
  | .ok src S1 => compL src S1.len g ft fe (wipeE ρ vs) (src.turns S1 + 1) 0 (S1.add (.lst []))
  | .bad => .bad
section
variable {X : Cx}
theorem ptsv_nil : PTs X [] (rdT (evC (.bl true))) := ⟨fun pins s σ H Q I h => pts_nil.run pins s σ H Q I (rdT_C h)⟩
theorem ptsv_one {c : Expr} {fc : Ev} (h : PT X c (rdT fc)) : PTs X [c] (rdT fc) := pts_one h
theorem rd_comp {fi : Iv} {vs : List Nat} {g : Gv} {ft fe : Ev} {σ : L2.St} {H : Hp} {Q : VK} (h : rdE (evComp fi vs g ft fe) σ H Q) : tLc (rdI fi) (rdG vs g) (rdT ft) (rdE fe) vs σ H Q := by
  obtain ⟨m, S, ρ, d, S', R, E, e, q⟩ := h
  unfold evComp at e
  cases h0 : fi ρ S with
  | bad => rw [h0] at e; cases e
  | ok src S1 =>
    rw [h0] at e
    dsimp only at e
    refine ⟨m, S, ρ, src, S1, R, E, h0, fun m0 H0 J X0 OK L hL => ?_⟩
    have XA : Ext m0 (withAt m0 S1.len L) S1 (S1.add (.lst [])) H0 (upd H0 L (.lst [])) := Ext.add X0.rel hL ⟨[], upd_same, rfl⟩
    have hml : withAt m0 S1.len L S1.len = L := withAt_same ..
    have hln : S1.len < (S1.add (.lst [])).len := by rw [Sto.add_len]; exact Nat.lt_succ_self _
    generalize withAt m0 S1.len L = mA at XA hml
    generalize S1.add (.lst []) = SA at e XA hln
    generalize upd H0 L (.lst []) = HA at XA
    generalize S1.len = n at e hml hln
    refine ⟨fun i k H => ∃ m2 S2, Ext mA m2 SA S2 HA H ∧ ∃ d S', compL src n g ft fe (wipeE ρ vs) k i S2 = .ok d S' ∧ ∀ m' H' v, Ext m2 m' S2 S' H H' → RD m' S'.len H' d v → Q v H', ⟨_, mA, SA, Ext.refl XA.rel, d, S', e, fun m' H' v X' r' => q m' H' v (X0.trans (XA.trans X')) r'⟩, ?_⟩
    rintro i k H ⟨m2, S2, X2, d, S', e, q⟩
    have hm2 : m2 n = L := by rw [X2.ag n hln]; exact hml
    have X02 := X0.trans (XA.trans X2)
    have E2 := E.ext X02
    cases k with
    | zero => cases e
    | succ k =>
      simp only [compL] at e
      obtain ⟨ok1, ok2⟩ := OK m2 S2 H i (XA.trans X2).x
      split at e
      · rename_i d0 hd
        obtain ⟨go, yl⟩ := ok1 d0 hd
        refine .inr ⟨go, fun H => ∃ m2 S2, Ext mA m2 SA S2 HA H ∧ ∃ d S', compL src n g ft fe (wipeE ρ vs) k (i + 1) S2 = .ok d S' ∧ ∀ m' H' v, Ext m2 m' S2 S' H H' → RD m' S'.len H' d v → Q v H', fun H' z => ⟨k, Nat.lt_succ_self k, z⟩, fun x H' y => ?_⟩
        obtain ⟨XY, rx⟩ := yl x H' y
        split at e
        · rename_i ρ1 S3 h3
          refine ⟨m2, S2, wipeE ρ vs, d0, ρ1, S3, XY.rel, (E2.ext XY).wipe vs, rx, h3, fun m3 H3 σ3 X3 E3 C3 => ⟨wipe_chg C3, ?_⟩⟩
          split at e
          · rename_i b S4 h4
            refine ⟨m3, S3, ρ1, b, S4, X3.rel, E3, h4, fun m4 H4 X4 => ?_⟩
            have X24 := XY.trans (X3.trans X4)
            cases b with
            | false =>
              dsimp only
              rw [if_neg Bool.false_ne_true]
              exact ⟨m4, S4, X2.trans X24, d, S', e, fun m' H' v X' r' => q m' H' v (X24.trans X') r'⟩
            | true =>
              dsimp only at e ⊢
              rw [if_pos rfl]
              split at e
              · rename_i y0 S5 h5
                refine ⟨m4, S4, ρ1, y0, S5, X4.rel, E3.ext X4, h5, fun m5 H5 v5 X5 r5 => ?_⟩
                split at e
                · rename_i acc ha
                  split at e
                  · rename_i hf
                    have X25 := X24.trans X5
                    have hm5 : m5 n = L := by rw [X25.ag n (Nat.lt_of_lt_of_le hln X2.len)]; exact hm2
                    obtain ⟨ws, hw1, hw2⟩ := X5.rel.obj _ _ ha
                    have X6 := goPut (ok := y0.blw 0) X5.rel ha hw1 (hw2.append (.one r5)) (fun z b hb => by rw [blws_append, hb]; simp only [D.blws, below_mono (Nat.zero_le b) _ z, Bool.and_self])
                    rw [hm5] at hw1 X6
                    refine ⟨ws, hw1, ?_, m5, _, X2.trans (X25.trans X6), d, S', e, fun m' H' v X' r' => q m' H' v (X25.trans (X6.trans X')) r'⟩
                    have := fits_le hf
                    rw [hw2.length] at this
                    omega
                  · cases e
                · cases e
              · cases e
          · cases e
        · cases e
      · rename_i hd
        cases e
        exact .inl ⟨ok2 hd, q m2 H _ (Ext.refl X2.rel) ⟨Nat.lt_of_lt_of_le hln X2.len, by rw [hm2]⟩⟩
      · cases e
variable {elt tg iter : Expr} {ifs : List Expr} {scope : Scope} {own : List (Str × Nat)} {pos : Pos} {fi : Iv} {g : Gv} {ft fe : Ev}
theorem pev_comp (hc : X.calm = true) (hN : X.N.Nodup) (hi : PI X tg iter (rdI fi)) (ok : BlkOk X.N X.env.scope scope own)
    (hg : ∀ (s : Shared) (H : Hp) (C : Addr) (cl : List (Str × Addr)) (fp : List Addr), PG (X.blk s H scope (compEnvC scope cl C X.env) fp) tg (rdG (own.map (·.2)) g)) (ht : ∀ (s : Shared) (H : Hp) (C : Addr) (cl : List (Str × Addr)) (fp : List Addr), PTs (X.blk s H scope (compEnvC scope cl C X.env) fp) ifs (rdT ft))
    (he : ∀ (s : Shared) (H : Hp) (C : Addr) (cl : List (Str × Addr)) (fp : List Addr), PE (X.blk s H scope (compEnvC scope cl C X.env) fp) elt (rdE fe)) (hs : ∀ x, foldedSetIterable iter X.env x = pure x) :
    PE X (.ListComp elt [⟨tg, iter, ifs, 0⟩] scope pos) (rdE (evComp fi (own.map (·.2)) g ft fe)) := PE.of (pe_lc hc hN hi ok hg ht he hs) fun _ _ _ h => rd_comp h
theorem psv_setComp {i : Nat} {y : Str} {py spos : Pos} (hc : X.calm = true) (hN : X.N.Nodup) (hy : X.N[i]? = some y) (hyl : X.env.scope.names.lookup y = some .local)
    (hsw : swapsWith (.ListComp elt [⟨tg, iter, ifs, 0⟩] scope pos) (some (.Name y py)) spos.line X.env = pure true) (hi : PI X tg iter (rdI fi)) (ok : BlkOk X.N X.env.scope scope own)
    (hg : ∀ (s : Shared) (H : Hp) (C : Addr) (cl : List (Str × Addr)) (fp : List Addr), PG (X.blk s H scope (compEnvC scope cl C X.env) fp) tg (rdG (own.map (·.2)) g)) (ht : ∀ (s : Shared) (H : Hp) (C : Addr) (cl : List (Str × Addr)) (fp : List Addr), PTs (X.blk s H scope (compEnvC scope cl C X.env) fp) ifs (rdT ft))
    (he : ∀ (s : Shared) (H : Hp) (C : Addr) (cl : List (Str × Addr)) (fp : List Addr), PE (X.blk s H scope (compEnvC scope cl C X.env) fp) elt (rdE fe)) (hs : ∀ x, foldedSetIterable iter X.env x = pure x) :
    PS X (.Assign [.Name y py] (.ListComp elt [⟨tg, iter, ifs, 0⟩] scope pos) spos) (rdS (svAsg (evComp fi (own.map (·.2)) g ft fe) (gvName i))) := PS.of (ps_setLc hc hN hy hyl hsw hi ok hg ht he hs) fun D σ H h => by
  obtain ⟨m, S, ρ, d, S1, R, E, h1, q⟩ := rd_asg (sl := [i]) h
  have h2 : rdE (evComp fi (own.map (·.2)) g ft fe) σ H (fun x H1 => gName i x σ H1 D.nx) := ⟨m, S, ρ, d, S1, R, E, h1, fun m1 H1 v1 X1 r1 => by
    obtain ⟨m2, S2, ρ2, d2, ρ', S', R2, E2, r2, e2, q2⟩ := q m1 H1 v1 X1 r1
    cases e2
    exact q2 m2 H1 _ (Ext.refl R2) (E2.set i r2) (Chg.set (List.mem_singleton.mpr rfl) _)⟩
  exact rd_comp h2
end
end Sw

/-! Eng10b: promises of defs that are called where no repr is under way (guards). -/
namespace Sw
open PySem PySem.Spec PyProof.Rows L2
abbrev NoG (A : Around) : Prop := A.guards = some []
theorem nog_deeper {A : Around} (h : NoG A) (env : Env) : NoG (A.deeper env) := h
structure FnG (P : Program) (w : World) (K : Frg) (mg : Str → Option Value) (base : Heap) (k : Nat) (f : Addr) (fd : FuncData) (ps : List Str) (sp : Sp) : Prop where
  len : ∀ vs H Q E, sp vs H Q E → vs.length = ps.length
  run : ∀ (A : Around) (outer : List Env) (s : Shared) (H : Hp) (args : Args) (us : List Value) (vs : List V) (Q : VK) (E : XK), Room k A → NoG A → Env0 P w K mg base A outer s H → BindsTo s fd args (ps.zip us) → Vals vs us → sp vs H Q E →
    codeAny (model P w) A (.call (.ref f) args) (CR CX0 outer P w H s Q E) s
theorem FnG.mono {P : Program} {w : World} {K : Frg} {mg : Str → Option Value} {base : Heap} {j k : Nat} {f : Addr} {fd : FuncData} {ps : List Str} {sp : Sp} (F : FnG P w K mg base j f fd ps sp) (h : j ≤ k) : FnG P w K mg base k f fd ps sp :=
  ⟨F.len, fun A outer s H args us vs Q E hr => F.run A outer s H args us vs Q E (hr.mono h)⟩
theorem FnG.imp {P : Program} {w : World} {K : Frg} {mg : Str → Option Value} {base : Heap} {k : Nat} {f : Addr} {fd : FuncData} {ps : List Str} {sp sp' : Sp} (F : FnG P w K mg base k f fd ps sp) (h : ∀ vs H Q E, sp' vs H Q E → sp vs H Q E) : FnG P w K mg base k f fd ps sp' :=
  ⟨fun vs H Q E q => F.len vs H Q E (h _ _ _ _ q), fun A outer s H args us vs Q E hr hg he hb hv hs => F.run A outer s H args us vs Q E hr hg he hb hv (h _ _ _ _ hs)⟩
theorem fnG_of {P : Program} {w : World} {K : Frg} {mg : Str → Option Value} {base : Heap} {k : Nat} {f : Addr} {x : Str} {params : Arguments} {body : List Stmt} {scope : Scope} {fd : FuncData} {N ps : List Str} {sp : Sp} (F : FunD K x x params body scope [] [] f fd) (S : FnScope N ps scope)
    (len : ∀ vs H Q E, sp vs H Q E → vs.length = ps.length)
    (hbody : ∀ (cdv : Value) (A : Around) (outer : List Env) (s : Shared) (H : Hp) (vs : List V) (Q : VK) (E : XK), Room k (A.deeper (envOfC x scope s.heap.objs.size f cdv)) → NoG (A.deeper (envOfC x scope s.heap.objs.size f cdv)) → sp vs H Q E →
      ∃ t, PSs (cxOf CX0 P w K mg base N x scope f cdv A outer s H E) body t ∧ t { nx := fun _ H' => Q .non H', rt := Q } (L2.start N vs) H) : FnG P w K mg base (k + 1) f fd ps sp := by
  obtain ⟨oc, od, dV, kV, doc, pm, an, cdv, ct, osl, rfl, lk, hcd, _, _⟩ := F.ex
  refine ⟨len, fun A outer s H args us vs Q E hr hg e0 hb r hsp => ?_⟩
  have l0 := len _ _ _ _ hsp
  have kin : K.In s.heap := e0.mod.kin.keeps fun b o z => (e0.bs b o z).1
  have nolim : s.heap.NoLimit := e0.mod.nolimit.keeps fun b o z => (e0.bs b o z).1
  have kinds : ∀ y ∈ ps.zip us, scope.names.lookup y.1 = some .local ∨ (scope.names.lookup y.1 = some .cell ∧ ((cellsFrom (s.heap.objs.size + 1) scope.names []).lookup y.1).isSome = true) := fun ⟨n, v⟩ hy =>
    (S.par n (List.of_mem_zip hy).1).elim .inl fun z => .inr ⟨z, PySem.W.cellsFrom_some _ _ _ (.inl z)⟩
  refine codeAny_call_function hr.depth (kin _ _ lk) rfl S.co S.gen rfl (PySem.W.codeRec_of kin hcd) (hb _ _ _ _ ?_)
  refine wpAny_newFunctionEnv_cells S.kind kinds fun env he s1 z => ?_
  subst he
  refine ⟨nolim.keeps z.toInCall.keep, codeAny_func ?_⟩
  obtain ⟨t, ht, hq⟩ := hbody cdv A outer s H vs Q E (hr.deeper _) (nog_deeper hg _) hsp
  have I : Inv (cxOf CX0 P w K mg base N x scope f cdv A outer s H E) [] (L2.start N vs) H s1 := inv_start S hr.hd e0 l0 r z
  refine wpAny_mono (ht.run [] s1 (L2.start N vs) H _ I hq) (fun fl s' hs => ?_) fun e s' hs => hs
  cases fl with
  | ret u =>
    obtain ⟨v, σ', H', J, rv, q⟩ := hs
    exact ⟨v, H', J.os, J.bare, J.base, J.hok, rv, q⟩
  | next =>
    obtain ⟨σ', H', J, q⟩ := hs
    exact ⟨.non, H', J.os, J.bare, J.base, J.hok, rfl, q⟩
  | brk =>
    obtain ⟨σ', H', J, q⟩ := hs
    exact False.elim q
  | cont =>
    obtain ⟨σ', H', J, q⟩ := hs
    exact False.elim q
section
variable {X : Cx} {k : Nat} {f : Addr} {fd : FuncData} {ps : List Str} {sp : Sp} {x : Str} {p pos : Pos} {e : Expr} {es : List Expr} {t : TA}
theorem run_G {pins : List (Addr × Obj)} {σ : L2.St} {H : Hp} {s : Shared} {Q : VK} {us : List Value} {vs : List V} (F : FnG X.prog X.w X.K X.mg X.base k f fd ps sp) (hr : Room k X.A) (hn : NoG X.A) (hb : Binds X.K fd ps [])
    (I : Inv X pins σ H s) (r : Vals vs us) (h : sp vs H Q E0) : wpAny (model X.prog X.w) X.A (call (.ref f) us) (EP X pins σ Q) X.xe s := by
  have hl : us.length = ps.length := by rw [← r.length]; exact F.len _ _ _ _ h
  have bt := hb s us I.kIn (by simpa using hl)
  rw [List.append_nil] at bt
  refine wpAny_call (codeAny_mono (F.run X.A X.stack s H ⟨us, []⟩ us vs Q E0 hr hn I.env0 bt r h) fun res s' hq => ?_)
  cases res with
  | error e => exact (show False from hq).elim
  | ok fl => cases fl with
    | ret u => exact I.after hq
    | next => exact (show False from hq).elim
    | brk => exact (show False from hq).elim
    | cont => exact (show False from hq).elim
theorem pe_callG (F : FnG X.prog X.w X.K X.mg X.base k f fd ps sp) (hr : Room k X.A) (hn : NoG X.A) (hg : Gl X x) (hm : X.mg x = some (.ref f)) (hk : PySem.W.keepIn X.K (.ref f) = true) (hb : Binds X.K fd ps [])
    (ha : PA X (e :: es) t) (hdb : (x == ("__debug__" : Str)) = false) (he : starEach (e :: es) X.env = (false, eval e X.env) :: starEach es X.env) (hpl : (backTo pos (starEach es X.env)).any (·.1) = false) :
    PE X (.Call (.Name x p) (e :: es) [] pos) (fun σ H Q => t σ H fun vs H1 => sp vs H1 Q E0) := ⟨fun pins s σ H Q I h =>
  wpAny_Call_Name_kw (ld_glob I hg hm (PySem.W.callWith_K (h₀ := X.base) I.ok.mod.kin hk (thn (ha.run pos pins s σ H _ I h) fun us s1 ⟨vs, H1, I1, r, q⟩ => ⟨I1.kIn, run_G F hr hn hb I1 r q⟩) he hpl) hdb)⟩
theorem pe_callG0 (F : FnG X.prog X.w X.K X.mg X.base k f fd ps sp) (hr : Room k X.A) (hn : NoG X.A) (hg : Gl X x) (hm : X.mg x = some (.ref f)) (hk : PySem.W.keepIn X.K (.ref f) = true) (hb : Binds X.K fd ps [])
    (hdb : (x == ("__debug__" : Str)) = false) : PE X (.Call (.Name x p) [] [] pos) (fun σ H Q => sp [] H Q E0) := ⟨fun pins s σ H Q I h =>
  wpAny_Call_Name_kw (ld_glob I hg hm (PySem.W.callWith_K0 I.kIn hk (run_G (us := []) F hr hn hb I .nil h)) hdb)⟩
end
end Sw

/-! Eng10c: calls of defs by keywords. -/
namespace Sw
open PySem PySem.Spec PyProof.Rows L2
def kwWalk (ps : List Str) : List Str → List Str → Bool
  | _, [] => true
  | seen, k :: ks => ps.contains k && !seen.contains k && kwWalk ps (seen ++ [k]) ks
def kwChk (ps : List Str) (n : Nat) (ks : List Str) : Bool := Nat.ble n ps.length && kwWalk ps (ps.take n) ks && ps.all fun p => (ps.take n ++ ks).contains p
def kwPm (ps : List Str) (n : Nat) (ks : List Str) : List Nat := ps.map fun p => (ps.take n ++ ks).findIdx (p == ·)
def pickL {α : Type} (pm : List Nat) (l : List α) : List α := pm.filterMap (l[·]?)
theorem lookup_zip {α : Type} (p : Str) : ∀ (ns : List Str) (vs : List α), ns.length = vs.length → (ns.zip vs).lookup p = vs[ns.findIdx (p == ·)]?
  | [], [], _ => rfl
  | n :: ns, v :: vs, h => by
    rw [List.zip_cons_cons, List.lookup_cons, List.findIdx_cons]
    cases e : p == n with
    | true => simp
    | false => simp [lookup_zip p ns vs (by simpa using h)]
theorem forIn_kw {σ : Type} (f : (Str × Value) → σ → Sem (ForInStep σ)) (g : (Str × Value) → σ → σ) (I : List (Str × Value) → σ → Prop)
    (h : ∀ q rest st, I (q :: rest) st → f q st = pure (.yield (g q st)) ∧ I rest (g q st)) : ∀ (l : List (Str × Value)) (st : σ), I l st → forIn l st f = pure (l.foldl (fun st q => g q st) st)
  | [], st, _ => by simp
  | q :: l, st, hI => by
    obtain ⟨e, hI'⟩ := h q l st hI
    rw [List.forIn_cons, e, pure_bind, List.foldl_cons]
    exact forIn_kw f g I h l _ hI'
theorem fst_zip {α β : Type} : ∀ (ps : List α) (us : List β), us.length ≤ ps.length → (ps.zip us).map (·.1) = ps.take us.length
  | [], [], _ => rfl
  | [], _ :: _, h => by simp at h
  | p :: ps, [], _ => by simp
  | p :: ps, u :: us, h => by
    rw [List.zip_cons_cons, List.map_cons, fst_zip ps us (by simpa using h)]
    simp
theorem lookup_none {α : Type} (p : Str) : ∀ (l : List (Str × α)), (l.map (·.1)).contains p = false → l.lookup p = none
  | [], _ => rfl
  | q :: l, h => by
    simp only [List.map_cons, List.contains_cons, Bool.or_eq_false_iff] at h
    rw [List.lookup_cons, h.1]
    exact lookup_none p l h.2
theorem bind_kw {x q : Str} {params : Arguments} {body : List Stmt} {scope : Scope} {kV doc pm : Value} {an : Option Addr} {cdv ct : Value} {ps : List Str} (hp : params.posonlyargs = []) (ha : params.args.map (·.arg) = ps) (hv : params.vararg = none) (hk : params.kwonlyargs = []) (hw : params.kwarg = none)
    {us ws : List Value} {ks : List Str} (hc : kwChk ps us.length ks = true) (hl : ws.length = ks.length) :
    bindArgs (PySem.W.fnOf x q params body scope .none kV doc pm an cdv ct) ⟨us, ks.zip ws⟩ = pure (ps.zip (pickL (kwPm ps us.length ks) (us ++ ws))) := by
  unfold kwChk at hc
  simp only [Bool.and_eq_true] at hc
  obtain ⟨⟨hn, hwk⟩, hall⟩ := hc
  have hn' : us.length ≤ ps.length := Nat.le_of_ble_eq_true hn
  unfold bindArgs
  simp only [PySem.W.fnOf, hp, ha, hv, hk, hw, List.map_nil, List.nil_append]
  have l1 : (ps.zip us).map (·.1) = ps.take us.length := fst_zip ps us hn'
  have l2 : (ks.zip ws).map (·.1) = ks := List.map_fst_zip (by omega)
  have fs : ∀ (l a : List (Str × Value)), l.foldl (fun (st : List (Str × Value) × List (Str × Value)) q => (st.1 ++ [q], st.2)) (a, []) = (a ++ l, []) := fun l => by
    induction l with
    | nil => intro a; simp
    | cons q l ih => intro a; rw [List.foldl_cons, ih]; simp
  have z : ∀ p, (ps.zip us ++ ks.zip ws).lookup p = (us ++ ws)[(ps.take us.length ++ ks).findIdx (p == ·)]? := fun p => by
    have e1 : ps.zip us = (ps.take us.length).zip us := by
      conv => lhs; rw [← List.take_append_drop us.length ps]
      rw [show us = us ++ [] by simp, List.zip_append (by simp; omega)]
      simp
    rw [e1, ← List.zip_append (by simp; omega), lookup_zip _ _ _ (by simp; omega)]
  rw [forIn_kw _ (fun q (st : List (Str × Value) × List (Str × Value)) => (st.1 ++ [q], st.2)) (fun l st => kwWalk ps (st.1.map (·.1)) (l.map (·.1)) = true) (fun q rest st hI => ?_) _ _ (by simp only [l1, l2]; exact hwk), fs]
  · have hin : ∀ p ∈ ps, ∃ v, (ps.zip us ++ ks.zip ws).lookup p = some v := fun p hp => by
      rw [z]
      have h1 := List.all_eq_true.mp hall p hp
      have h2 : (ps.take us.length ++ ks).findIdx (p == ·) < (ps.take us.length ++ ks).length := List.findIdx_lt_length_of_exists ⟨p, by simpa using h1, by simp⟩
      refine ⟨_, List.getElem?_eq_getElem (by simp at h2 ⊢; omega)⟩
    have hf : ps.filter (fun n => ((ps.zip us ++ ks.zip ws).lookup n).isNone) = [] := List.filter_eq_nil_iff.mpr fun p hp => by
      obtain ⟨v, e⟩ := hin p hp
      rw [e]; simp
    have sq : seqItems? Value.none = pure none := rfl
    rw [pure_bind, sq, pure_bind]
    have hgt : decide (us.length > ps.length) = false := by simp; omega
    have fin : ps.filterMap (fun n => ((ps.zip us ++ ks.zip ws).lookup n).map (n, ·)) = ps.zip (pickL (kwPm ps us.length ks) (us ++ ws)) := by
      unfold pickL kwPm
      have : ∀ (qs : List Str), (∀ p ∈ qs, ∃ v, (ps.zip us ++ ks.zip ws).lookup p = some v) → qs.filterMap (fun n => ((ps.zip us ++ ks.zip ws).lookup n).map (n, ·)) = qs.zip ((qs.map fun p => (ps.take us.length ++ ks).findIdx (p == ·)).filterMap ((us ++ ws)[·]?)) := fun qs => by
        induction qs with
        | nil => intro _; rfl
        | cons q qs ih =>
          intro hq
          obtain ⟨v, e⟩ := hq q (by simp)
          have e2 := e
          rw [z] at e2
          rw [List.filterMap_cons, e, List.map_cons, List.filterMap_cons, e2]
          simp only [Option.map_some, List.zip_cons_cons]
          rw [ih fun p hp => hq p (by simp [hp])]
      exact this ps hin
    simp [hgt, hf, ← fin]
  · obtain ⟨⟨k, v⟩, rfl⟩ : ∃ q', q = q' := ⟨_, rfl⟩
    simp only [List.map_cons, kwWalk, Bool.and_eq_true] at hI
    obtain ⟨⟨h1, h2⟩, h3⟩ := hI
    have h4 : (st.1.lookup k).isSome = false := by
      rw [lookup_none k _ (by simpa using h2)]; rfl
    rw [h1]
    simp only [Bool.true_or, if_true, h4]
    refine ⟨rfl, ?_⟩
    simpa using h3
/-- a def without defaults, stars or keyword-only parameters -/
def plainA (p : Arguments) (ps : List Str) : Prop := p.posonlyargs = [] ∧ p.args.map (·.arg) = ps ∧ p.vararg = none ∧ p.kwonlyargs = [] ∧ p.kwarg = none
structure KwB (fd : FuncData) (ps : List Str) : Prop where
  to : ∀ (s : Shared) (us ws : List Value) (ks : List Str), kwChk ps us.length ks = true → ws.length = ks.length → BindsTo s fd ⟨us, ks.zip ws⟩ (ps.zip (pickL (kwPm ps us.length ks) (us ++ ws)))
theorem KwB.of {K : Frg} {x qual : Str} {params : Arguments} {body : List Stmt} {scope : Scope} {f : Addr} {fd : FuncData} {ps : List Str} (F : FunD K x qual params body scope [] [] f fd) (h : plainA params ps) : KwB fd ps := by
  obtain ⟨oc, od, dV, kV, doc, pm, an, cdv, ct, osl, rfl, lk, hcd, hD, hK⟩ := F.ex
  obtain ⟨h1, h2, h3, h4, h5⟩ := h
  rcases hD with ⟨_, rfl⟩ | ⟨e, _⟩
  · exact ⟨fun s us ws ks hc hl => .of_eq (bind_kw h1 h2 h3 h4 h5 hc hl)⟩
  · exact absurd rfl e
/-- the names of the parameters of the def x -/
def PsOk (K : Frg) (mg : Str → Option Value) (x : Str) (ps : List Str) : Prop := ∀ f o fd, mg x = some (.ref f) → K.lookup f = some o → o.data = .func fd → fd.params.args.map (·.arg) = ps
theorem PsOk.of {K : Frg} {mg : Str → Option Value} {x qual : Str} {params : Arguments} {body : List Stmt} {scope : Scope} {ps : List Str} (h : ∃ f fd, FunD K x qual params body scope [] [] f fd ∧ mg x = some (.ref f)) (e : params.args.map (·.arg) = ps) : PsOk K mg x ps := by
  obtain ⟨f, fd, F, hm⟩ := h
  intro f' o fd' hm' hl ho
  rw [hm] at hm'
  cases hm'
  obtain ⟨oc, od, dV, kV, doc, pm, an, cdv, ct, osl, rfl, lk, _⟩ := F.ex
  rw [lk] at hl
  cases hl
  cases ho
  exact e
theorem FunD.look {K : Frg} {x qual : Str} {params : Arguments} {body : List Stmt} {scope : Scope} {f : Addr} {fd : FuncData} {ps : List Str} (F : FunD K x qual params body scope [] [] f fd) (h : plainA params ps) : KwB fd ps ∧ (∃ o, K.lookup f = some o ∧ o.data = .func fd) ∧ fd.params.args.map (·.arg) = ps := by
  refine ⟨KwB.of F h, ?_⟩
  obtain ⟨oc, od, dV, kV, doc, pm, an, cdv, ct, osl, rfl, lk, _⟩ := F.ex
  exact ⟨⟨_, lk, rfl⟩, h.2.1⟩
theorem pickL_vals {pm : List Nat} {vs : List V} {us : List Value} (r : Vals vs us) : Vals (pickL pm vs) (pickL pm us) := by
  induction pm with
  | nil => exact .nil
  | cons i pm ih =>
    unfold pickL at *
    rw [List.filterMap_cons, List.filterMap_cons]
    cases e : vs[i]? with
    | none =>
      have : us[i]? = none := by
        rw [List.getElem?_eq_none_iff] at e ⊢
        rw [← r.length]; exact e
      rw [this]; exact ih
    | some v =>
      obtain ⟨u, h1, h2⟩ := r.get e
      rw [h1]
      exact .cons h2 ih
section
variable {X : Cx} {k : Nat} {f : Addr} {fd : FuncData} {ps ks : List Str} {sp : Sp} {x : Str} {p pos : Pos} {e : Expr} {es : List Expr} {kws : List Keyword} {t tk : TA}
theorem run_GK {pins : List (Addr × Obj)} {σ : L2.St} {H : Hp} {s : Shared} {Q : VK} {us ws : List Value} {vs zs : List V} (F : FnG X.prog X.w X.K X.mg X.base k f fd ps sp) (hr : Room k X.A) (hn : NoG X.A) (hb : KwB fd ps)
    (I : Inv X pins σ H s) (r : Vals vs us) (rz : Vals zs ws) (hc : kwChk ps vs.length ks = true) (hl : zs.length = ks.length) (h : sp (pickL (kwPm ps vs.length ks) (vs ++ zs)) H Q E0) : wpAny (model X.prog X.w) X.A (call (.ref f) us (ks.zip ws)) (EP X pins σ Q) X.xe s := by
  have bt := hb.to s us ws ks (by rw [← r.length]; exact hc) (by rw [← rz.length]; exact hl)
  rw [r.length] at h
  refine wpAny_call (codeAny_mono (F.run X.A X.stack s H ⟨us, ks.zip ws⟩ _ _ Q E0 hr hn I.env0 bt (pickL_vals (r.append rz)) h) fun res s' hq => ?_)
  cases res with
  | error e => exact (show False from hq).elim
  | ok fl => cases fl with
    | ret u => exact I.after hq
    | next => exact (show False from hq).elim
    | brk => exact (show False from hq).elim
    | cont => exact (show False from hq).elim
theorem pe_callK (F : FnG X.prog X.w X.K X.mg X.base k f fd ps sp) (hr : Room k X.A) (hn : NoG X.A) (hg : Gl X x) (hm : X.mg x = some (.ref f)) (hk : PySem.W.keepIn X.K (.ref f) = true) (hb : KwB fd ps)
    (ha : PA X (e :: es) t) (hkw : PK X kws tk) (hall : (backToKw pos (keywordEach kws X.env)).all (·.1.isSome) = true) (hks : (backToKw pos (keywordEach kws X.env)).filterMap (·.1) = ks)
    (hdb : (x == ("__debug__" : Str)) = false) (he : starEach (e :: es) X.env = (false, eval e X.env) :: starEach es X.env)
    (hpl : ((backTo pos (starEach (e :: es) X.env)).any (·.1) || (backToKw pos (keywordEach kws X.env)).any (·.1.isNone)) = false) :
    PE X (.Call (.Name x p) (e :: es) kws pos) (fun σ H Q => t σ H fun vs H1 => tk σ H1 fun zs H2 => kwChk ps vs.length ks = true ∧ zs.length = ks.length ∧ sp (pickL (kwPm ps vs.length ks) (vs ++ zs)) H2 Q E0) := by
  refine ⟨fun pins s σ H Q I h => ?_⟩
  refine wpAny_Call_Name_kw (ld_glob I hg hm ?_ hdb)
  refine PySem.W.callWith_KW (h₀ := X.base) I.ok.mod.kin hk hall (thn (ha.run pos pins s σ H _ I h) fun us s1 ⟨vs, H1, I1, r, q⟩ => ?_) hpl he
  refine thn (hkw.run pos pins s1 σ H1 _ I1 q) fun ws s2 ⟨zs, H2, I2, rz, l1, l2, q2⟩ => ⟨I2.kIn, ?_⟩
  rw [hks]
  exact run_GK F hr hn hb I2 r rz l1 l2 q2
theorem pe_callK0 (F : FnG X.prog X.w X.K X.mg X.base k f fd ps sp) (hr : Room k X.A) (hn : NoG X.A) (hg : Gl X x) (hm : X.mg x = some (.ref f)) (hk : PySem.W.keepIn X.K (.ref f) = true) (hb : KwB fd ps)
    (hkw : PK X kws tk) (hall : (backToKw pos (keywordEach kws X.env)).all (·.1.isSome) = true) (hks : (backToKw pos (keywordEach kws X.env)).filterMap (·.1) = ks)
    (hdb : (x == ("__debug__" : Str)) = false)
    (hpl : ((backTo pos (starEach [] X.env)).any (·.1) || (backToKw pos (keywordEach kws X.env)).any (·.1.isNone)) = false) :
    PE X (.Call (.Name x p) [] kws pos) (fun σ H Q => tk σ H fun zs H2 => kwChk ps 0 ks = true ∧ zs.length = ks.length ∧ sp (pickL (kwPm ps 0 ks) zs) H2 Q E0) := by
  refine ⟨fun pins s σ H Q I h => ?_⟩
  refine wpAny_Call_Name_kw (ld_glob I hg hm ?_ hdb)
  refine PySem.W.callWith_KW0 (h₀ := X.base) I.ok.mod.kin hk hall ?_ hpl
  refine thn (hkw.run pos pins s σ H _ I h) fun ws s2 ⟨zs, H2, I2, rz, l1, l2, q2⟩ => ⟨I2.kIn, ?_⟩
  rw [hks]
  exact run_GK (us := []) (vs := []) F hr hn hb I2 .nil rz l1 l2 q2
end
end Sw

/-! Eng11: calls of defs. -/
namespace Sw
open PySem PySem.Spec PyProof.Rows L2
section
variable {m : Nat → Addr} {H : Hp}
mutual
theorem RD.cut {k k' : Nat} : ∀ (d : D) (v : V), RD m k H d v → d.blw k' = true → RD m k' H d v
  | .non, _, h, _ => h
  | .bl _, _, h, _ => h
  | .int _, _, h, _ => h
  | .str _, _, h, _ => h
  | .tup ds, v, h, b => by
    obtain ⟨a, vs, h1, h2, h3⟩ := h
    simp only [D.blw] at b
    exact ⟨a, vs, h1, h2, RDs.cutk ds vs h3 b⟩
  | .ref n, v, h, b => by
    simp only [D.blw] at b
    exact ⟨Nat.le_of_ble_eq_true b, h.2⟩
theorem RDs.cutk {k k' : Nat} : ∀ (ds : List D) (vs : List V), RDs m k H ds vs → D.blws k' ds = true → RDs m k' H ds vs
  | [], _, h, _ => h
  | d :: ds, vs, h, b => by
    obtain ⟨v, r, h1, h2, h3⟩ := h
    simp only [D.blws, Bool.and_eq_true] at b
    exact ⟨v, r, h1, RD.cut d v h2 b.1, RDs.cutk ds r h3 b.2⟩
end
theorem RKv.cutk {κ : Type} {kd : κ → D} {k k' : Nat} : ∀ (kvs : List (D × D)) (ps : List (κ × V)), RKv m k H kd kvs ps → pairsBelow k' kvs = true → RKv m k' H kd kvs ps
  | [], _, h, _ => h
  | (a, d) :: r, ps, h, b => by
    obtain ⟨q, v, ps', h1, h2, h3, h4⟩ := h
    simp only [pairsBelow, Bool.and_eq_true] at b
    exact ⟨q, v, ps', h1, h2, RD.cut d v h3 b.1.2, RKv.cutk r ps' h4 b.2⟩
theorem RKn.cutk {k k' : Nat} : ∀ (kvs : List (D × D)) (xs : List NE), RKn m k H kvs xs → pairsBelow k' kvs = true → RKn m k' H kvs xs
  | [], _, h, _ => h
  | (a, d) :: r, xs, h, b => by
    obtain ⟨q, c, v, xs', h1, h2, h3, h4, h5⟩ := h
    simp only [pairsBelow, Bool.and_eq_true] at b
    exact ⟨q, c, v, xs', h1, h2, RD.cut a _ h3 b.1.1, RD.cut d v h4 b.1.2, RKn.cutk r xs' h5 b.2⟩
theorem OOk.cutk {k k' : Nat} {a : Addr} {o : O} (h : OOk m k H a o) (b : o.blw k' = true) : OOk m k' H a o := by
  cases o with
  | lst xs => obtain ⟨vs, h1, h2⟩ := h; exact ⟨vs, h1, RDs.cutk _ _ h2 b⟩
  | frz xs => obtain ⟨vs, o, h1, h2⟩ := h; exact ⟨vs, o, h1, RDs.cutk _ _ h2 b⟩
  | dct kvs => obtain ⟨vs, h1, h2⟩ := h; exact ⟨vs, h1, RKv.cutk _ _ h2 b⟩
  | dctT kvs => obtain ⟨vs, h1, h2⟩ := h; exact ⟨vs, h1, RKv.cutk _ _ h2 b⟩
  | dctN kvs => obtain ⟨xs, h1, h2⟩ := h; exact ⟨xs, h1, RKn.cutk _ _ h2 b⟩
  | set xs => exact h
end
abbrev Fn := List D → Sto → Res D
/-- the state at a def's entry -/
def Sto.enter (S : Sto) : Sto := ⟨S.objs, S.len :: S.bs, S.dirty⟩
/-- behind a def's end: what it made and nobody can reach is forgotten -/
def ret (S : Sto) (d : D) (S' : Sto) : Res D := match S'.dirty with
  | true => .ok d ⟨S'.objs, S.bs, true⟩
  | false => match d.blw S.len with
    | true => .ok d ⟨S'.objs.take S.len, S.bs, false⟩
    | false => match d with
      | .ref n => match S'.objs[n]? with
        | some o => match o.blw S.len with
          | true => .ok (.ref S.len) ⟨S'.objs.take S.len ++ [o], S.bs, false⟩
          | false => .ok d ⟨S'.objs, S.bs, false⟩
        | none => .bad
      | d => .ok d ⟨S'.objs, S.bs, false⟩
theorem Rel.enter {m : Nat → Addr} {S : Sto} {H : Hp} (R : Rel m S H) : Rel m S.enter H := by
  refine ⟨R.obj, R.inj, fun hd b hb n o hn e => ?_, fun b hb => ?_, fun b hb => ?_⟩
  · rcases List.mem_cons.mp hb with rfl | hb
    · exact (R.obj n o e).below
    · exact R.low hd b hb n o hn e
  · rcases List.mem_cons.mp hb with rfl | hb
    · exact Nat.le_refl _
    · exact R.lens b hb
  · rcases List.mem_cons.mp hb with rfl | hb
    · exact Nat.le_refl _
    · exact R.lens b hb
/-- behind a def's end -/
theorem ret_ok {m m' : Nat → Addr} {S S' S2 : Sto} {H H' : Hp} {d d2 : D} {v : V} (R : Rel m S H) (X : Ext m m' S.enter S' H H') (r : RD m' S'.len H' d v) (e : ret S d S' = .ok d2 S2) : ∃ m2, Ext m m2 S S2 H H' ∧ RD m2 S2.len H' d2 v := by
  have hlen : S.len ≤ S'.len := X.len
  have hbs : S'.bs = S.len :: S.bs := X.bs
  have big : ∀ db, (db = true ∨ S'.dirty = false) → Ext m m' S ⟨S'.objs, S.bs, db⟩ H H' := fun db hdb => by
    refine ⟨hlen, X.ag, X.keep, rfl, ⟨X.rel.obj, X.rel.inj, fun hd b hb n o hn e => ?_, R.top, fun b hb => Nat.le_trans (R.lens b hb) hlen⟩, X.oth, X.new⟩
    have hd : db = false := hd
    rcases hdb with z | z
    · rw [z] at hd; cases hd
    · exact X.rel.low z b (by rw [hbs]; exact List.mem_cons_of_mem _ hb) n o hn e
  unfold ret at e
  split at e
  · cases e
    exact ⟨m', big true (.inl rfl), r⟩
  · rename_i hd
    have low : ∀ n o, n < S.len → S'.objs[n]? = some o → o.blw S.len = true := fun n o hn e => X.rel.low hd S.len (by rw [hbs]; exact List.mem_cons_self) n o hn e
    have tk : ∀ n o, (S'.objs.take S.len)[n]? = some o → n < S.len ∧ S'.objs[n]? = some o := fun n o e => by
      rw [List.getElem?_take] at e
      split at e
      · exact ⟨by assumption, e⟩
      · cases e
    have tl : (S'.objs.take S.len).length = S.len := by rw [List.length_take]; exact Nat.min_eq_left hlen
    split at e
    · rename_i hb
      cases e
      have l2 : (⟨S'.objs.take S.len, S.bs, false⟩ : Sto).len = S.len := tl
      refine ⟨m', ⟨by rw [l2]; exact Nat.le_refl _, X.ag, X.keep, rfl, ⟨fun n o e => ?_, fun i j hi hj e => ?_, fun _ b hbm n o hn e => ?_, R.top, fun b hb => by rw [l2]; exact R.lens b hb⟩, X.oth, fun n h1 h2 => absurd h2 (by rw [l2]; exact Nat.not_lt_of_le h1)⟩, ?_⟩
      · obtain ⟨h1, h2⟩ := tk n o e
        rw [l2]
        exact (X.rel.obj n o h2).cutk (low n o h1 h2)
      · rw [l2] at hi hj
        exact X.rel.inj i j (Nat.lt_of_lt_of_le hi hlen) (Nat.lt_of_lt_of_le hj hlen) e
      · obtain ⟨h1, h2⟩ := tk n o e
        exact X.rel.low hd b (by rw [hbs]; exact List.mem_cons_of_mem _ hbm) n o hn h2
      · rw [l2]; exact RD.cut _ _ r hb
    · rename_i hb
      split at e
      · rename_i n
        split at e
        · rename_i o ho
          split at e
          · rename_i hbo
            cases e
            have hn : S.len ≤ n := by
              by_cases z : n < S.len
              · simp only [D.blw] at hb
                rw [show Nat.blt n S.len = true from Nat.ble_eq_true_of_le z] at hb
                cases hb
              · omega
            have hnl : n < S'.len := (List.getElem?_eq_some_iff.mp ho).1
            have l2 : (⟨S'.objs.take S.len ++ [o], S.bs, false⟩ : Sto).len = S.len + 1 := by show (S'.objs.take S.len ++ [o]).length = _; rw [List.length_append, tl]; rfl
            have ag2 : ∀ i, i < S.len → withAt m' S.len (m' n) i = m' i := fun i hi => withAt_ne _ _ _ (Nat.ne_of_lt hi)
            have gt : ∀ i o', (S'.objs.take S.len ++ [o])[i]? = some o' → (i < S.len ∧ S'.objs[i]? = some o') ∨ (i = S.len ∧ o' = o) := fun i o' e => by
              by_cases hi : i < S.len
              · rw [List.getElem?_append_left (by rw [tl]; exact hi)] at e
                exact .inl (tk i o' e)
              · rw [List.getElem?_append_right (by rw [tl]; omega), tl] at e
                have hi2 : i - S.len = 0 := by
                  have := (List.getElem?_eq_some_iff.mp e).1
                  simp at this
                  omega
                rw [hi2] at e
                exact .inr ⟨by omega, by simpa using e.symm⟩
            refine ⟨withAt m' S.len (m' n), ⟨by rw [l2]; exact Nat.le_succ _, fun i hi => (ag2 i hi).trans (X.ag i hi), X.keep, rfl, ⟨fun i o' e => ?_, fun i j hi hj e => ?_, fun _ b hbm i o' hi e => ?_, R.top, fun b hb => by rw [l2]; exact Nat.le_succ_of_le (R.lens b hb)⟩, X.oth, fun j h1 h2 => by
              rw [l2] at h2
              have : j = S.len := by omega
              rw [this, withAt_same]
              exact X.new n hn hnl⟩, ?_⟩
            · rw [l2]
              rcases gt i o' e with ⟨h1, h2⟩ | ⟨rfl, rfl⟩
              · rw [ag2 i h1]
                exact ((X.rel.obj i o' h2).cutk (low i o' h1 h2)).mono' (Nat.le_succ _) ag2 (Keep.refl _) rfl
              · rw [withAt_same]
                exact ((X.rel.obj n _ ho).cutk hbo).mono' (Nat.le_succ _) ag2 (Keep.refl _) rfl
            · rw [l2] at hi hj
              by_cases h1 : i < S.len
              · by_cases h2 : j < S.len
                · rw [ag2 i h1, ag2 j h2] at e
                  exact X.rel.inj i j (Nat.lt_of_lt_of_le h1 hlen) (Nat.lt_of_lt_of_le h2 hlen) e
                · have : j = S.len := by omega
                  subst this
                  rw [ag2 i h1, withAt_same] at e
                  have := X.rel.inj i n (Nat.lt_of_lt_of_le h1 hlen) hnl e
                  omega
              · have : i = S.len := by omega
                subst this
                by_cases h2 : j < S.len
                · rw [ag2 j h2, withAt_same] at e
                  have := X.rel.inj n j hnl (Nat.lt_of_lt_of_le h2 hlen) e
                  omega
                · omega
            · have hi' : i < S.len := Nat.lt_of_lt_of_le hi (R.lens b hbm)
              rcases gt i o' e with ⟨h1, h2⟩ | ⟨h1, _⟩
              · exact X.rel.low hd b (by rw [hbs]; exact List.mem_cons_of_mem _ hbm) i o' hi h2
              · omega
            · exact ⟨by rw [l2]; exact Nat.lt_succ_self _, by rw [withAt_same]; exact r.2⟩
          · cases e
            exact ⟨m', big false (.inr hd), r⟩
        · cases e
      · cases e
        exact ⟨m', big false (.inr hd), r⟩

/-! ### a def -/
def fnSem (n ar : Nat) (f : Sv) : Fn := fun ds S => match Nat.beq ds.length ar with
  | true => match f (ds.map some ++ List.replicate (n - ar) none) S.enter with
    | .nx _ S' => ret S .non S'
    | .rt d S' => ret S d S'
    | _ => .bad
  | false => .bad
/-- the promise of a def -/
def spF (ar : Nat) (f : Fn) : Sp := fun vs H Q _ => vs.length = ar ∧ rdN f vs H Q
theorem fn_len {n ar : Nat} {f : Sv} {ds : List D} {S S' : Sto} {d : D} (h : fnSem n ar f ds S = .ok d S') : ds.length = ar := by
  unfold fnSem at h
  split at h
  · rename_i hl; exact Nat.eq_of_beq_eq_true hl
  · cases h
theorem rd_fn {n ar : Nat} {f : Sv} {N : List Str} {vs : List V} {H : Hp} {Q : VK} (hN : N.length = n) (h : rdN (fnSem n ar f) vs H Q) : rdS f { nx := fun _ H' => Q .non H', rt := Q } (L2.start N vs) H := by
  obtain ⟨m, S, ds, d, S2, R, r, e, q⟩ := h
  have hl := fn_len e
  have E : REnv m S.enter.len H (ds.map some ++ List.replicate (n - ar) none) (L2.start N vs) := by
    refine ⟨by simp [L2.start, hN, ← r.length, hl], fun i d0 h0 => ?_⟩
    by_cases hi : i < ds.length
    · rw [List.getElem?_append_left (by simpa using hi)] at h0
      have h0' : ds[i]? = some d0 := by
        rw [List.getElem?_map] at h0
        cases e1 : ds[i]? with
        | none => rw [e1] at h0; cases h0
        | some d1 => rw [e1] at h0; simp at h0; rw [h0]
      obtain ⟨v, h1, h2⟩ := r.get h0'
      refine ⟨v, ?_, h2⟩
      unfold L2.start
      rw [List.getElem?_append_left (by rw [List.length_map, ← r.length]; exact hi), List.getElem?_map, h1]
      rfl
    · rw [List.getElem?_append_right (by simpa using hi)] at h0
      rw [List.getElem?_replicate] at h0
      split at h0 <;> cases h0
  refine ⟨m, S.enter, _, R.enter, E, ?_⟩
  unfold fnSem at e
  rw [show Nat.beq ds.length ar = true by rw [hl]; exact Nat.beq_refl ar] at e
  dsimp only at e
  split at e
  · rename_i ρ' S' h1
    rw [h1]
    intro m' H' σ' X' E'
    obtain ⟨m2, X2, r2⟩ := ret_ok (d := .non) (v := .non) R X' rfl e
    exact q m2 H' _ X2 r2
  · rename_i d0 S' h1
    rw [h1]
    intro m' H' v X' r'
    obtain ⟨m2, X2, r2⟩ := ret_ok R X' r' e
    exact q m2 H' _ X2 r2
  · cases e
section
variable {X : Cx} {k : Nat} {f : Addr} {fd : FuncData} {ps : List Str} {x : Str} {p pos : Pos} {e : Expr} {es : List Expr} {g : EvA} {fn : Fn} {ar : Nat}
/-- a def as others see it -/
structure Def (P : Program) (w : World) (K : Frg) (mg : Str → Option Value) (base : Heap) (k : Nat) (x : Str) (ar : Nat) (fn : Fn) : Prop where
  ex : ∃ (f : Addr) (fd : FuncData) (ps : List Str), FnG P w K mg base k f fd ps (spF ar fn) ∧ mg x = some (.ref f) ∧ PySem.W.keepIn K (.ref f) = true ∧ Binds K fd ps [] ∧ KwB fd ps ∧ (∃ o, K.lookup f = some o ∧ o.data = .func fd) ∧ fd.params.args.map (·.arg) = ps
  len : ∀ ds S d S', fn ds S = .ok d S' → ds.length = ar
theorem pev_call (F : Def X.prog X.w X.K X.mg X.base k x ar fn) (hr : Room k X.A) (hn : NoG X.A) (hg : Gl X x) (ha : PA X (e :: es) (rdA g)) (hdb : (x == ("__debug__" : Str)) = false)
    (he : starEach (e :: es) X.env = (false, eval e X.env) :: starEach es X.env) (hpl : (backTo pos (starEach es X.env)).any (·.1) = false) : PE X (.Call (.Name x p) (e :: es) [] pos) (rdE (evN fn g)) := by
  obtain ⟨f, fd, ps, F1, hm, hk, hb, _⟩ := F.ex
  refine PE.of (pe_callG F1 hr hn hg hm hk hb ha hdb he hpl) fun σ H Q h => ?_
  obtain ⟨m, S, ρ, d, S', R, E, e, q⟩ := rdN_seq h
  refine ⟨m, S, ρ, d, S', R, E, e, fun m1 H1 v1 X1 r1 => ?_⟩
  show spF ar fn v1 H1 Q E0
  have h2 := q m1 H1 v1 X1 r1
  obtain ⟨m2, S2, ds, d2, S3, R2, r2, e2, q2⟩ := id h2
  exact ⟨by rw [← r2.length]; exact F.len _ _ _ _ e2, h2⟩
theorem pev_call0 (F : Def X.prog X.w X.K X.mg X.base k x ar fn) (hr : Room k X.A) (hn : NoG X.A) (hg : Gl X x) (hdb : (x == ("__debug__" : Str)) = false) : PE X (.Call (.Name x p) [] [] pos) (rdE (evN fn evNil)) := by
  obtain ⟨f, fd, ps, F1, hm, hk, hb, _⟩ := F.ex
  refine PE.of (pe_callG0 F1 hr hn hg hm hk hb hdb) fun σ H Q h => ?_
  obtain ⟨m, S, ρ, d, S', R, E, e, q⟩ := rdN_seq h
  cases e
  have h2 := q m H [] (Ext.refl R) rfl
  obtain ⟨m2, S2, ds, d2, S3, R2, r2, e2, q2⟩ := id h2
  exact ⟨by show ([] : List V).length = ar; rw [← r2.length]; exact F.len _ _ _ _ e2, h2⟩
end
end Sw

/-! Eng11k: calls of defs by keywords, by values. -/
namespace Sw
open PySem PySem.Spec PyProof.Rows L2
theorem PK.of {X : Cx} {kws : List Keyword} {t t' : TA} (h : PK X kws t) (i : ∀ σ H Q, t' σ H Q → t σ H Q) : PK X kws t' := ⟨fun pos pins s σ H Q I q => h.run pos pins s σ H Q I (i σ H Q q)⟩
def evKw (f : Fn) (pm : List Nat) (g h : EvA) : Ev := fun ρ S => match g ρ S with
  | .ok ds S1 => match h ρ S1 with
    | .ok es S2 => f (pickL pm (ds ++ es)) S2
    | .bad => .bad
  | .bad => .bad
section
variable {X : Cx} {k : Nat} {x : Str} {p pos kpos : Pos} {nm : Option Str} {e : Expr} {es : List Expr} {kws : List Keyword} {g h : EvA} {f : Ev} {fn : Fn} {ar : Nat} {ps ks : List Str}
theorem pkv_nil : PK X [] (rdA evNil) := PK.of pk_nil fun σ H Q h => by
  obtain ⟨m, S, ρ, d, S', R, E, e, q⟩ := h
  cases e
  exact q m H [] (Ext.refl R) rfl
theorem pkv_cons (he : PE X e (rdE f)) (hes : PK X kws (rdA g)) : PK X (⟨nm, e, kpos⟩ :: kws) (rdA (evCons f g)) := PK.of (pk_cons he hes) fun σ H Q h => by
  obtain ⟨m, S, ρ, d, S', R, E, e, q⟩ := h
  unfold evCons at e
  split at e
  · rename_i x S1 h1
    split at e
    · rename_i xs S2 h2
      cases e
      exact ⟨m, S, ρ, x, S1, R, E, h1, fun m1 H1 v1 X1 r1 => ⟨m1, S1, ρ, xs, S', X1.rel, E.ext X1, h2, fun m2 H2 v2 X2 r2 => q m2 H2 _ (X1.trans X2) ⟨v1, v2, rfl, r1.ext X2, r2⟩⟩⟩
    · cases e
  · cases e
theorem evCons_len {f : Ev} {g : EvA} {n : Nat} (h : ∀ ρ S ds S', g ρ S = .ok ds S' → ds.length = n) : ∀ ρ S ds S', evCons f g ρ S = .ok ds S' → ds.length = n + 1 := fun ρ S ds S' e => by
  unfold evCons at e
  split at e
  · split at e
    · rename_i h2
      cases e
      simp [h _ _ _ _ h2]
    · cases e
  · cases e
theorem RDs.pick {m : Nat → Addr} {n : Nat} {H : Hp} (pm : List Nat) {ds : List D} {vs : List V} (r : RDs m n H ds vs) : RDs m n H (pickL pm ds) (pickL pm vs) := by
  induction pm with
  | nil => exact rfl
  | cons i pm ih =>
    unfold pickL at *
    rw [List.filterMap_cons, List.filterMap_cons]
    cases e : ds[i]? with
    | none =>
      have : vs[i]? = none := by
        rw [List.getElem?_eq_none_iff] at e ⊢
        rw [← r.length]; exact e
      rw [this]; exact ih
    | some d =>
      obtain ⟨v, h1, h2⟩ := r.get e
      rw [h1]
      exact ⟨_, _, rfl, h2, ih⟩
theorem pev_callk (F : Def X.prog X.w X.K X.mg X.base k x ar fn) (hr : Room k X.A) (hn : NoG X.A) (hg : Gl X x) (hp : PsOk X.K X.mg x ps) (hc : kwChk ps (e :: es).length ks = true)
    (lg : ∀ ρ S ds S', g ρ S = .ok ds S' → ds.length = (e :: es).length) (lh : ∀ ρ S ds S', h ρ S = .ok ds S' → ds.length = ks.length)
    (ha : PA X (e :: es) (rdA g)) (hkw : PK X kws (rdA h)) (hall : (backToKw pos (keywordEach kws X.env)).all (·.1.isSome) = true) (hks : (backToKw pos (keywordEach kws X.env)).filterMap (·.1) = ks)
    (hdb : (x == ("__debug__" : Str)) = false) (he : starEach (e :: es) X.env = (false, eval e X.env) :: starEach es X.env)
    (hpl : ((backTo pos (starEach (e :: es) X.env)).any (·.1) || (backToKw pos (keywordEach kws X.env)).any (·.1.isNone)) = false) :
    PE X (.Call (.Name x p) (e :: es) kws pos) (rdE (evKw fn (kwPm ps (e :: es).length ks) g h)) := by
  obtain ⟨f, fd, ps0, F1, hm, hk, _, hb, ⟨o, ho1, ho2⟩, hps⟩ := F.ex
  have e0 : ps0 = ps := hps.symm.trans (hp f o fd hm ho1 ho2)
  subst e0
  refine PE.of (pe_callK F1 hr hn hg hm hk hb ha hkw hall hks hdb he hpl) fun σ H Q h0 => ?_
  obtain ⟨m, S, ρ, d, S', R, E, e1, q⟩ := h0
  unfold evKw at e1
  split at e1
  · rename_i ds S1 h1
    split at e1
    · rename_i zs S2 h2
      refine ⟨m, S, ρ, ds, S1, R, E, h1, fun m1 H1 vs X1 r1 => ⟨m1, S1, ρ, zs, S2, X1.rel, E.ext X1, h2, fun m2 H2 ws X2 r2 => ?_⟩⟩
      have hv : vs.length = (e :: es).length := by rw [← r1.length]; exact lg _ _ _ _ h1
      have hz : ws.length = ks.length := by rw [← r2.length]; exact lh _ _ _ _ h2
      have rr := RDs.pick (kwPm ps0 (e :: es).length ks) ((r1.ext X2).append r2)
      rw [hv]
      exact ⟨hc, hz, by rw [← rr.length]; exact F.len _ _ _ _ e1, m2, S2, _, d, S', X2.rel, rr, e1, fun m3 H3 v X3 r3 => q m3 H3 v ((X1.trans X2).trans X3) r3⟩
    · cases e1
  · cases e1
theorem pev_callk0 (F : Def X.prog X.w X.K X.mg X.base k x ar fn) (hr : Room k X.A) (hn : NoG X.A) (hg : Gl X x) (hp : PsOk X.K X.mg x ps) (hc : kwChk ps 0 ks = true)
    (lh : ∀ ρ S ds S', h ρ S = .ok ds S' → ds.length = ks.length)
    (hkw : PK X kws (rdA h)) (hall : (backToKw pos (keywordEach kws X.env)).all (·.1.isSome) = true) (hks : (backToKw pos (keywordEach kws X.env)).filterMap (·.1) = ks)
    (hdb : (x == ("__debug__" : Str)) = false)
    (hpl : ((backTo pos (starEach [] X.env)).any (·.1) || (backToKw pos (keywordEach kws X.env)).any (·.1.isNone)) = false) :
    PE X (.Call (.Name x p) [] kws pos) (rdE (evKw fn (kwPm ps 0 ks) evNil h)) := by
  obtain ⟨f, fd, ps0, F1, hm, hk, _, hb, ⟨o, ho1, ho2⟩, hps⟩ := F.ex
  have e0 : ps0 = ps := hps.symm.trans (hp f o fd hm ho1 ho2)
  subst e0
  refine PE.of (pe_callK0 F1 hr hn hg hm hk hb hkw hall hks hdb hpl) fun σ H Q h0 => ?_
  obtain ⟨m, S, ρ, d, S', R, E, e1, q⟩ := h0
  unfold evKw at e1
  simp only [evNil] at e1
  split at e1
  · rename_i zs S2 h2
    refine ⟨m, S, ρ, zs, S2, R, E, h2, fun m2 H2 ws X2 r2 => ?_⟩
    have hz : ws.length = ks.length := by rw [← r2.length]; exact lh _ _ _ _ h2
    have rr := RDs.pick (kwPm ps0 0 ks) r2
    exact ⟨hc, hz, by rw [← rr.length]; exact F.len _ _ _ _ e1, m2, S2, _, d, S', X2.rel, rr, e1, fun m3 H3 v X3 r3 => q m3 H3 v (X2.trans X3) r3⟩
  · cases e1
end
end Sw

/-! Eng12: op=, d[k] = v, methods as expressions, facts of the syntax. -/
namespace Sw
open PySem PySem.Spec PyProof.Rows L2
section
variable {X : Cx} {e o a b i v : Expr} {es : List Expr} {f fe fo fi fv : Ev} {g : EvA} {pos pos' apos cpos : Pos} {x : Str}
/-! ### x op= e -/
def svAug (i : Nat) (g : D → D → Sto → Res D) (fe : Ev) : Sv := fun ρ S => match ρ[i]? with
  | some (some x) => match fe ρ S with
    | .ok y S1 => match g x y S1 with
      | .ok z S2 => .nx (ρ.set i (some z)) S2
      | .bad => .bad
    | .bad => .bad
  | _ => .bad
theorem psv_aug {k : Nat} {op : Operator} {gg : D → D → Sto → Res D} (hN : X.N.Nodup) (hi : X.N[k]? = some x) (hx : Loc X.env.scope x) (he : PE X e (rdE fe)) (ho : OpR X (inplaceOp op) (rd2 gg)) (hf : X.fn x = true ∨ X.env.scope.names.lookup x = some .local) :
    PS X (.AugAssign (.Name x pos') op e pos) (rdS (svAug k gg fe)) := PS.of (ps_aug (ti := rd2 gg) hN hi hx he ho hf) fun D σ H h => by
  obtain ⟨m, S, ρ, R, E, q⟩ := h
  unfold svAug at q
  split at q
  · rename_i d hd
    obtain ⟨w, h1, h2⟩ := E.get _ _ hd
    refine ⟨w, h1, ?_⟩
    split at q
    · rename_i y S1 he1
      split at q
      · rename_i z S2 hg1
        exact ⟨m, S, ρ, y, S1, R, E, he1, fun m1 H1 v1 X1 r1 => ⟨m1, S1, d, y, z, S2, X1.rel, h2.ext X1, r1, hg1, fun m2 H2 v2 X2 r2 => q m2 H2 _ (X1.trans X2) ((E.ext (X1.trans X2)).set k r2)⟩⟩
      · exact q.elim
    · exact q.elim
  · exact q.elim
def iaddD : D → D → Sto → Res D
  | .int i, .int j, S => .ok (.int (i + j)) S
  | .ref n, .ref k, S => match S.objs[n]?, S.objs[k]? with
    | some (.lst xs), some (.lst ys) => match fits (xs.length + ys.length) with
      | true => .ok (.ref n) (S.put n (.lst (xs ++ ys)) (D.blws 0 ys))
      | false => .bad
    | _, _ => .bad
  | _, _, _ => .bad
theorem opv_iadd : OpR X (inplaceOp .Add) (rd2 iaddD) := OpR.of (OpR.or iop_add iop_ext) fun x y H Q h => by
  obtain ⟨m, S, d1, d2, d, S', R, r1, r2, e, q⟩ := h
  unfold iaddD at e
  split at e
  · cases e; exact .inl ⟨_, _, r1, r2, rdPure R q rfl⟩
  · rename_i n k
    split at e
    · rename_i xs ys h1 h2
      split at e
      · rename_i hs
        cases e
        obtain ⟨vs, a1, q1⟩ := R.obj _ _ h1
        obtain ⟨ws, a2, q2⟩ := R.obj _ _ h2
        have X1 := goPut (ok := D.blws 0 ys) R h1 a1 (q1.append q2) (fun z b hb => by rw [blws_append, hb, belows_mono (Nat.zero_le b) _ z]; rfl)
        refine .inr ⟨_, _, vs, ws, r1.2, r2.2, a1, a2, ?_, q m _ _ X1 (by rw [Sto.put_len]; exact ⟨r1.1, rfl⟩)⟩
        rw [← q1.length, ← q2.length]; exact fits_le hs
      · cases e
    · cases e
  · cases e
def isubD : D → D → Sto → Res D
  | .int i, .int j, S => .ok (.int (i - j)) S
  | _, _, _ => .bad
theorem opv_isub : OpR X (inplaceOp .Sub) (rd2 isubD) := OpR.of iop_sub fun x y H Q h => by
  obtain ⟨m, S, d1, d2, d, S', R, r1, r2, e, q⟩ := h
  unfold isubD at e
  split at e
  · cases e; exact ⟨_, _, r1, r2, rdPure R q rfl⟩
  · cases e

/-! ### d[k] = v -/
def Sto.dput (S : Sto) (n : Nat) (k v : D) : Option Sto := match S.objs[n]? with
  | some (.dct kvs) => match keyOf k with
    | some q => match fits (kvs.length + 1) with
      | true => some (S.put n (.dct (dPut keyOf kvs q k v)) (v.blw 0))
      | false => none
    | none => none
  | some (.dctT kvs) => match tkeyOf k with
    | some q => match fits (kvs.length + 1) with
      | true => some (S.put n (.dctT (dPut tkeyOf kvs q k v)) (v.blw 0))
      | false => none
    | none => none
  | some (.dctN kvs) => match nkeyOf k with
    | some q => match fits (kvs.length + 1) with
      | true => some (S.put n (.dctN (dPut nkeyOf kvs q k v)) (v.blw 0))
      | false => none
    | none => none
  | _ => none
theorem pairs_append {k : Nat} : ∀ {xs ys : List (D × D)}, pairsBelow k (xs ++ ys) = (pairsBelow k xs && pairsBelow k ys)
  | [], ys => by simp [pairsBelow]
  | (a, b) :: xs, ys => by simp only [List.cons_append, pairsBelow, pairs_append (xs := xs), Bool.and_assoc]
theorem dRep_below {κ : Type} [DecidableEq κ] {ko : D → Option κ} {q : κ} {v : D} {k : Nat} (hv : v.blw k = true) : ∀ {kvs : List (D × D)}, pairsBelow k kvs = true → pairsBelow k (dRep ko q v kvs) = true
  | [], h => h
  | (a, d) :: r, h => by
    simp only [pairsBelow, Bool.and_eq_true] at h
    have ih := dRep_below (ko := ko) (q := q) hv h.2
    simp only [dRep]
    split
    · split
      · simp only [pairsBelow, Bool.and_eq_true]; exact ⟨⟨h.1.1, hv⟩, ih⟩
      · simp only [pairsBelow, Bool.and_eq_true]; exact ⟨h.1, ih⟩
    · simp only [pairsBelow, Bool.and_eq_true]; exact ⟨h.1, ih⟩
theorem dPut_below {κ : Type} [DecidableEq κ] {ko : D → Option κ} {q : κ} {kd v : D} {k : Nat} {kvs : List (D × D)} (hv : v.blw k = true) (hk : kd.blw k = true) (h : pairsBelow k kvs = true) : pairsBelow k (dPut ko kvs q kd v) = true := by
  unfold dPut
  split
  · exact dRep_below hv h
  · rw [pairs_append, h]; simp only [pairsBelow, hv, hk, Bool.and_self]
theorem dput_ok {m : Nat → Addr} {S S' : Sto} {H : Hp} {n : Nat} {k v : D} {kv vv : V} (R : Rel m S H) (hk : RD m S.len H k kv) (hv : RD m S.len H v vv) (h : S.dput n k v = some S') : ∃ H', DPutA H (m n) kv vv H' ∧ Ext m m S S' H H' := by
  unfold Sto.dput at h
  cases e : S.objs[n]? with
  | none => rw [e] at h; cases h
  | some ob =>
    rw [e] at h
    have q := R.obj n ob e
    cases ob with
    | lst _ => cases h
    | frz _ => cases h
    | set _ => cases h
    | dct kvs =>
      obtain ⟨ps, h1, h2⟩ := q
      dsimp only at h
      cases ek : keyOf k with
      | none => rw [ek] at h; cases h
      | some q =>
        rw [ek] at h
        dsimp only at h
        split at h
        · rename_i hf
          cases h
          have hkd := keyOf_ok ek
          subst hkd
          rw [RD.kD hk]
          have hl : ps.length < sizeLine := by have := fits_le hf; rw [h2.length] at this; omega
          have kp : Keep H (upd H (m n) (.dK (putK ps q vv))) := ⟨fun a zs e => (by
            rw [upd_ne]
            · exact e
            · rintro rfl; rw [h1] at e; cases e), fun a o' u e => (by
            rw [upd_ne]
            · exact e
            · rintro rfl; rw [h1] at e; cases e)⟩
          exact ⟨_, .inl (DPut.k h1 hl), Ext.put R e h1 True.intro ⟨_, upd_same, RKv.mono' (Nat.le_refl _) (fun _ _ => rfl) kp _ _ (dPut_ok keyOf_kD h2 hv)⟩ fun z b hb => dPut_below (below_mono (Nat.zero_le b) _ z) (kD_below _ _) hb⟩
        · cases h
    | dctT kvs =>
      obtain ⟨ps, h1, h2⟩ := q
      dsimp only at h
      cases ek : tkeyOf k with
      | none => rw [ek] at h; cases h
      | some q =>
        rw [ek] at h
        dsimp only at h
        split at h
        · rename_i hf
          cases h
          have hkd := tkeyOf_ok ek
          subst hkd
          obtain ⟨b, rfl, hb⟩ := RD.kT hk
          have hl : ps.length < sizeLine := by have := fits_le hf; rw [h2.length] at this; omega
          have kp : Keep H (upd H (m n) (.dT (putK ps q vv))) := ⟨fun a zs e => (by
            rw [upd_ne]
            · exact e
            · rintro rfl; rw [h1] at e; cases e), fun a o' u e => (by
            rw [upd_ne]
            · exact e
            · rintro rfl; rw [h1] at e; cases e)⟩
          exact ⟨_, .inl (DPut.t h1 hb hl), Ext.put R e h1 True.intro ⟨_, upd_same, RKv.mono' (Nat.le_refl _) (fun _ _ => rfl) kp _ _ (dPut_ok tkeyOf_kT h2 hv)⟩ fun z b hb => dPut_below (below_mono (Nat.zero_le b) _ z) (kT_below _ _) hb⟩
        · cases h
    | dctN kvs =>
      obtain ⟨xs, h1, h2⟩ := q
      dsimp only at h
      cases ek : nkeyOf k with
      | none => rw [ek] at h; cases h
      | some q =>
        rw [ek] at h
        dsimp only at h
        split at h
        · rename_i hf
          cases h
          obtain ⟨e1, e2, ds, rfl⟩ := nkeyOf_ok ek
          obtain ⟨b, vs, rfl, hb, _⟩ := id hk
          have hq := nk_rd _ _ _ e1 hk
          have hl : xs.length < sizeLine := by have := fits_le hf; rw [h2.length] at this; omega
          have kp : Keep H (upd H (m n) (NDict (m n) (putN xs q b vv))) := ⟨fun a zs e => h1.tup e, fun a o' u e => (by
            rw [upd_ne]
            · exact e
            · rintro rfl; rw [h1.at_] at e; unfold NDict at e; cases e)⟩
          exact ⟨_, .inr ⟨xs, q, b, h1, rfl, hq, e2, hl, rfl⟩, Ext.put R e h1.at_ True.intro ⟨_, h1.put hq e2 hl, RKn.mono' (Nat.le_refl _) (fun _ _ => rfl) kp _ _ (dPut_N h2 ek hk hv)⟩ fun z b hb => dPut_below (below_mono (Nat.zero_le b) _ z) (nk_below _ _ e1) hb⟩
        · cases h
def svPut (fo fi fv : Ev) : Sv := fun ρ S => match fv ρ S with
  | .ok v S1 => match fo ρ S1 with
    | .ok (.ref n) S2 => match fi ρ S2 with
      | .ok k S3 => match S3.dput n k v with
        | some S4 => .nx ρ S4
        | none => .bad
      | .bad => .bad
    | _ => .bad
  | .bad => .bad
theorem psv_put (hu : X.A.units + 64 < cLine) (ho : PE X o (rdE fo)) (hi : PE X i (rdE fi)) (hv : PE X v (rdE fv)) (hs : swapsWith v (some (.Subscript o i pos')) pos.line X.env = pure false) :
    PS X (.Assign [.Subscript o i pos'] v pos) (rdS (svPut fo fi fv)) := PS.of (psA_dput (by omega) ho hi hv hs) fun D σ H h => by
  obtain ⟨m, S, ρ, R, E, q⟩ := h
  unfold svPut at q
  split at q
  · rename_i d S1 h1
    split at q
    · rename_i n S2 h2
      split at q
      · rename_i k S3 h3
        split at q
        · rename_i S4 h4
          refine ⟨m, S, ρ, d, S1, R, E, h1, fun m1 H1 v1 X1 r1 => ⟨m1, S1, ρ, _, S2, X1.rel, E.ext X1, h2, fun m2 H2 v2 X2 r2 => ⟨m2, S2, ρ, k, S3, X2.rel, E.ext (X1.trans X2), h3, fun m3 H3 v3 X3 r3 => ?_⟩⟩⟩
          obtain ⟨H4, g4, X4⟩ := dput_ok X3.rel r3 (r1.ext (X2.trans X3)) h4
          have r2' := RD.ext r2 X3
          rw [r2'.2]
          exact ⟨m3 n, H4, rfl, g4, q m3 H4 σ (X1.trans (X2.trans (X3.trans X4))) (E.ext (X1.trans (X2.trans (X3.trans X4))))⟩
        · exact q.elim
      · exact q.elim
    · exact q.elim
  · exact q.elim

/-! ### methods -/
theorem pev_bm {k : O → Bool} {T id : String} {name : Str} {gm : Nat → List D → Sto → Res D} (pa : PlainAttrs T) (slot : Slot T name id) (hty : typeOf (.builtin id) = pure (.type "method_descriptor")) (hm : MtR X id (rdM gm)) (hT : ∀ m S H n ob, Rel m S H → S.objs[n]? = some ob → k ob = true → tyV X.K T (.ref (m n)) H) (ho : PE X o (rdE fo)) (ha : PA X (e :: es) (rdA g))
    (hbase : attributeBase o name X.env (eval o X.env) = eval o X.env)
    (hfew : ((backTo cpos (starEach (e :: es) X.env)).all (fun x => !x.1) && (backToKw cpos (keywordEach [] X.env)).all (fun x => x.1.isSome)
      && decide ((e :: es).length + ([] : List Keyword).length + (if ([] : List Keyword).isEmpty then 0 else 1) < 30)) = true)
    (hline : (apos.endLine == cpos.line) = true) (hs : starEach (e :: es) X.env = (false, eval e X.env) :: starEach es X.env) (hplain : (backTo cpos (starEach es X.env)).any (·.1) = false) :
    PE X (.Call (.Attribute o name apos) (e :: es) [] cpos) (rdE (evM k gm fo g)) := PE.of (pe_bm pa slot hty hm ho ha hbase hfew hline hs hplain) fun _ _ _ h => rdM_seq hT h
theorem pev_bm0 {k : O → Bool} {T id : String} {name : Str} {gm : Nat → List D → Sto → Res D} (pa : PlainAttrs T) (slot : Slot T name id) (hty : typeOf (.builtin id) = pure (.type "method_descriptor")) (hm : MtR X id (rdM gm)) (hT : ∀ m S H n ob, Rel m S H → S.objs[n]? = some ob → k ob = true → tyV X.K T (.ref (m n)) H) (ho : PE X o (rdE fo))
    (hbase : attributeBase o name X.env (eval o X.env) = eval o X.env) (hline : (apos.endLine == cpos.line) = true) :
    PE X (.Call (.Attribute o name apos) [] [] cpos) (rdE (evM k gm fo evNil)) := PE.of (pe_bm0 pa slot hty hm ho hbase hline) fun σ H Q h => by
  obtain ⟨m, S, ρ, d, S', R, E, e, q⟩ := rdM_seq hT h
  refine ⟨m, S, ρ, d, S', R, E, e, fun m1 H1 v1 X1 r1 => ?_⟩
  obtain ⟨t, m2, S2, ρ2, d2, S3, R2, E2, e2, q2⟩ := q m1 H1 v1 X1 r1
  cases e2
  exact ⟨t, q2 m2 H1 [] (Ext.refl R2) rfl⟩
/-- d.get(k) -/
def getM (n : Nat) : List D → Sto → Res D
  | [k], S => match S.get? n k with
    | some (some d) => .ok d S
    | some none => .ok .non S
    | none => .bad
  | [k, z], S => match S.get? n k with
    | some (some d) => .ok d S
    | some none => .ok z S
    | none => .bad
  | _, _ => .bad
theorem isD_dct {m : Nat → Addr} {S : Sto} {H : Hp} {n : Nat} {ob : O} (R : Rel m S H) (h : S.objs[n]? = some ob) (k : isDct ob = true) : IsDA H (m n) := by
  have q := R.obj n ob h
  cases ob with
  | lst xs => cases k
  | frz xs => cases k
  | set xs => cases k
  | dct kvs => obtain ⟨ps, h1, _⟩ := q; exact .inl (.inl ⟨ps, .inl h1⟩)
  | dctT kvs => obtain ⟨ps, h1, _⟩ := q; exact .inl (.inr ⟨ps, .inl h1⟩)
  | dctN kvs => obtain ⟨ps, h1, _⟩ := q; exact .inr ⟨ps, h1⟩
theorem pev_get1 (hu : X.A.units + 64 < cLine) (ho : PE X o (rdE fo)) (he : PE X e (rdE fe)) (mm : M1 X o "get" apos e cpos) : PE X (.Call (.Attribute o "get" apos) [e] [] cpos) (rdE (evM isDct getM fo (evCons fe evNil))) := PE.of (pe_dget1A (by omega) ho he mm) fun σ H Q h => by
  obtain ⟨m, S, ρ, d, S', R, E, e, q⟩ := h
  obtain ⟨n, S1, ob, xs, S2, h1, h2, h3, h4, h5⟩ := evM_ok e
  refine ⟨m, S, ρ, _, S1, R, E, h1, fun m1 H1 v1 X1 r1 => ⟨m1 n, r1.2, isD_dct X1.rel h2 h3, ?_⟩⟩
  unfold evCons at h4
  split at h4
  · rename_i y S3 h6
    cases h4
    refine ⟨m1, S1, ρ, y, _, X1.rel, E.ext X1, h6, fun m2 H2 v2 X2 r2 => ?_⟩
    simp only [getM] at h5
    split at h5
    · rename_i d0 hd
      cases h5
      obtain ⟨w, g, g1, _⟩ := X2.rel.get r2 hd
      obtain ⟨z, rfl, hz⟩ := g1 _ rfl
      rw [X2.ag n r1.1] at g
      exact ⟨_, g, q m2 H2 _ (X1.trans X2) hz⟩
    · rename_i hd
      cases h5
      obtain ⟨w, g, _, g2⟩ := X2.rel.get r2 hd
      rw [g2 rfl] at g
      rw [X2.ag n r1.1] at g
      exact ⟨_, g, q m2 H2 _ (X1.trans X2) rfl⟩
    · cases h5
  · cases h4

theorem pev_get2 {e2 : Expr} {fe2 : Ev} (hu : X.A.units + 64 < cLine) (ho : PE X o (rdE fo)) (he : PE X e (rdE fe)) (he2 : PE X e2 (rdE fe2)) (mm : M2 X o "get" apos e e2 cpos) : PE X (.Call (.Attribute o "get" apos) [e, e2] [] cpos) (rdE (evM isDct getM fo (evCons fe (evCons fe2 evNil)))) := PE.of (pe_dget2A (by omega) ho he he2 mm) fun σ H Q h => by
  obtain ⟨m, S, ρ, d, S', R, E, e, q⟩ := h
  obtain ⟨n, S1, ob, xs, S2, h1, h2, h3, h4, h5⟩ := evM_ok e
  refine ⟨m, S, ρ, _, S1, R, E, h1, fun m1 H1 v1 X1 r1 => ⟨m1 n, r1.2, isD_dct X1.rel h2 h3, ?_⟩⟩
  unfold evCons at h4
  cases h6 : fe ρ S1 with
  | bad => rw [h6] at h4; cases h4
  | ok y S3 =>
    rw [h6] at h4
    dsimp only at h4
    cases h7 : fe2 ρ S3 with
    | bad => rw [h7] at h4; cases h4
    | ok z S4 =>
      rw [h7] at h4
      cases h4
      refine ⟨m1, S1, ρ, y, S3, X1.rel, E.ext X1, h6, fun m2 H2 v2 X2 r2 => ⟨m2, S3, ρ, z, _, X2.rel, (E.ext X1).ext X2, h7, fun m3 H3 v3 X3 r3 => ?_⟩⟩
      simp only [getM] at h5
      split at h5
      · rename_i d0 hd
        cases h5
        obtain ⟨w, g, g1, _⟩ := X3.rel.get (r2.ext X3) hd
        obtain ⟨z, rfl, hz⟩ := g1 _ rfl
        rw [X3.ag n (Nat.lt_of_lt_of_le r1.1 X2.len), X2.ag n r1.1] at g
        exact ⟨_, g, q m3 H3 _ (X1.trans (X2.trans X3)) hz⟩
      · rename_i hd
        cases h5
        obtain ⟨w, g, _, g2⟩ := X3.rel.get (r2.ext X3) hd
        rw [g2 rfl] at g
        rw [X3.ag n (Nat.lt_of_lt_of_le r1.1 X2.len), X2.ag n r1.1] at g
        exact ⟨_, g, q m3 H3 _ (X1.trans (X2.trans X3)) r3⟩
      · cases h5

/-! ### facts of the syntax -/
def noStar : Expr → Bool
  | .Starred _ _ => false
  | _ => true
theorem star_cons {env : Env} (h : noStar e = true) : starEach (e :: es) env = (false, eval e env) :: starEach es env := by
  cases e <;> first | rfl | cases h
theorem star_plain {env : Env} : ∀ {es : List Expr}, es.all noStar = true → (backTo pos (starEach es env)).any (·.1) = false
  | [], _ => rfl
  | e :: es, h => by
    simp only [List.all_cons, Bool.and_eq_true] at h
    rw [star_cons h.1]
    have ih := star_plain (env := env) h.2
    unfold backTo at ih ⊢
    rw [List.map_cons, List.any_cons, ih]
    rfl
theorem star_few {env : Env} : ∀ {es : List Expr}, es.all noStar = true → (backTo pos (starEach es env)).all (fun x => !x.1) = true
  | [], _ => rfl
  | e :: es, h => by
    simp only [List.all_cons, Bool.and_eq_true] at h
    rw [star_cons h.1]
    have ih := star_few (env := env) h.2
    unfold backTo at ih ⊢
    rw [List.map_cons, List.all_cons, ih]
    rfl
def noSlice : Expr → Bool
  | .Slice _ _ _ _ => false
  | _ => true
theorem plainIx_of (h : noSlice e = true) : PlainIx e := by
  intro o i
  cases e <;> first | rfl | cases h
def noSuper : Expr → Bool
  | .Call (.Name _ _) [] [] _ => false
  | _ => true
theorem base_of {env : Env} {w : Sem Value} (h : noSuper e = true) : attributeBase e x env w = w := by
  unfold attributeBase
  split
  · cases h
  · rfl
def noSet : Expr → Bool
  | .Set _ _ _ => false
  | _ => true
theorem behind_of {op : CmpOp} (h : noSet e = true) : behindInMarks op e = false := by
  cases e <;> first | rfl | cases h
theorem last_of {op op' : CmpOp} (h : noSet b = true) : lastMarks [op, op'] [a, b] = false := by
  show behindInMarks op' b = false
  exact behind_of h
theorem folded_of {env : Env} (h : noSet e = true) : ∀ y, foldedSetIterable e env y = pure y := by
  intro y
  cases e <;> first | rfl | cases h
/-- its test is its value's truth -/
def plainT : Expr → Bool
  | .UnaryOp .Not _ _ => false
  | .BoolOp _ _ _ => false
  | .IfExp _ _ _ _ => false
  | .Compare _ _ _ _ => false
  | _ => true
theorem true_of {env : Env} (h : plainT e = true) : ∀ whole, isTrue e env whole = (do let v ← whole; standAt e.pos; holding [v] (truthy v)) := by
  intro whole
  cases e with
  | UnaryOp op x p => cases op <;> first | rfl | cases h
  | BoolOp => cases h
  | IfExp => cases h
  | Compare => cases h
  | _ => rfl
def noComp : Expr → Bool
  | .ListComp _ _ _ _ => false
  | .SetComp _ _ _ _ => false
  | .DictComp _ _ _ _ _ => false
  | _ => true
theorem swap_of {t : Option Expr} {l : Nat} {env : Env} (h : noComp e = true) : swapsWith e t l env = pure false := by
  cases e <;> first | rfl | cases h
theorem swap_sub {o i : Expr} {l : Nat} {env : Env} : swapsWith e (some (.Subscript o i pos)) l env = pure false := by
  cases e <;> rfl
def noTup : Expr → Bool
  | .Tuple _ _ _ => false
  | _ => true
theorem sws_of {tg : Expr} {env : Env} (h : noTup e = true) : swappedStores [tg] e env = pure none := by
  unfold swappedStores
  cases e <;> first | (cases tg <;> rfl) | cases h
end
end Sw

/-! Eng12b: comprehensions of two loops, orders of tuples, sorted, repetition, sets that are only counted. -/
namespace Sw
open PySem PySem.Spec PyProof.Rows L2
/-- the inner turns -/
def comp1L (src : Src) (n : Nat) (g : Gv) (ft fe : Ev) (ρ : En) : Nat → Nat → Sto → Res Unit
  | 0, _, _ => .bad
  | k + 1, i, S => match src.next S i with
    | some (some d) => match g d ρ S with
      | .ok ρ1 S1 => match ft ρ1 S1 with
        | .ok (.bl b) S2 => match b with
          | true => match fe ρ1 S2 with
            | .ok y S3 => match S3.objs[n]? with
              | some (.lst acc) => match fits (acc.length + 1) with
                | true => comp1L src n g ft fe ρ k (i + 1) (S3.put n (.lst (acc ++ [y])) (y.blw 0))
                | false => .bad
              | _ => .bad
            | .bad => .bad
          | false => comp1L src n g ft fe ρ k (i + 1) S2
        | _ => .bad
      | .bad => .bad
    | some none => .ok () S
    | none => .bad
/-- the outer turns -/
def comp2L (src : Src) (n : Nat) (g : Gv) (ft : Ev) (fi1 : Iv) (vs1 : List Nat) (g1 : Gv) (ft1 fe : Ev) (ρ : En) : Nat → Nat → Sto → Res D
  | 0, _, _ => .bad
  | k + 1, i, S => match src.next S i with
    | some (some d) => match g d ρ S with
      | .ok ρ1 S1 => match ft ρ1 S1 with
        | .ok (.bl b) S2 => match b with
          | true => match fi1 ρ1 S2 with
            | .ok src1 S3 => match comp1L src1 n g1 ft1 fe (wipeE ρ1 vs1) (src1.turns S3 + 1) 0 S3 with
              | .ok _ S4 => comp2L src n g ft fi1 vs1 g1 ft1 fe ρ k (i + 1) S4
              | .bad => .bad
            | .bad => .bad
          | false => comp2L src n g ft fi1 vs1 g1 ft1 fe ρ k (i + 1) S2
        | _ => .bad
      | .bad => .bad
    | some none => .ok (.ref n) S
    | none => .bad
def evComp2 (fi : Iv) (vs : List Nat) (g : Gv) (ft : Ev) (fi1 : Iv) (vs1 : List Nat) (g1 : Gv) (ft1 fe : Ev) : Ev := fun ρ S => match fi ρ S with
  | .ok src S1 => comp2L src S1.len g ft fi1 vs1 g1 ft1 fe (wipeE ρ vs) (src.turns S1 + 1) 0 (S1.add (.lst []))
  | .bad => .bad
/-- {k: v}, k a tuple -/
def evDisp (fk fv : Ev) : Ev := fun ρ S => match fk ρ (S.add (.dctT [])) with
  | .ok k S1 => match fv ρ S1 with
    | .ok v S2 => match S2.objs[S.len]? with
      | some (.dctT []) => match S2.dput S.len k v with
        | some S3 => .ok (.ref S.len) S3
        | none => .bad
      | _ => .bad
    | .bad => .bad
  | .bad => .bad
/-- list(enumerate(x)) -/
def enumPairs : Nat → List D → List D
  | _, [] => []
  | i, d :: r => .tup [.int (i : Nat), d] :: enumPairs (i + 1) r
def lenumN : List D → Sto → Res D
  | [.tup xs], S => match fits xs.length with
    | true => newL S (enumPairs 0 xs)
    | false => .bad
  | _, _ => .bad
/-- an order of two data -/
def ord? (S : Sto) (x y : D) : Option (PyData × PyData) := match res S x with
  | some p => match res S y with
    | some q => match PySem.W.alike p q && Nat.ble p.depth 60 with
      | true => some (p, q)
      | false => none
    | none => none
  | none => none
/-- < > <= >= -/
def cmpD (pi : Int → Int → Bool) (pd : PyData → PyData → Bool) : D → D → Sto → Res D
  | .int i, .int j, S => .ok (.bl (pi i j)) S
  | .tup xs, .tup ys, S => match ord? S (.tup xs) (.tup ys) with
    | some (p, q) => .ok (.bl (pd p q)) S
    | none => .bad
  | _, _, _ => .bad
def ltD := cmpD (fun i j => decide (i < j)) PySem.W.dataLt
def gtD := cmpD (fun i j => decide (j < i)) fun p q => PySem.W.dataLt q p
def leD := cmpD (fun i j => decide (i ≤ j)) fun p q => !PySem.W.dataLt q p
def geD := cmpD (fun i j => decide (j ≤ i)) fun p q => !PySem.W.dataLt p q
def insD (x : PyData × D) : List (PyData × D) → List (PyData × D)
  | [] => [x]
  | y :: r => match PySem.W.dataLt y.1 x.1 with
    | true => y :: insD x r
    | false => x :: y :: r
def sortL : List (PyData × D) → List (PyData × D)
  | [] => []
  | x :: r => insD x (sortL r)
def resPairs (S : Sto) : List D → Option (List (PyData × D))
  | [] => some []
  | d :: r => match res S d with
    | some p => match resPairs S r with
      | some ps => some ((p, d) :: ps)
      | none => none
    | none => none
def isTupP : PyData → Bool
  | .tuple (_ :: _) => true
  | _ => false
def isFlatP : PyData → Bool
  | .int _ => true
  | .str _ => true
  | _ => false
def sortOk (ps : List (PyData × D)) : Bool := (ps.all fun p => ps.all fun q => PySem.W.alike p.1 q.1) && ((ps.all fun p => isTupP p.1) || ps.all fun p => isFlatP p.1) && (ps.all fun p => Nat.ble p.1.depth 60) && fits ps.length
def sortedN : List D → Sto → Res D
  | [.ref n], S => match S.list? n with
    | some xs => match resPairs S xs with
      | some ps => match sortOk ps with
        | true => newL S ((sortL ps).map (·.2))
        | false => .bad
      | none => .bad
    | none => .bad
  | _, _ => .bad
def repL (xs : List D) : Nat → List D
  | 0 => []
  | n + 1 => xs ++ repL xs n
def mulD2 : D → D → Sto → Res D
  | .tup (x :: xs), .int j, S => match decide (0 ≤ j) && decide (j ≤ 1000) && Nat.ble (xs.length + 1) 1000 with
    | true => .ok (.tup (repL (x :: xs) j.toNat)) S
    | false => .bad
  | .ref n, .int j, S => match S.objs[n]? with
    | some (.lst xs) => match decide (0 ≤ j) && decide (j ≤ 1000) && fits (xs.length * j.toNat) with
      | true => newL S (repL xs j.toNat)
      | false => .bad
    | _ => .bad
  | x, y, S => mulD x y S
/-- the turns of a set's comprehension, the set of whole numbers has the number n -/
def scL (src : Src) (n : Nat) (g : Gv) (ft fe : Ev) (ρ : En) : Nat → Nat → Sto → Res D
  | 0, _, _ => .bad
  | k + 1, i, S => match src.next S i with
    | some (some d) => match g d ρ S with
      | .ok ρ1 S1 => match ft ρ1 S1 with
        | .ok (.bl b) S2 => match b with
          | true => match fe ρ1 S2 with
            | .ok (.int y) S3 => match S3.objs[n]? with
              | some (.set acc) => match Nat.ble (acc.length + 2) scanBound with
                | true => scL src n g ft fe ρ k (i + 1) (S3.put n (.set (match acc.contains y with | true => acc | false => y :: acc)) true)
                | false => .bad
              | _ => .bad
            | _ => .bad
          | false => scL src n g ft fe ρ k (i + 1) S2
        | _ => .bad
      | .bad => .bad
    | some none => .ok (.ref n) S
    | none => .bad
def evSc (fi : Iv) (vs : List Nat) (g : Gv) (ft fe : Ev) : Ev := fun ρ S => match fi ρ S with
  | .ok src S1 => scL src S1.len g ft fe (wipeE ρ vs) (src.turns S1 + 1) 0 (S1.add (.set []))
  | .bad => .bad
def lenSN : List D → Sto → Res D
  | [.ref n], S => match S.objs[n]? with
    | some (.set xs) => match Nat.ble (xs.length + 1) scanBound with
      | true => .ok (.int (xs.length : Nat)) S
      | false => .bad
    | _ => .bad
  | _, _ => .bad
end Sw

/-! Eng12c: orders of tuples, repetition, comprehensions of two loops: right. -/
namespace Sw
open PySem PySem.Spec PyProof.Rows L2
section
variable {X : Cx}
theorem ord_wit {pins : List (Addr × Obj)} {s : Shared} {σ : L2.St} {m : Nat → Addr} {S : Sto} {H : Hp} (I : Inv X pins σ H s) (R : Rel m S H) {x y : D} {xv yv : V} {u w : Value} {p q : PyData} (hx : RD m S.len H x xv) (hy : RD m S.len H y yv) (rx : RelV xv u) (ry : RelV yv w) (e : ord? S x y = some (p, q)) :
    res S x = some p ∧ ∃ as bs, Reads s.heap u p as ∧ Reads s.heap w q bs ∧ PySem.W.alike p q = true ∧ p.depth ≤ 60 := by
  unfold ord? at e
  split at e
  · rename_i p' hp
    split at e
    · rename_i q' hq
      split at e
      · rename_i hd
        cases e
        obtain ⟨h1, h2⟩ := Bool.and_eq_true_iff.mp hd
        obtain ⟨d1, p1⟩ := res_dp R hx hp
        obtain ⟨d2, p2⟩ := res_dp R hy hq
        obtain ⟨as, r1⟩ := Dp.reads I p xv u d1 rx
        obtain ⟨bs, r2⟩ := Dp.reads I q yv w d2 ry
        exact ⟨hp, as, bs, r1, r2, h1, Nat.le_of_ble_eq_true h2⟩
      · cases e
    · cases e
  · cases e
theorem res_tup {S : Sto} {xs : List D} {p : PyData} (e : res S (.tup xs) = some p) : p ≠ .none := by
  intro z
  subst z
  unfold res at e
  simp only [resW] at e
  split at e <;> cases e
theorem opv_ord {op : CmpOp} {pi : Int → Int → Bool} {pd : PyData → PyData → Bool} (hi : OpR X (compareOp op) (rI0 fun i j => .bl (pi i j)))
    (hd : ∀ {s : Shared} {a b : Value} {da db : PyData} {as bs : List Addr} {Q : Value → Shared → Prop}, Reads s.heap a da as → Reads s.heap b db bs → PySem.W.alike da db = true → da ≠ .none → X.A.units + min da.depth db.depth < cLine → Q (.bool (pd da db)) s → wpAny (model X.prog X.w) X.A (compareOp op a b) Q X.xe s)
    (hu : X.A.units + 64 < cLine) : OpR X (compareOp op) (rd2 (cmpD pi pd)) := by
  intro pins s σ H x y v u Q I rx ry h
  obtain ⟨m, S, d1, d2, d, S', R, r1, r2, e, q⟩ := h
  unfold cmpD at e
  split at e
  · cases e
    exact hi pins s σ H x y v u Q I rx ry ⟨_, _, r1, r2, rdPure R q rfl⟩
  · split at e
    · rename_i p' q' ho
      cases e
      obtain ⟨hr, as, bs, a1, a2, a3, a4⟩ := ord_wit I R r1 r2 rx ry ho
      refine hd a1 a2 a3 (res_tup hr) (by have := Nat.min_le_left p'.depth q'.depth; omega) ?_
      exact ⟨.bl _, H, I, rfl, rdPure R q rfl⟩
    · cases e
  · cases e
theorem repL_eq (xs : List D) : ∀ n, repL xs n = (List.replicate n xs).flatten
  | 0 => rfl
  | n + 1 => by unfold repL; rw [repL_eq xs n, List.replicate_succ, List.flatten_cons]
theorem RDs.rep {m : Nat → Addr} {k : Nat} {H : Hp} {xs : List D} {vs : List V} (h : RDs m k H xs vs) : ∀ n, RDs m k H (repL xs n) (List.replicate n vs).flatten
  | 0 => rfl
  | n + 1 => by
    unfold repL
    rw [List.replicate_succ, List.flatten_cons]
    exact h.append (RDs.rep h n)
theorem opv_mul2 : OpR X (binaryOp .Mult) (rd2 mulD2) := fun pins s σ H x y v u Q I rx ry h => by
  obtain ⟨m, S, d1, d2, d, S', R, r1, r2, e, q⟩ := h
  unfold mulD2 at e
  split at e
  · rename_i x0 xs j
    split at e
    · rename_i hb
      cases e
      simp only [Bool.and_eq_true, decide_eq_true_eq] at hb
      obtain ⟨a, vs, rfl, ha, qs⟩ := r1
      have hl : vs.length = xs.length + 1 := by rw [← qs.length]; rfl
      have h3 := Nat.le_of_ble_eq_true hb.2
      have hne : vs ≠ [] := by intro z; rw [z] at hl; cases hl
      by_cases h0 : j = 0
      · subst h0
        exact op_rep0 pins s σ H _ _ v u Q I rx ry ⟨a, vs, rfl, r2, .of ha, hne, goTup R (ds := []) rfl q⟩
      by_cases h1 : j = 1
      · subst h1
        refine op_rep1 pins s σ H _ _ v u Q I rx ry ⟨a, vs, rfl, r2, .of ha, hne, ?_⟩
        have e1 : repL (x0 :: xs) (1 : Int).toNat = x0 :: xs := by show repL (x0 :: xs) 1 = _; simp only [repL, List.append_nil]
        exact q m H _ (Ext.refl R) (by rw [e1]; exact ⟨a, vs, rfl, ha, qs⟩)
      refine op_repT pins s σ H _ _ v u Q I rx ry ⟨a, j, vs, rfl, r2, .of ha, hne, by omega, hb.1.2, by omega, ?_⟩
      exact goTup R (RDs.rep qs j.toNat) q
    · cases e
  · rename_i n j
    split at e
    · rename_i xs ho
      split at e
      · rename_i hb
        cases e
        simp only [Bool.and_eq_true, decide_eq_true_eq] at hb
        obtain ⟨vs, g1, g2⟩ := R.obj _ _ ho
        have hz := fits_le hb.2
        rw [g2.length] at hz
        exact op_rep pins s σ H _ _ v u Q I rx ry ⟨_, j, vs, r1.2, r2, g1, by omega, by omega, hz, goLst R (RDs.rep g2 j.toNat) q⟩
      · cases e
    · cases e
  · exact opv_mul pins s σ H x y v u Q I rx ry ⟨m, S, _, _, d, S', R, r1, r2, e, q⟩
/-- the inner turns, as they are read -/
theorem rd_in {src : Src} {n : Nat} {g : Gv} {ft fe : Ev} {ρ1 : En} {vs1 : List Nat} {σ2 : L2.St} {H4 : Hp} {L : Addr} {J1 : It} {Nx : Hp → Prop} {m3 : Nat → Addr} {S3 S4 : Sto} {K : Nat}
    (hml : m3 n = L) (hln : n < S3.len) (E3 : REnv m3 S3.len H4 ρ1 σ2) (R3 : Rel m3 S3 H4) (OK : ItOk m3 S3 H4 src J1)
    (e : comp1L src n g ft fe (wipeE ρ1 vs1) K 0 S3 = .ok () S4) (q : ∀ m' H', Ext m3 m' S3 S4 H4 H' → Nx H') :
    ∃ W1 : Nat → Nat → Hp → Prop, (∃ m, W1 0 m H4) ∧ ∀ j k H, W1 j k H →
      (J1.stop j H ∧ Nx H) ∨ (J1.go j H ∧ ∃ Nx1 : Hp → Prop, (∀ H', Nx1 H' → ∃ k', k' < k ∧ W1 (j + 1) k' H') ∧ ∀ x H', J1.yld j H x H' → rdG vs1 g x (wipe σ2 vs1) H' fun σ3 H5 => wipe σ3 vs1 = wipe σ2 vs1 ∧ rdT ft σ3 H5 fun b H6 =>
        if b = true then rdE fe σ3 H6 fun y H7 => ∃ acc, H7 L = some (.lst acc) ∧ acc.length < sizeLine ∧ Nx1 (upd H7 L (.lst (acc ++ [y]))) else Nx1 H6) := by
  refine ⟨fun i k H => ∃ m2 S2, Ext m3 m2 S3 S2 H4 H ∧ ∃ S', comp1L src n g ft fe (wipeE ρ1 vs1) k i S2 = .ok () S' ∧ ∀ m' H', Ext m2 m' S2 S' H H' → Nx H', ⟨K, m3, S3, Ext.refl R3, S4, e, fun m' H' X' => q m' H' X'⟩, ?_⟩
  rintro i k H ⟨m2, S2, X2, S', e, q⟩
  have hm2 : m2 n = L := by rw [X2.ag n hln]; exact hml
  have E2 := E3.ext X2
  cases k with
  | zero => cases e
  | succ k =>
    simp only [comp1L] at e
    obtain ⟨ok1, ok2⟩ := OK m2 S2 H i X2.x
    split at e
    · rename_i d0 hd
      obtain ⟨go, yl⟩ := ok1 d0 hd
      refine .inr ⟨go, fun H => ∃ m2 S2, Ext m3 m2 S3 S2 H4 H ∧ ∃ S', comp1L src n g ft fe (wipeE ρ1 vs1) k (i + 1) S2 = .ok () S' ∧ ∀ m' H', Ext m2 m' S2 S' H H' → Nx H', fun H' z => ⟨k, Nat.lt_succ_self k, z⟩, fun x H' y => ?_⟩
      obtain ⟨XY, rx⟩ := yl x H' y
      split at e
      · rename_i ρ2 S5 h3
        refine ⟨m2, S2, wipeE ρ1 vs1, d0, ρ2, S5, XY.rel, (E2.ext XY).wipe vs1, rx, h3, fun m5 H5 σ5 X5 E5 C5 => ⟨wipe_chg C5, ?_⟩⟩
        split at e
        · rename_i b S6 h4
          refine ⟨m5, S5, ρ2, b, S6, X5.rel, E5, h4, fun m6 H6 X6 => ?_⟩
          have X26 := XY.trans (X5.trans X6)
          cases b with
          | false =>
            dsimp only
            rw [if_neg Bool.false_ne_true]
            exact ⟨m6, S6, X2.trans X26, S', e, fun m' H' X' => q m' H' (X26.trans X')⟩
          | true =>
            dsimp only at e ⊢
            rw [if_pos rfl]
            split at e
            · rename_i y0 S7 h5
              refine ⟨m6, S6, ρ2, y0, S7, X6.rel, E5.ext X6, h5, fun m7 H7 v7 X7 r7 => ?_⟩
              split at e
              · rename_i acc ha
                split at e
                · rename_i hf
                  have X27 := X26.trans X7
                  have hm7 : m7 n = L := by rw [X27.ag n (Nat.lt_of_lt_of_le hln X2.len)]; exact hm2
                  obtain ⟨ws, hw1, hw2⟩ := X7.rel.obj _ _ ha
                  have X8 := goPut (ok := y0.blw 0) X7.rel ha hw1 (hw2.append (.one r7)) (fun z b hb => by rw [blws_append, hb]; simp only [D.blws, below_mono (Nat.zero_le b) _ z, Bool.and_self])
                  rw [hm7] at hw1 X8
                  refine ⟨ws, hw1, ?_, m7, _, X2.trans (X27.trans X8), S', e, fun m' H' X' => q m' H' (X27.trans (X8.trans X'))⟩
                  have := fits_le hf
                  rw [hw2.length] at this
                  omega
                · cases e
              · cases e
            · cases e
        · cases e
      · cases e
    · rename_i hd
      cases e
      exact .inl ⟨ok2 hd, q m2 H (Ext.refl X2.rel)⟩
    · cases e
theorem rd_comp2 {fi fi1 : Iv} {vs vs1 : List Nat} {g g1 : Gv} {ft ft1 fe : Ev} {σ : L2.St} {H : Hp} {Q : VK} (h : rdE (evComp2 fi vs g ft fi1 vs1 g1 ft1 fe) σ H Q) : tLc2 (rdI fi) (rdG vs g) (rdT ft) (rdI fi1) (rdG vs1 g1) (rdT ft1) (rdE fe) vs vs1 σ H Q := by
  obtain ⟨m, S, ρ, d, S', R, E, e, q⟩ := h
  unfold evComp2 at e
  cases h0 : fi ρ S with
  | bad => rw [h0] at e; cases e
  | ok src S1 =>
    rw [h0] at e
    dsimp only at e
    refine ⟨m, S, ρ, src, S1, R, E, h0, fun m0 H0 J X0 OK L hL => ?_⟩
    have XA : Ext m0 (withAt m0 S1.len L) S1 (S1.add (.lst [])) H0 (upd H0 L (.lst [])) := Ext.add X0.rel hL ⟨[], upd_same, rfl⟩
    have hml : withAt m0 S1.len L S1.len = L := withAt_same ..
    have hln : S1.len < (S1.add (.lst [])).len := by rw [Sto.add_len]; exact Nat.lt_succ_self _
    generalize withAt m0 S1.len L = mA at XA hml
    generalize S1.add (.lst []) = SA at e XA hln
    generalize upd H0 L (.lst []) = HA at XA
    generalize S1.len = n at e hml hln
    refine ⟨fun i k H => ∃ m2 S2, Ext mA m2 SA S2 HA H ∧ ∃ d S', comp2L src n g ft fi1 vs1 g1 ft1 fe (wipeE ρ vs) k i S2 = .ok d S' ∧ ∀ m' H' v, Ext m2 m' S2 S' H H' → RD m' S'.len H' d v → Q v H', ⟨_, mA, SA, Ext.refl XA.rel, d, S', e, fun m' H' v X' r' => q m' H' v (X0.trans (XA.trans X')) r'⟩, ?_⟩
    rintro i k H ⟨m2, S2, X2, d, S', e, q⟩
    have hm2 : m2 n = L := by rw [X2.ag n hln]; exact hml
    have X02 := X0.trans (XA.trans X2)
    have E2 := E.ext X02
    cases k with
    | zero => cases e
    | succ k =>
      simp only [comp2L] at e
      obtain ⟨ok1, ok2⟩ := OK m2 S2 H i (XA.trans X2).x
      split at e
      · rename_i d0 hd
        obtain ⟨go, yl⟩ := ok1 d0 hd
        refine .inr ⟨go, fun H => ∃ m2 S2, Ext mA m2 SA S2 HA H ∧ ∃ d S', comp2L src n g ft fi1 vs1 g1 ft1 fe (wipeE ρ vs) k (i + 1) S2 = .ok d S' ∧ ∀ m' H' v, Ext m2 m' S2 S' H H' → RD m' S'.len H' d v → Q v H', fun H' z => ⟨k, Nat.lt_succ_self k, z⟩, fun x H' y => ?_⟩
        obtain ⟨XY, rx⟩ := yl x H' y
        split at e
        · rename_i ρ1 S3 h3
          refine ⟨m2, S2, wipeE ρ vs, d0, ρ1, S3, XY.rel, (E2.ext XY).wipe vs, rx, h3, fun m3 H3 σ3 X3 E3 C3 => ⟨wipe_chg C3, ?_⟩⟩
          split at e
          · rename_i b S4 h4
            refine ⟨m3, S3, ρ1, b, S4, X3.rel, E3, h4, fun m4 H4 X4 => ?_⟩
            have X24 := XY.trans (X3.trans X4)
            cases b with
            | false =>
              dsimp only
              rw [if_neg Bool.false_ne_true]
              exact ⟨m4, S4, X2.trans X24, d, S', e, fun m' H' v X' r' => q m' H' v (X24.trans X') r'⟩
            | true =>
              dsimp only at e ⊢
              rw [if_pos rfl]
              split at e
              · rename_i src1 S5 h5
                refine ⟨m4, S4, ρ1, src1, S5, X4.rel, E3.ext X4, h5, fun m5 H5 J1 X5 OK1 => ?_⟩
                split at e
                · rename_i u S6 h6
                  have X25 := X24.trans X5
                  have hm5 : m5 n = L := by rw [X25.ag n (Nat.lt_of_lt_of_le hln X2.len)]; exact hm2
                  refine rd_in hm5 (Nat.lt_of_lt_of_le hln (Nat.le_trans X2.len X25.len)) ((E3.ext X4).ext X5) X5.rel OK1 h6 fun m' H' X6 => ?_
                  exact ⟨m', S6, X2.trans (X25.trans X6), d, S', e, fun m'' H'' v X' r' => q m'' H'' v (X25.trans (X6.trans X')) r'⟩
                · cases e
              · cases e
          · cases e
        · cases e
      · rename_i hd
        cases e
        exact .inl ⟨ok2 hd, q m2 H _ (Ext.refl X2.rel) ⟨Nat.lt_of_lt_of_le hln X2.len, by rw [hm2]⟩⟩
      · cases e
variable {elt tg iter tg1 iter1 : Expr} {ifs ifs1 : List Expr} {scope : Scope} {own : List (Str × Nat)} {vs1 : List Nat} {pos : Pos} {fi fi1 : Iv} {g g1 : Gv} {ft ft1 fe : Ev}
theorem pev_comp2 (hc : X.calm = true) (hN : X.N.Nodup) (hi : PI X tg iter (rdI fi)) (ok : BlkOk X.N X.env.scope scope own) (hv : ∀ i ∈ vs1, i ∈ own.map (·.2))
    (hg : ∀ (s : Shared) (H : Hp) (C : Addr) (cl : List (Str × Addr)) (fp : List Addr), PG (X.blk s H scope (compEnvC scope cl C X.env) fp) tg (rdG (own.map (·.2)) g)) (ht : ∀ (s : Shared) (H : Hp) (C : Addr) (cl : List (Str × Addr)) (fp : List Addr), PTs (X.blk s H scope (compEnvC scope cl C X.env) fp) ifs (rdT ft))
    (hi1 : ∀ (s : Shared) (H : Hp) (C : Addr) (cl : List (Str × Addr)) (fp : List Addr), PI (X.blk s H scope (compEnvC scope cl C X.env) fp) tg1 iter1 (rdI fi1))
    (hg1 : ∀ (s : Shared) (H : Hp) (C : Addr) (cl : List (Str × Addr)) (fp : List Addr), PG (X.blk s H scope (compEnvC scope cl C X.env) fp) tg1 (rdG vs1 g1)) (ht1 : ∀ (s : Shared) (H : Hp) (C : Addr) (cl : List (Str × Addr)) (fp : List Addr), PTs (X.blk s H scope (compEnvC scope cl C X.env) fp) ifs1 (rdT ft1))
    (he : ∀ (s : Shared) (H : Hp) (C : Addr) (cl : List (Str × Addr)) (fp : List Addr), PE (X.blk s H scope (compEnvC scope cl C X.env) fp) elt (rdE fe)) (hs : ∀ x, foldedSetIterable iter X.env x = pure x) (hs1 : ∀ env x, foldedSetIterable iter1 env x = pure x) :
    PE X (.ListComp elt [⟨tg, iter, ifs, 0⟩, ⟨tg1, iter1, ifs1, 0⟩] scope pos) (rdE (evComp2 fi (own.map (·.2)) g ft fi1 vs1 g1 ft1 fe)) := PE.of (pe_lc2 hc hN hi ok hv hg ht hi1 hg1 ht1 he hs hs1) fun _ _ _ h => rd_comp2 h
theorem psv_setComp2 {i : Nat} {y : Str} {py spos : Pos} (hc : X.calm = true) (hN : X.N.Nodup) (hy : X.N[i]? = some y) (hyl : X.env.scope.names.lookup y = some .local)
    (hsw : swapsWith (.ListComp elt [⟨tg, iter, ifs, 0⟩, ⟨tg1, iter1, ifs1, 0⟩] scope pos) (some (.Name y py)) spos.line X.env = pure true) (hi : PI X tg iter (rdI fi)) (ok : BlkOk X.N X.env.scope scope own) (hv : ∀ i ∈ vs1, i ∈ own.map (·.2))
    (hg : ∀ (s : Shared) (H : Hp) (C : Addr) (cl : List (Str × Addr)) (fp : List Addr), PG (X.blk s H scope (compEnvC scope cl C X.env) fp) tg (rdG (own.map (·.2)) g)) (ht : ∀ (s : Shared) (H : Hp) (C : Addr) (cl : List (Str × Addr)) (fp : List Addr), PTs (X.blk s H scope (compEnvC scope cl C X.env) fp) ifs (rdT ft))
    (hi1 : ∀ (s : Shared) (H : Hp) (C : Addr) (cl : List (Str × Addr)) (fp : List Addr), PI (X.blk s H scope (compEnvC scope cl C X.env) fp) tg1 iter1 (rdI fi1))
    (hg1 : ∀ (s : Shared) (H : Hp) (C : Addr) (cl : List (Str × Addr)) (fp : List Addr), PG (X.blk s H scope (compEnvC scope cl C X.env) fp) tg1 (rdG vs1 g1)) (ht1 : ∀ (s : Shared) (H : Hp) (C : Addr) (cl : List (Str × Addr)) (fp : List Addr), PTs (X.blk s H scope (compEnvC scope cl C X.env) fp) ifs1 (rdT ft1))
    (he : ∀ (s : Shared) (H : Hp) (C : Addr) (cl : List (Str × Addr)) (fp : List Addr), PE (X.blk s H scope (compEnvC scope cl C X.env) fp) elt (rdE fe)) (hs : ∀ x, foldedSetIterable iter X.env x = pure x) (hs1 : ∀ env x, foldedSetIterable iter1 env x = pure x) :
    PS X (.Assign [.Name y py] (.ListComp elt [⟨tg, iter, ifs, 0⟩, ⟨tg1, iter1, ifs1, 0⟩] scope pos) spos) (rdS (svAsg (evComp2 fi (own.map (·.2)) g ft fi1 vs1 g1 ft1 fe) (gvName i))) := PS.of (ps_setLc2 hc hN hy hyl hsw hi ok hv hg ht hi1 hg1 ht1 he hs hs1) fun D σ H h => by
  obtain ⟨m, S, ρ, d, S1, R, E, h1, q⟩ := rd_asg (sl := [i]) h
  have h2 : rdE (evComp2 fi (own.map (·.2)) g ft fi1 vs1 g1 ft1 fe) σ H (fun x H1 => gName i x σ H1 D.nx) := ⟨m, S, ρ, d, S1, R, E, h1, fun m1 H1 v1 X1 r1 => by
    obtain ⟨m2, S2, ρ2, d2, ρ', S', R2, E2, r2, e2, q2⟩ := q m1 H1 v1 X1 r1
    cases e2
    exact q2 m2 H1 _ (Ext.refl R2) (E2.set i r2) (Chg.set (List.mem_singleton.mpr rfl) _)⟩
  exact rd_comp2 h2
end
end Sw

/-! Eng12d: sorted. -/
namespace Sw
open PySem PySem.Spec PyProof.Rows L2
abbrev leP : PyData × D → PyData × D → Bool := PySem.W.dataLe false fun b : PyData × D => b.1
theorem leP_eq (a b : PyData × D) : leP a b = !PySem.W.dataLt b.1 a.1 := rfl
theorem insD_eq {x : PyData × D} : ∀ {l₁ l₂ : List (PyData × D)}, (∀ b ∈ l₁, leP x b = false) → (∀ b ∈ l₂, leP x b = true) → insD x (l₁ ++ l₂) = l₁ ++ x :: l₂
  | [], [], _, _ => rfl
  | [], y :: r, _, h => by
    have h1 := h y List.mem_cons_self
    rw [leP_eq, Bool.not_eq_true'] at h1
    show insD x (y :: r) = _
    unfold insD
    rw [h1]
    rfl
  | y :: r, l₂, h, h2 => by
    have h1 := h y List.mem_cons_self
    rw [leP_eq, Bool.not_eq_false'] at h1
    show insD x (y :: (r ++ l₂)) = _
    unfold insD
    rw [h1]
    show y :: insD x (r ++ l₂) = _
    rw [insD_eq (fun b hb => h b (List.mem_cons_of_mem _ hb)) h2]
    rfl
theorem leP_tot : PySem.W.TotalLe leP := PySem.W.sortLe_total _ _ _
theorem sortL_eq : ∀ l : List (PyData × D), sortL l = l.mergeSort leP
  | [] => by simp [sortL]
  | x :: l => by
    have tr : ∀ a b c : PyData × D, leP a b = true → leP b c = true → leP a c = true := fun a b c => leP_tot.trans a b c
    have to : ∀ a b : PyData × D, (leP a b || leP b a) = true := fun a b => Bool.or_eq_true_iff.mpr (leP_tot.total a b)
    obtain ⟨l₁, l₂, h1, h2, h3⟩ := List.mergeSort_cons tr to x l
    unfold sortL
    rw [sortL_eq l, h1, h2]
    refine insD_eq (fun b hb => by have := h3 b hb; simpa using this) fun b hb => ?_
    have hs := List.pairwise_mergeSort tr to (x :: l)
    rw [h1] at hs
    have hs2 := (List.pairwise_append.mp hs).2.1
    exact (List.pairwise_cons.mp hs2).1 b hb
section
variable {X : Cx}
theorem resPairs_each {pins : List (Addr × Obj)} {s : Shared} {σ : L2.St} {m : Nat → Addr} {S : Sto} {H : Hp} (I : Inv X pins σ H s) (R : Rel m S H) : ∀ {xs : List D} {vs : List V} {us : List Value} {ps : List (PyData × D)}, RDs m S.len H xs vs → Vals vs us → resPairs S xs = some ps →
    PySem.W.EachIs (fun u b => ∃ v, RelV v u ∧ RD m S.len H b.2 v) us ps ∧ PySem.W.EachIs (fun u (b : PyData × D) => ∃ as, Reads s.heap u b.1 as) us ps
  | [], vs, us, ps, r, z, e => by
    cases (show vs = [] from r)
    cases z
    cases e
    exact ⟨.nil, .nil⟩
  | d :: xs, vs, us, ps, r, z, e => by
    obtain ⟨v, vs, rfl, r1, r2⟩ := r
    cases z with
    | cons z1 z2 =>
      unfold resPairs at e
      split at e
      · rename_i p hp
        split at e
        · rename_i ps' hps
          cases e
          obtain ⟨h1, h2⟩ := resPairs_each I R r2 z2 hps
          obtain ⟨d1, p1⟩ := res_dp R r1 hp
          obtain ⟨as, r3⟩ := Dp.reads I p v _ d1 z1
          exact ⟨.cons ⟨v, z1, r1⟩ h1, .cons ⟨as, r3⟩ h2⟩
        · cases e
      · cases e
theorem each_back {m : Nat → Addr} {k : Nat} {H : Hp} : ∀ {us : List Value} {ps : List (PyData × D)}, PySem.W.EachIs (fun u b => ∃ v, RelV v u ∧ RD m k H b.2 v) us ps → ∃ vs, Vals vs us ∧ RDs m k H (ps.map (·.2)) vs
  | _, _, .nil => ⟨[], .nil, rfl⟩
  | _, _, .cons ⟨v, h1, h2⟩ t => by
    obtain ⟨vs, h3, h4⟩ := each_back t
    exact ⟨v :: vs, .cons h1 h3, v, vs, rfl, h2, h4⟩
theorem sortOk_ok {ps : List (PyData × D)} (h : sortOk ps = true) : PySem.W.AllAlike (ps.map (·.1)) ∧ PySem.W.Sortable (ps.map (·.1)) ∧ (∀ b ∈ ps, b.1.depth ≤ 60) ∧ ps.length ≤ sizeLine := by
  unfold sortOk at h
  simp only [Bool.and_eq_true, Bool.or_eq_true] at h
  obtain ⟨⟨⟨h1, h2⟩, h3⟩, h4⟩ := h
  refine ⟨fun d hd d' hd' => ?_, ?_, fun b hb => Nat.le_of_ble_eq_true (List.all_eq_true.mp h3 b hb), fits_le h4⟩
  · obtain ⟨b, hb, rfl⟩ := List.mem_map.mp hd
    obtain ⟨b', hb', rfl⟩ := List.mem_map.mp hd'
    exact List.all_eq_true.mp (List.all_eq_true.mp h1 b hb) b' hb'
  · rcases h2 with h2 | h2
    · refine .inl fun d hd => ?_
      obtain ⟨b, hb, rfl⟩ := List.mem_map.mp hd
      have := List.all_eq_true.mp h2 b hb
      unfold isTupP at this
      split at this
      · rename_i x r e; exact ⟨x, r, e⟩
      · cases this
    · refine .inr fun d hd => ?_
      obtain ⟨b, hb, rfl⟩ := List.mem_map.mp hd
      have := List.all_eq_true.mp h2 b hb
      unfold isFlatP at this
      split at this
      · rename_i x e; rw [e]; exact ⟨by simp, by simp⟩
      · rename_i x e; rw [e]; exact ⟨by simp, by simp⟩
      · cases this
theorem crv_sorted (hu : X.A.units + 64 < cLine) : CallR X (.builtin "sorted") (rdN sortedN) := by
  intro pins s σ H xs us Q I r h
  obtain ⟨m, S, ds, d, S', R, rr, e, q⟩ := h
  unfold sortedN at e
  split at e
  · obtain ⟨v, rfl, hn, rfl⟩ := rr.one1
    split at e
    · rename_i ys hl
      split at e
      · rename_i ps hps
        split at e
        · rename_i hok
          cases e
          obtain ⟨vs, h1, h2, _⟩ := R.sqL (K := X.K) hl
          obtain ⟨its, rv, pl, hz⟩ := I.list h1
          rw [Vals.ref1 r]
          obtain ⟨e1, e2⟩ := resPairs_each I R h2 rv hps
          obtain ⟨o1, o2, o3, o4⟩ := sortOk_ok hok
          refine PySem.W.sorted_data (enc := fun b : PyData × D => b.1) pl.isList e1 e2 o1 o2 o4 (fun b hb => by have := o3 b hb; omega) fun out hlen ho => ?_
          rw [← sortL_eq ps] at ho
          obtain ⟨ws, w1, w2⟩ := each_back ho
          obtain ⟨ep, he'⟩ := PyProof.Rows.sortedAll_at s.heap its out.toArray
          have hl2 : ws.length ≤ sizeLine := by rw [w1.length, hlen]; exact o4
          exact ⟨.ref _, upd H (s.heap.objs.size + 1) (.lst ws), I.laid (t' := s.toks) (fun _ _ => PyProof.Rows.sortedAll_old) (Nat.le_succ _) ⟨hl2, out, ep, w1, he'⟩, rfl, goLst R w2 q _ (I.hok.fresh (Nat.le_succ _))⟩
        · cases e
      · cases e
    · cases e
  · cases e
end
end Sw

/-! Eng12e: comprehensions of sets of whole numbers; len of such a set. -/
namespace Sw
open PySem PySem.Spec PyProof.Rows L2
/-- what {elt for target in iter if ..} asks, elt a whole number; B the new set -/
def tSi (wi : TI) (g : TG) (tt : TT) (te : TE) (vs : List Nat) : TE := fun σ H Q => wi σ H fun J Ha => ∀ B, Ha B = none → ∃ W : Nat → Nat → Hp → Prop, (∃ m, W 0 m (upd Ha B (.set (fun _ => false) 0))) ∧ ∀ i m H, W i m H →
  (J.stop i H ∧ Q (.ref B) H) ∨ (J.go i H ∧ ∃ Nx : Hp → Prop, (∀ H', Nx H' → ∃ m', m' < m ∧ W (i + 1) m' H') ∧ ∀ x H', J.yld i H x H' → g x (wipe σ vs) H' fun τ Hb => wipe τ vs = wipe σ vs ∧ tt τ Hb fun b Hc =>
    if b = true then te τ Hc fun y Hd => ∃ (c : Int) (S : Int → Bool) (n : Nat), y = .int c ∧ Hd B = some (.set S n) ∧ n + 1 < scanBound ∧ Nx (upd Hd B (.set (fun j => S j || decide (j = c)) (if S c = true then n else n + 1))) else Nx Hc)
section
variable {X : Cx}
theorem set_add_run {pins : List (Addr × Obj)} {σ : L2.St} {H : Hp} {s : Shared} {E : Value → Shared → Prop} {B : Addr} {S : Int → Bool} {n : Nat} {c : Int} {t : Tok} {Q : Value → Shared → Prop} (I : Inv X pins σ H s) (hB : H B = some (.set S n)) (room : n + 1 < scanBound)
    (h : ∀ s', Inv X pins σ (upd H B (.set (fun j => S j || decide (j = c)) (if S c = true then n else n + 1))) s' → Q .none s') : wpAny (model X.prog X.w) X.A (call (.builtin "set.add") [.ref B, .int c t]) Q E s := by
  have R : s.heap.SetOf (intKind X.prog X.w) B S n := I.hok B _ hB
  refine call_set_add (knd := intKind X.prog X.w) (k := c) (by show Value.isInt c (.int c t) = true; simp [Value.isInt]) rfl R room fun h' sb new => ?_
  have live : ∃ u, h'.get? B = some u := by
    obtain ⟨o, _, _, _, ho, _⟩ := id new
    exact ⟨o, ho⟩
  exact h _ (I.write (e := B) (t' := s.toks + 1) (by rw [hB]; trivial) (.inl rfl) (fun b u hb hu => (sb.2 b hb).trans hu) live new)
theorem si_run {pins : List (Addr × Obj)} {s : Shared} {σ : L2.St} {H : Hp} {Q : VK} {elt tg iter : Expr} {ifs : List Expr} {scope : Scope} {own : List (Str × Nat)} {pos pos' : Pos} {wi : TI} {g : TG} {tt : TT} {te : TE} {Qf : Value → Shared → Prop}
    (calm : X.calm = true) (nd : X.N.Nodup) (I : Inv X pins σ H s) (hi : PI X tg iter wi) (bk : BlkOk X.N X.env.scope scope own)
    (hg : ∀ (s : Shared) (H : Hp) (C : Addr) (cl : List (Str × Addr)) (fp : List Addr), PG (X.blk s H scope (compEnvC scope cl C X.env) fp) tg g) (ht : ∀ (s : Shared) (H : Hp) (C : Addr) (cl : List (Str × Addr)) (fp : List Addr), PTs (X.blk s H scope (compEnvC scope cl C X.env) fp) ifs tt)
    (he : ∀ (s : Shared) (H : Hp) (C : Addr) (cl : List (Str × Addr)) (fp : List Addr), PE (X.blk s H scope (compEnvC scope cl C X.env) fp) elt te) (hs : ∀ x, foldedSetIterable iter X.env x = pure x)
    (h : tSi wi g tt te (own.map (·.2)) σ H Q)
    (fin : ∀ B C s' m H', Inv X pins σ H' s' → Q (.ref B) H' → s'.heap.Ns C m → FpOk X pins H' C → compPost (model X.prog X.w) X.A X.xe none Qf (.ref B) C (.ok .next) s') :
    wpAny (model X.prog X.w) X.A (comprehension (.SetComp elt [⟨tg, iter, ifs, 0⟩] scope pos) scope X.env pos' (newSet (.type "set")) false (eval iter X.env) none) Qf X.xe s := by
  have fr : ∀ y ∈ scope.names, y.2 = .free → ∃ c, X.env.cells.lookup y.1 = some c := fun y hy e => (bk.free y hy e).elim (fun k => I.ok.has _ (.inl k)) fun k => I.ok.has _ (.inr k)
  refine wpAny_comprehension_free (use := none) rfl hs (closure_ok fr) bk.kind (fun y hy e => by rw [bk.uniq y hy, e]) (thn (hi.run pins s σ H _ I h) fun xv sa hx => thn hx fun itv sb hb => ?_)
  obtain ⟨it, fp, tn, J, Ha, e, Ia, T, sta, fa, q⟩ := hb
  subst e
  refine PpSet.newSet_ok (newEnv_comp ?_)
  generalize hBe : sb.heap.objs.size = B
  have hBn : Ha B = none := Ia.hok.fresh (Nat.le_of_eq hBe)
  obtain ⟨W, ⟨m0, w0⟩, turn⟩ := q B hBn
  generalize hsc : ({ sb with heap := sb.heap.push { cls := .type "set", dict := none, data := .set #[] 0 (.fresh 0 0 (!X.w.params.followText "set-order")) } } : Shared) = sc
  have hc : sc.heap = sb.heap.push { cls := .type "set", dict := none, data := .set #[] 0 (.fresh 0 0 (!X.w.params.followText "set-order")) } := by rw [← hsc]
  have Ic : Inv X pins σ (upd Ha B (.set (fun _ => false) 0)) sc := by
    rw [← hsc]
    refine Ia.laid (t' := sb.toks) (fun b o e => Heap.get?_push_of_some _ e) (Nat.le_of_eq hBe) ?_
    rw [← hBe]
    exact PyProof.Rows.setObjOf_fresh (knd := intKind X.prog X.w) _ |>.setOf (Heap.get?_push_size _ rfl) (by decide)
  have small : ∀ b ∈ fp, b < sb.heap.objs.size := fun b hb => by
    obtain ⟨o, e, _⟩ := T.obj _ _ sta b hb
    exact Heap.lt_size e
  have fc : ∀ b ∈ fp, FpOk X pins (upd Ha B (.set (fun _ => false) 0)) b ∧ b < sc.heap.objs.size := fun b hb => by
    have lt := small b hb
    refine ⟨⟨?_, (fa b hb).2⟩, by rw [hc, Heap.size_push]; exact Nat.lt_succ_of_lt lt⟩
    rw [upd_ne (by rw [← hBe]; exact Nat.ne_of_lt lt)]
    exact (fa b hb).1
  have stc : tn 0 sc.heap := T.keep _ _ _ sta fun b _ o e => by rw [hc]; exact Heap.get?_push_of_some _ e
  have Id := block_start Ic bk nd fc
  have pg := hg sc (upd Ha B (.set (fun _ => false) 0)) sc.heap.objs.size (cellsFrom (sc.heap.objs.size + 1) scope.names (cloFrom X.env.cells scope.names [])) fp
  have pt := ht sc (upd Ha B (.set (fun _ => false) 0)) sc.heap.objs.size (cellsFrom (sc.heap.objs.size + 1) scope.names (cloFrom X.env.cells scope.names [])) fp
  have pe := he sc (upd Ha B (.set (fun _ => false) 0)) sc.heap.objs.size (cellsFrom (sc.heap.objs.size + 1) scope.names (cloFrom X.env.cells scope.names [])) fp
  show codeAny _ _ (.compStart (.SetComp elt [⟨tg, iter, ifs, 0⟩] scope pos) 0 (.ref it) (.ref B) (compEnvC scope (cellsFrom (sc.heap.objs.size + 1) scope.names (cloFrom X.env.cells scope.names [])) sc.heap.objs.size X.env)) (compPost (model X.prog X.w) X.A X.xe none Qf (.ref B) sc.heap.objs.size) { sc with heap := pushCells (sc.heap.push { cls := .type "dict", data := .dict #[] }) scope.names }
  have nfp : ∀ b ∈ fp, (upd Ha B (.set (fun _ => false) 0)) b = none := fun b hb => (fc b hb).1.1
  generalize hce : compEnvC scope (cellsFrom (sc.heap.objs.size + 1) scope.names (cloFrom X.env.cells scope.names [])) sc.heap.objs.size X.env = ce at Id pg pt pe ⊢
  have locs : ce.locals = sc.heap.objs.size := by subst hce; rfl
  generalize hHc : upd Ha B (.set (fun _ => false) 0) = Hc at Ic Id pg pt pe w0 nfp fc
  generalize hsd : ({ sc with heap := pushCells (sc.heap.push { cls := .type "dict", data := .dict #[] }) scope.names } : Shared) = sd at Id ⊢
  have std : tn 0 sd.heap := T.keep _ _ _ stc fun b _ o e => by rw [← hsd]; exact pushCells_keeps _ _ _ _ (Heap.get?_push_of_some _ e)
  have kept : ∀ {τ : L2.St} {H' : Hp} {s' : Shared}, Inv (X.blk sc Hc scope ce fp) [] τ H' s' → (∀ b ∈ fp, H' b = none) → ∀ b ∈ fp, FpOk (X.blk sc Hc scope ce fp) [] H' b := fun {τ H' s'} I' hn b hb =>
    ⟨hn b hb, (I'.ok.exf b hb).1, I'.ok.exfs b hb, .inl hb, fun x c e => (I'.ok.exf b hb).2 x c e, fun p hp => absurd (show p ∈ ([] : List (Addr × Obj)) ++ [] from hp) (by simp)⟩
  have loop : codeAny (model X.prog X.w) X.A (.compLoop (.SetComp elt [⟨tg, iter, ifs, 0⟩] scope pos) 0 (.ref it) (.ref B) ce) (compPost (model X.prog X.w) X.A X.xe none Qf (.ref B) sc.heap.objs.size) sd := by
    refine PpSet.compLoopS_any (fun n s' => ∃ i H', Inv (X.blk sc Hc scope ce fp) [] (wipe σ (own.map (·.2))) H' s' ∧ tn i s'.heap ∧ (∀ b ∈ fp, H' b = none) ∧ W i n H') ?_ m0 ⟨0, Hc, Id, std, nfp, w0⟩
    rintro n se ⟨i, He, Ie, ste, ne, we⟩
    rcases turn i n He we with ⟨stop, qq⟩ | ⟨go, Nx, hNx, step⟩
    · refine thnF (T.done (X.blk sc Hc scope ce fp) rfl rfl rfl calm i [] se _ He (fun _ _ => False) Ie (kept Ie ne) ste stop) fun r sf ⟨hr, If⟩ => ?_
      subst hr
      have Ig : Inv X pins σ He sf := Ic.call' (ch := fp) If.os If.base If.hok If.bare fun b hb => ⟨(fc b hb).1.2.2.2.1, (fc b hb).1.2.1, (fc b hb).1.2.2.2.2.1, (fc b hb).1.2.2.2.2.2⟩
      have nC : He sc.heap.objs.size = none := by
        have z : He ce.locals = none := If.free
        rwa [locs] at z
      obtain ⟨m, hn, _⟩ := If.loc
      have hn : sf.heap.Ns ce.locals m := hn
      rw [locs] at hn
      exact fin B sc.heap.objs.size sf m He Ig qq hn (Ic.fpOk (Nat.le_refl _) nC)
    · refine thnF (T.item (X.blk sc Hc scope ce fp) rfl rfl rfl calm i [] se _ He (fun _ _ => False) Ie (kept Ie ne) ste go) fun r sf ⟨u, hr, hf⟩ => ?_
      subst hr
      refine thnF hf fun _ sg ⟨x, Hg, Ig, rg, yg, stg, ng⟩ => ?_
      refine thnF (pg.run _ sg _ Hg x u _ (Ig.pinned (kept Ig ng) (T.obj _ _ stg)) rg (step x Hg yg)) fun _ sh ⟨τ, Hh, Ih, hwh, qh⟩ => ?_
      refine thnF (pt.run _ sh τ Hh _ Ih qh) fun b sj ⟨Hj, Ij, qj⟩ => ?_
      have done : ∀ {s' : Shared} {H' : Hp}, Inv (X.blk sc Hc scope ce fp) ([] ++ pinsAt fp sg.heap) τ H' s' → Nx H' → ∃ m, m < n ∧ ∃ i H', Inv (X.blk sc Hc scope ce fp) [] (wipe σ (own.map (·.2))) H' s' ∧ tn i s'.heap ∧ (∀ b ∈ fp, H' b = none) ∧ W i m H' := fun {s' H'} I' nx => by
        obtain ⟨m', hm, w'⟩ := hNx H' nx
        have held : ∀ b ∈ fp, ∀ o, sg.heap.get? b = some o → s'.heap.get? b = some o ∧ H' b = none := fun b hb o e =>
          have z := I'.pin (b, o) (List.mem_append_right _ (List.mem_append_right _ (mem_pinsAt hb e)))
          ⟨z.1, z.2.1⟩
        have hl : (wipe σ (own.map (·.2))).length = τ.length := by rw [← hwh, wipe_length]
        refine ⟨m', hm, i + 1, H', (I'.unpinned (pins := [])).weak hl (fun j v e => ?_), T.keep _ _ _ stg fun b hb o e => (held b hb o e).1, fun b hb => ?_, w'⟩
        · rw [← hwh] at e
          exact (wipe_some e).1
        · obtain ⟨o, e, _⟩ := T.obj _ _ stg b hb
          exact (held b hb o e).2
      cases b with
      | false =>
        simp only [Bool.false_eq_true, if_false] at qj ⊢
        exact done Ij qj
      | true =>
        simp only [if_true] at qj ⊢
        refine thnF (pe.run _ sj τ Hj _ Ij qj) fun z sk ⟨yv, Hk, Ik, rk, ci, S0, n0, ey, hBk, hzk, nx⟩ => ?_
        subst ey
        obtain ⟨tk, rfl⟩ := (show RelV (.int ci) z from rk)
        exact set_add_run (X := X.blk sc Hc scope ce fp) Ik hBk hzk fun sl Il => done Il nx
  exact PpSet.codeAny_compStart_set loop (T.self X.A 0 _ _ _ std loop)
end
end Sw

/-! Eng12f: comprehensions of sets, read off the evaluator; len of them. -/
namespace Sw
open PySem PySem.Spec PyProof.Rows L2
section
variable {X : Cx}
theorem contains_ins (acc : List Int) (y : Int) : (fun j => (match acc.contains y with | true => acc | false => y :: acc).contains j) = fun j => acc.contains j || decide (j = y) := by
  funext j
  cases h : acc.contains y with
  | true =>
    dsimp only
    by_cases e : j = y
    · subst e; rw [h]; simp
    · simp [e]
  | false =>
    dsimp only
    rw [List.contains_cons]
    by_cases e : j = y
    · subst e; simp
    · have : (j == y) = false := by simpa using e
      rw [this]; simp [e]
theorem length_ins (acc : List Int) (y : Int) : (match acc.contains y with | true => acc | false => y :: acc).length = if acc.contains y = true then acc.length else acc.length + 1 := by
  cases h : acc.contains y with
  | true => simp
  | false => simp
theorem rd_sc {fi : Iv} {vs : List Nat} {g : Gv} {ft fe : Ev} {σ : L2.St} {H : Hp} {Q : VK} (h : rdE (evSc fi vs g ft fe) σ H Q) : tSi (rdI fi) (rdG vs g) (rdT ft) (rdE fe) vs σ H Q := by
  obtain ⟨m, S, ρ, d, S', R, E, e, q⟩ := h
  unfold evSc at e
  cases h0 : fi ρ S with
  | bad => rw [h0] at e; cases e
  | ok src S1 =>
    rw [h0] at e
    dsimp only at e
    refine ⟨m, S, ρ, src, S1, R, E, h0, fun m0 H0 J X0 OK L hL => ?_⟩
    have XA : Ext m0 (withAt m0 S1.len L) S1 (S1.add (.set [])) H0 (upd H0 L (.set (fun _ => false) 0)) := Ext.add X0.rel hL (by show upd H0 L (.set (fun _ => false) 0) L = _; rw [upd_same]; rfl)
    have hml : withAt m0 S1.len L S1.len = L := withAt_same ..
    have hln : S1.len < (S1.add (.set [])).len := by rw [Sto.add_len]; exact Nat.lt_succ_self _
    generalize withAt m0 S1.len L = mA at XA hml
    generalize S1.add (.set []) = SA at e XA hln
    generalize upd H0 L (.set (fun _ => false) 0) = HA at XA
    generalize S1.len = n at e hml hln
    refine ⟨fun i k H => ∃ m2 S2, Ext mA m2 SA S2 HA H ∧ ∃ d S', scL src n g ft fe (wipeE ρ vs) k i S2 = .ok d S' ∧ ∀ m' H' v, Ext m2 m' S2 S' H H' → RD m' S'.len H' d v → Q v H', ⟨_, mA, SA, Ext.refl XA.rel, d, S', e, fun m' H' v X' r' => q m' H' v (X0.trans (XA.trans X')) r'⟩, ?_⟩
    rintro i k H ⟨m2, S2, X2, d, S', e, q⟩
    have hm2 : m2 n = L := by rw [X2.ag n hln]; exact hml
    have X02 := X0.trans (XA.trans X2)
    have E2 := E.ext X02
    cases k with
    | zero => cases e
    | succ k =>
      simp only [scL] at e
      obtain ⟨ok1, ok2⟩ := OK m2 S2 H i (XA.trans X2).x
      split at e
      · rename_i d0 hd
        obtain ⟨go, yl⟩ := ok1 d0 hd
        refine .inr ⟨go, fun H => ∃ m2 S2, Ext mA m2 SA S2 HA H ∧ ∃ d S', scL src n g ft fe (wipeE ρ vs) k (i + 1) S2 = .ok d S' ∧ ∀ m' H' v, Ext m2 m' S2 S' H H' → RD m' S'.len H' d v → Q v H', fun H' z => ⟨k, Nat.lt_succ_self k, z⟩, fun x H' y => ?_⟩
        obtain ⟨XY, rx⟩ := yl x H' y
        split at e
        · rename_i ρ1 S3 h3
          refine ⟨m2, S2, wipeE ρ vs, d0, ρ1, S3, XY.rel, (E2.ext XY).wipe vs, rx, h3, fun m3 H3 σ3 X3 E3 C3 => ⟨wipe_chg C3, ?_⟩⟩
          split at e
          · rename_i b S4 h4
            refine ⟨m3, S3, ρ1, b, S4, X3.rel, E3, h4, fun m4 H4 X4 => ?_⟩
            have X24 := XY.trans (X3.trans X4)
            cases b with
            | false =>
              dsimp only
              rw [if_neg Bool.false_ne_true]
              exact ⟨m4, S4, X2.trans X24, d, S', e, fun m' H' v X' r' => q m' H' v (X24.trans X') r'⟩
            | true =>
              dsimp only at e ⊢
              rw [if_pos rfl]
              split at e
              · rename_i y0 S5 h5
                refine ⟨m4, S4, ρ1, .int y0, S5, X4.rel, E3.ext X4, h5, fun m5 H5 v5 X5 r5 => ?_⟩
                split at e
                · rename_i acc ha
                  split at e
                  · rename_i hf
                    have X25 := X24.trans X5
                    have hm5 : m5 n = L := by rw [X25.ag n (Nat.lt_of_lt_of_le hln X2.len)]; exact hm2
                    have hw : H5 (m5 n) = some (.set (fun j => acc.contains j) acc.length) := X5.rel.obj _ _ ha
                    have X6 : Ext m5 m5 S5 (S5.put n (.set (match acc.contains y0 with | true => acc | false => y0 :: acc)) true) H5 (upd H5 (m5 n) (.set (fun j => acc.contains j || decide (j = y0)) (if acc.contains y0 = true then acc.length else acc.length + 1))) := by
                      refine Ext.put X5.rel ha hw True.intro ?_ fun _ _ _ => rfl
                      show upd H5 (m5 n) _ (m5 n) = some (.set (fun j => (match acc.contains y0 with | true => acc | false => y0 :: acc).contains j) (match acc.contains y0 with | true => acc | false => y0 :: acc).length)
                      rw [contains_ins, length_ins, upd_same]
                    rw [hm5] at hw X6
                    refine ⟨y0, _, _, r5, hw, ?_, m5, _, X2.trans (X25.trans X6), d, S', e, fun m' H' v X' r' => q m' H' v (X25.trans (X6.trans X')) r'⟩
                    have := Nat.le_of_ble_eq_true hf
                    omega
                  · cases e
                · cases e
              · cases e
          · cases e
        · cases e
      · rename_i hd
        cases e
        exact .inl ⟨ok2 hd, q m2 H _ (Ext.refl X2.rel) ⟨Nat.lt_of_lt_of_le hln X2.len, by rw [hm2]⟩⟩
      · cases e
theorem crv_lenS : CallR X (.builtin "len") (rdN lenSN) := by
  intro pins s σ H xs us Q I r h
  obtain ⟨m, S, ds, d, S', R, rr, e, q⟩ := h
  unfold lenSN at e
  split at e
  · obtain ⟨v, rfl, hn, rfl⟩ := rr.one1
    split at e
    · rename_i ys ho
      split at e
      · rename_i hb
        cases e
        have hw : H (m _) = some (.set (fun j => ys.contains j) ys.length) := R.obj _ _ ho
        obtain ⟨o, es, ep, t, h1, h2, h3, h4, h5, h6, h7, h8⟩ := (show s.heap.SetOf (intKind X.prog X.w) _ _ _ from I.hok _ _ hw)
        rw [Vals.ref1 r]
        refine call_len_set h1 h2 h3 h7 (by have : scanBound = 4096 := rfl; omega) ?_
        exact ⟨.int ys.length, H, I.kept (h' := s.heap) (fun _ _ z => z), ⟨_, by rw [h8]⟩, rdPure R q rfl⟩
      · cases e
    · cases e
  · cases e
variable {elt tg iter : Expr} {ifs : List Expr} {scope : Scope} {own : List (Str × Nat)} {pos p spos : Pos} {fi : Iv} {g : Gv} {ft fe : Ev}
theorem pev_sc (hc : X.calm = true) (hN : X.N.Nodup) (hi : PI X tg iter (rdI fi)) (ok : BlkOk X.N X.env.scope scope own)
    (hg : ∀ (s : Shared) (H : Hp) (C : Addr) (cl : List (Str × Addr)) (fp : List Addr), PG (X.blk s H scope (compEnvC scope cl C X.env) fp) tg (rdG (own.map (·.2)) g)) (ht : ∀ (s : Shared) (H : Hp) (C : Addr) (cl : List (Str × Addr)) (fp : List Addr), PTs (X.blk s H scope (compEnvC scope cl C X.env) fp) ifs (rdT ft))
    (he : ∀ (s : Shared) (H : Hp) (C : Addr) (cl : List (Str × Addr)) (fp : List Addr), PE (X.blk s H scope (compEnvC scope cl C X.env) fp) elt (rdE fe)) (hs : ∀ x, foldedSetIterable iter X.env x = pure x) :
    PE X (.SetComp elt [⟨tg, iter, ifs, 0⟩] scope pos) (rdE (evSc fi (own.map (·.2)) g ft fe)) := by
  refine ⟨fun pins s σ H Q I h => ?_⟩
  rw [PpSet.eval_SetComp]
  refine si_run hc hN I hi ok hg ht he hs (rd_sc h) fun B C s' m H' I' q hn f => ⟨m, hn, fun h'' sb => ?_⟩
  obtain ⟨f0, f1, f2, f3, f4, f5⟩ := f
  exact ⟨.ref B, H', I'.turned (t' := s'.toks) (fun b o hb e => (sb.2 b hb).trans e) f0 f1 f3 f4 f5, rfl, q⟩
end
end Sw

/-! Eng12g: {k: v} with a tuple k. -/
namespace Sw
open PySem PySem.Spec PyProof.Rows L2
section
variable {X : Cx} {k v : Expr} {pos : Pos} {fk fv : Ev}
theorem pev_disp (hu : X.A.units + 1 < cLine) (hk : PE X k (rdE fk)) (hv : PE X v (rdE fv)) : PE X (.Dict [some k] [v] pos) (rdE (evDisp fk fv)) := by
  refine ⟨fun pins s σ H Q I h => ?_⟩
  obtain ⟨m, S, ρ, d, S', R, E, e, q⟩ := h
  unfold evDisp at e
  have new : H s.heap.objs.size = none := I.hok.fresh (Nat.le_refl _)
  have I1 := I.laid (a := s.heap.objs.size) (o := .dT []) (h' := s.heap.push { cls := .type "dict", data := .dict #[] }) (t' := s.toks) (fun _ _ z => Heap.get?_push_of_some _ z) (Nat.le_refl _) (dt_empty s.heap I.big)
  have XA : Ext m (withAt m S.len s.heap.objs.size) S (S.add (.dctT [])) H (upd H s.heap.objs.size (.dT [])) := Ext.add R new ⟨[], upd_same, rfl⟩
  have hml : withAt m S.len s.heap.objs.size S.len = s.heap.objs.size := withAt_same ..
  have hln : S.len < (S.add (.dctT [])).len := by rw [Sto.add_len]; exact Nat.lt_succ_self _
  generalize withAt m S.len s.heap.objs.size = mA at XA hml
  generalize S.add (.dctT []) = SA at e XA hln
  split at e
  · rename_i kd S1 h1
    split at e
    · rename_i vd S2 h2
      split at e
      · rename_i ho
        split at e
        · rename_i S3 h3
          cases e
          have go : rdE fk σ (upd H s.heap.objs.size (.dT [])) fun x H1 => rdE fv σ H1 fun y H2 => H2 s.heap.objs.size = some (.dT []) ∧ ∃ ks b, x = .ref b ∧ H2 b = some (.tup (ks.map kV)) ∧ Q (.ref s.heap.objs.size) (upd H2 s.heap.objs.size (.dT (putK [] ks y))) := by
            refine ⟨mA, SA, ρ, kd, S1, XA.rel, E.ext XA, h1, fun m1 H1 x X1 r1 => ⟨m1, S1, ρ, vd, S2, X1.rel, (E.ext XA).ext X1, h2, fun m2 H2 y X2 r2 => ?_⟩⟩
            obtain ⟨H3, g, X3⟩ := dput_ok X2.rel (RD.ext r1 X2) r2 h3
            have hm2 : m2 S.len = s.heap.objs.size := by rw [X2.ag _ (Nat.lt_of_lt_of_le hln X1.len), X1.ag _ hln]; exact hml
            obtain ⟨ps, g1, g2⟩ := X2.rel.obj _ _ ho
            cases (show ps = [] from g2)
            rw [hm2] at g1 g
            rcases g with (⟨kvs, kk, z, _⟩ | ⟨kvs, kk, b, z1, z2, z3, z4, z5⟩) | ⟨_, _, _, ⟨z, _, _, _, _, _⟩, _⟩
            · rw [g1] at z; cases z
            · rw [g1] at z1
              cases z1
              refine ⟨g1, kk, b, z2, z3, ?_⟩
              rw [← z5]
              have XX := XA.trans (X1.trans (X2.trans X3))
              exact q m2 H3 _ XX ⟨Nat.lt_of_lt_of_le hln (Nat.le_trans X1.len (Nat.le_trans X2.len X3.len)), by rw [hm2]⟩
            · rw [g1] at z; unfold NDict at z; cases z
          rw [arm_eval_Dict, zip_pairTrees [some k] [v] X.env pos rfl rfl, dictDisplay_pairs (pairTrees [some k] [v] X.env pos) (by intro z; cases z) (by show (1 : Nat) < 17; omega)]
          refine wpAny_bind (wpAny_standAt (wpAny_bind (wpAny_subDictH (knd := tupleKind (mixKind X.prog X.w)) (by show X.A.units < cLine; omega) (by show (1 : Nat) ≤ 15; omega) ?_)))
          refine pairTrees_cons_walk (thn (hk.run pins _ σ _ _ I1 go) fun ku sa ⟨x, Ha, Ia, rx, qa⟩ => thn (hv.run pins sa σ Ha _ Ia qa) fun vu sb ⟨y, Hb, Ib, ry, g1, ks, b, ex, eb, qq⟩ => pairTrees_nil_walk ?_)
          subst ex
          cases (show ku = Value.ref b from rx)
          obtain ⟨z, hd, xs, rel, dd⟩ := dt_of Ib.hok g1
          have hx : xs = [] := by cases rel; rfl
          subst hx
          refine ⟨[(ks, b, vu)], ⟨rfl, rfl, key_of Ib.hok eb, trivial⟩, dd, fun h' tk dd' hs => wpAny_pure ?_⟩
          refine ⟨.ref s.heap.objs.size, _, ?_, rfl, qq⟩
          obtain ⟨ob, es, ep, w1, w2, w3, w4, _, w5⟩ := dd'
          have hl : (putK ([] : List (List Key × V)) ks y).length ≤ sizeLine := by
            have := length_putK ([] : List (List Key × V)) ks y
            rw [sizeLine_eq]
            simp only [List.length_nil] at this
            omega
          refine d_write Ib (by rw [g1]; exact True.intro) hs ⟨ob, w1⟩ ⟨hl, hd, _, (rel.put ks eb ry).keeps fun c ys ec => ?_, ob, es, ep, w1, w2, w3, w4, w5⟩
          rw [upd_ne (ne_of ec g1 (fun z => nomatch z))]
          exact ec
        · cases e
      · cases e
    · cases e
  · cases e
end
end Sw

/-! Eng12h: list(enumerate(t)), t a tuple. -/
namespace PySem
open Sem (wp)
section
variable {prog : Program} {w : World} {A : Around} {E : Value → Shared → Prop} {s : Shared}
theorem Sw_next_held {en it T : Addr} {fp : List Addr} {n j : Nat} {P : Nat → Value → Prop} {St : Nat → Heap → Prop} {old : Value} {fl : Bool} {oT : Obj} {Q : Value → Shared → Prop}
    (D : Draws prog w A it fp n P St) (he : IsEnumHeld s.heap en it j old T fl) (hT : s.heap.get? T = some oT) (hTe : T ≠ en) (hTi : T ≠ it) (hst : St j s.heap) (hlt : j < n) (hne : en ≠ it) (hef : en ∉ fp)
    (hQ : ∀ x hp' tk, P j x → IsEnumHeld hp' en it ((j : Int) + 1) old T true → St (j + 1) hp' → hp'.get? s.heap.objs.size = some { cls := .type "tuple", data := .seq #[.int j tk, x] } → hp'.objs.size = s.heap.objs.size + 1 →
      (∀ b o, b ≠ en → b ≠ it → s.heap.get? b = some o → hp'.get? b = some o) → Q (.ref s.heap.objs.size) { s with heap := hp', toks := tk + 1 }) :
    wpAny (model prog w) A (Builtin.«enumerate.__next__» ⟨[.ref en], []⟩) (fun fin s' => ∃ v, fin = .done (.ret v) ∧ Q v s') E s := by
  obtain ⟨hp, gg, dr, tk0, os⟩ := s
  show wpAny _ _ (field (.ref en) 2 >>= _) _ _ _
  refine wpAny_bind (wpAny_field he rfl (x := .ref it) rfl ?_)
  refine wpAny_bind (D.item j _ _ _ hlt hst fun x ha tk px sta sba => ?_)
  have sba : Heap.SameBut it hp ha := sba
  have ea : IsEnumHeld ha en it j old T fl := (sba.2 en hne).trans he
  have ta : ha.get? T = some oT := (sba.2 T hTi).trans hT
  show wpAny _ _ (field (.ref en) 3 >>= _) _ _ ⟨ha, gg, dr, tk, os⟩
  refine wpAny_bind (wpAny_field ea rfl (x := rawInt j) rfl ?_)
  show wpAny _ _ (field (.ref en) 4 >>= _) _ _ ⟨ha, gg, dr, tk, os⟩
  refine wpAny_bind (wpAny_field ea rfl (x := .none) rfl ?_)
  show wpAny _ _ (mkInt j >>= _) _ _ ⟨ha, gg, dr, tk, os⟩
  refine wpAny_bind (wpAny_mkInt ?_)
  show wpAny _ _ (setField (.ref en) 3 (rawInt ((j : Int) + 1)) >>= _) _ _ ⟨ha, gg, dr, tk + 1, os⟩
  refine wpAny_bind (wpAny_setField_rec ea (by simp) fun hb eb sbb => ?_)
  have sbb : Heap.SameBut en ha hb := sbb
  have eb : IsEnumHeld hb en it ((j : Int) + 1) old T fl := eb
  show wpAny _ _ (setField (.ref en) 4 .none >>= _) _ _ ⟨hb, gg, dr, tk + 1, os⟩
  refine wpAny_bind (wpAny_setField_rec eb (by simp) fun hc ec sbc => ?_)
  have sbc : Heap.SameBut en hb hc := sbc
  have ec : IsEnumHeld hc en it ((j : Int) + 1) old T fl := ec
  have tc : hc.get? T = some oT := sbc.extBut T oT hTe (sbb.extBut T oT hTe ta)
  show wpAny _ _ (newTuple [.int j tk, x] >>= _) _ _ ⟨hc, gg, dr, tk + 1, os⟩
  refine wpAny_bind (wpAny_newTuple ?_)
  have size : hc.objs.size = hp.objs.size := by rw [sbc.1, sbb.1, sba.1]
  have low : en < hp.objs.size := Heap.lt_size he
  generalize hde : hc.push { cls := .type "tuple", data := .seq #[.int j tk, x] } = hd
  have ed : IsEnumHeld hd en it ((j : Int) + 1) old T fl := by rw [← hde]; exact Heap.get?_push_of_some _ ec
  have td : hd.get? T = some oT := by rw [← hde]; exact Heap.get?_push_of_some _ tc
  have nd : hd.get? hp.objs.size = some { cls := .type "tuple", data := .seq #[.int j tk, x] } := by rw [← hde, ← size]; exact Heap.get?_push_size _ rfl
  have zd : hd.objs.size = hp.objs.size + 1 := by rw [← hde, Heap.size_push, size]
  have kd : ∀ b o, b ≠ en → b ≠ it → hp.get? b = some o → hd.get? b = some o := fun b o h1 h2 h3 => by
    rw [← hde]; exact Heap.get?_push_of_some _ (sbc.extBut b o h1 (sbb.extBut b o h1 (sba.extBut b o h2 h3)))
  have std : St (j + 1) hd := D.frame _ _ _ sta fun b hb o y => by
    have h1 : b ≠ en := fun q => hef (q ▸ hb)
    rw [← hde]; exact Heap.get?_push_of_some _ (sbc.extBut b o h1 (sbb.extBut b o h1 y))
  show wpAny _ _ (Builtin.SmallTypes.ownedTupleIsFree (.ref en) >>= _) _ _ ⟨hd, gg, dr, tk + 1, os⟩
  rw [size]
  refine wpAny_bind (wpAny_tupleHeld_enum (s := ⟨hd, gg, dr, tk + 1, os⟩) ed td fun hf ef sbf => ?_)
  have sbf : Heap.SameBut en hd hf := sbf
  refine wpAny_pure ⟨_, rfl, hQ x hf tk px ef ?_ ?_ ?_ ?_⟩
  · exact D.frame _ _ _ std fun b hb o y => sbf.extBut b o (fun q => hef (q ▸ hb)) y
  · exact sbf.extBut _ _ (Nat.ne_of_gt low) nd
  · rw [sbf.1, zd]
  · exact fun b o h1 h2 h3 => sbf.extBut b o h1 (kd b o h1 h2 h3)
theorem Sw_pyNext_held {en it T : Addr} {fp : List Addr} {n j : Nat} {P : Nat → Value → Prop} {St : Nat → Heap → Prop} {old : Value} {fl : Bool} {oT : Obj} {Q : Option Value → Shared → Prop}
    (D : Draws prog w A.in1 it fp n P St) (he : IsEnumHeld s.heap en it j old T fl) (hT : s.heap.get? T = some oT) (hTe : T ≠ en) (hTi : T ≠ it) (hst : St j s.heap) (hlt : j < n) (hne : en ≠ it) (hef : en ∉ fp)
    (hQ : ∀ x hp' tk, P j x → IsEnumHeld hp' en it ((j : Int) + 1) old T true → St (j + 1) hp' → hp'.get? s.heap.objs.size = some { cls := .type "tuple", data := .seq #[.int j tk, x] } → hp'.objs.size = s.heap.objs.size + 1 →
      (∀ b o, b ≠ en → b ≠ it → s.heap.get? b = some o → hp'.get? b = some o) → Q (some (.ref s.heap.objs.size)) { s with heap := hp', toks := tk + 1 }) :
    wpAny (model prog w) A (pyNext (.ref en)) Q E s := by
  have ty : s.TypeIs (.ref en) "enumerate" := ⟨_, he, rfl⟩
  unfold pyNext
  exact wpAny_bind (wpAny_attempt (wpAny_callSpecial?_slot (name := Str.ofString "__next__") ty F.slot_enumerate_next (wpAny_call_entry F.slot_enumerate_next ty F.entry_enumerate_next
      (Sw_next_held D he hT hTe hTi hst hlt hne hef fun x hp' tk a b c d k q => wpAny_pure (hQ x hp' tk a b c d k q)) (F.args_enumerate_next_1 _))))
theorem Sw_pyNext_end {en it : Addr} {fp : List Addr} {n : Nat} {P : Nat → Value → Prop} {St : Nat → Heap → Prop} {old T : Addr} {jj : Int} {ov : Value} {fl : Bool} {Q : Option Value → Shared → Prop}
    (D : Draws prog w A.in1 it fp n P St) (he : IsEnumHeld s.heap en it jj ov T fl) (hst : St n s.heap)
    (hQ : ∀ hp', Heap.ExtBut it s.heap hp' → Q none { s with heap := hp' }) : wpAny (model prog w) A (pyNext (.ref en)) Q E s := by
  have ty : s.TypeIs (.ref en) "enumerate" := ⟨_, he, rfl⟩
  unfold pyNext
  refine wpAny_bind (wpAny_attempt (wpAny_callSpecial?_slot (name := Str.ofString "__next__") ty F.slot_enumerate_next (wpAny_call_entry F.slot_enumerate_next ty F.entry_enumerate_next ?_ (F.args_enumerate_next_1 _))))
  show wpAny _ _ (field (.ref en) 2 >>= _) _ _ _
  refine wpAny_bind (wpAny_field he rfl (x := .ref it) rfl ?_)
  refine wpAny_bind (D.done _ _ _ hst fun hp' x eb xo => ?_)
  obtain ⟨o, ho, hc⟩ := xo
  exact wpAny_bind (wpAny_isInstance (T := "StopIteration") (b := true) ⟨o, ho, hc⟩ isSubtype_stop (wpAny_pure (hQ _ eb)))
theorem Sw_no_len : typeLookup (.type "enumerate") "__len__" = pure none := am_miss_of_fast (by decide +kernel)
theorem Sw_no_hint : typeLookup (.type "enumerate") "__length_hint__" = pure none := am_miss_of_fast (by decide +kernel)
end
end PySem

/-! Eng12i: list(enumerate(t)), t a tuple: the loop, the call. -/
namespace Sw
open PySem PySem.Spec PyProof.Rows L2
section
variable {X : Cx} {pins : List (Addr × Obj)} {σ : L2.St} {H0 : Hp} {a q en it : Addr} {xs : List V}
/-- ahead of turn j -/
structure LE (X : Cx) (pins : List (Addr × Obj)) (σ : L2.St) (H0 : Hp) (a q en it : Addr) (xs : List V) (j : Nat) (H : Hp) (s : Shared) : Prop where
  I : Inv X pins σ H s
  fr : ∀ b o, H0 b = some o → H b = some o
  ls : ∃ acc, H q = some (.lst acc) ∧ acc.length = j ∧ ∀ i x, acc[i]? = some x → ∃ T y, x = .ref T ∧ H T = some (.tup [.int (i : Nat), y]) ∧ xs[i]? = some y
  fp : ∀ b ∈ [en, it], FpOk X pins H b
  st : s.heap.IsTupleIter it a j
  en : (∃ old, IsEnum s.heap en it ((j : Nat) : Int) old) ∨ ∃ old T f ys, IsEnumHeld s.heap en it ((j : Nat) : Int) old T f ∧ H T = some (.tup ys)
/-- what stands at the end -/
def LEnd (X : Cx) (pins : List (Addr × Obj)) (σ : L2.St) (H0 : Hp) (q : Addr) (xs : List V) (H : Hp) (s : Shared) : Prop :=
  Inv X pins σ H s ∧ (∀ b o, H0 b = some o → H b = some o) ∧ ∃ acc, H q = some (.lst acc) ∧ acc.length = xs.length ∧ ∀ i x, acc[i]? = some x → ∃ T y, x = .ref T ∧ H T = some (.tup [.int (i : Nat), y]) ∧ xs[i]? = some y
theorem le_loop {A1 : Around} {rz : Value} {Rs : Result → Shared → Prop} (hh : A1.handled = none) (hz : xs.length ≤ sizeLine) (ha : H0 a = some (.tup xs)) (qn : H0 q = none) (nei : en ≠ it) (nai : a ≠ it) (nea : en ≠ a) (nqe : q ≠ en) (nqi : q ≠ it)
    (hdone : ∀ H s, LEnd X pins σ H0 q xs H s → Rs (.ok (.ret rz)) s) (herr : ∀ e s, X.xe e s → Rs (.error e) s) :
    ∀ (k j : Nat) (H : Hp) (s : Shared), j + k = xs.length → LE X pins σ H0 a q en it xs j H s → codeAny (model X.prog X.w) A1 (.builtin "list.extend.loop" ⟨[.ref q, .ref en, rz], []⟩) Rs s := by
  intro k
  induction k with
  | zero =>
    intro j H s hj L
    refine codeAny_builtin PySem.F.entry_extend_loop ?_
    rw [Around.under_plainId PySem.F.plain_extend_loop _]
    show wpAny _ A1.in1 (pyNext (.ref en) >>= _) _ _ s
    obtain ⟨its, rv, p, _⟩ := L.I.tuple (.of (L.fr _ _ ha))
    have hsz : its.toArray.size = j := by have := rv.length; simp; omega
    obtain ⟨f0, f1, f2, f3, f4, f5⟩ := L.fp it (by simp)
    have D := Draws.tuple (prog := X.prog) (w := X.w) (A := A1.in1.in1) hh it a nai its.toArray
    rw [hsz] at D
    have fin : ∀ h', Heap.ExtBut it s.heap h' → Rs (.ok (.ret rz)) { s with heap := h' } := fun h' eb => by
      obtain ⟨acc, h1, h2, h3⟩ := L.ls
      exact hdone H _ ⟨L.I.turned (t' := s.toks) (fun b o hb z => eb b o hb z) f0 f1 f3 f4 f5, L.fr, acc, h1, by omega, h3⟩
    rcases L.en with ⟨old, he⟩ | ⟨old, T, f, ys, he, hT⟩
    · exact wpAny_bind (wpAny_pyNext_enum_endD D he ⟨L.st, p⟩ fun h' eb => wpAny_pure (fin h' eb))
    · exact wpAny_bind (Sw_pyNext_end (old := 0) D he ⟨L.st, p⟩ fun h' eb => wpAny_pure (fin h' eb))
  | succ k ih =>
    intro j H s hj L
    refine codeAny_builtin PySem.F.entry_extend_loop ?_
    rw [Around.under_plainId PySem.F.plain_extend_loop _]
    show wpAny _ A1.in1 (pyNext (.ref en) >>= _) _ _ s
    obtain ⟨its, rv, p, _⟩ := L.I.tuple (.of (L.fr _ _ ha))
    have hlen := rv.length
    have hlt : j < its.toArray.size := by simp; omega
    have hx : xs[j]? = some (xs[j]'(by omega)) := List.getElem?_eq_getElem _
    obtain ⟨u, hu, ru⟩ := rv.get hx
    generalize xs[j]'(by omega) = x at hx ru
    have D := Draws.tuple (prog := X.prog) (w := X.w) (A := A1.in1.in1) hh it a nai its.toArray
    have hel : en < s.heap.objs.size := by
      rcases L.en with ⟨old, he⟩ | ⟨old, T, f, ys, he, hT⟩
      · exact Heap.lt_size he
      · exact Heap.lt_size he
    have hil : it < s.heap.objs.size := by obtain ⟨_, z, _⟩ := L.st; exact Heap.lt_size z
    have cont : ∀ (y : Value) (h' : Heap) (tk : Nat) (old : Value) (T : Addr) (f : Bool), its.toArray[j]? = some y → IsEnumHeld h' en it ((j : Int) + 1) old T f → (T = s.heap.objs.size ∨ ∃ ys, H T = some (.tup ys)) →
        h'.IsTupleIter it a (j + 1) → h'.get? s.heap.objs.size = some { cls := .type "tuple", data := .seq #[.int j tk, y] } → (∀ b o, b ≠ en → b ≠ it → s.heap.get? b = some o → h'.get? b = some o) →
        wpAny (model X.prog X.w) A1.in1 (updateSeq q (·.push (.ref s.heap.objs.size)) >>= fun _ => again (.builtin "list.extend.loop" ⟨[.ref q, .ref en, rz], []⟩))
          (fun fin s' => match fin with | .done f => Rs (.ok f) s' | .again c' => c'.quiet = true ∧ codeAny (model X.prog X.w) A1 c' Rs s') (fun e s' => Rs (.error e) s') { s with heap := h', toks := tk + 1 } := by
      intro y h' tk old T f hy ho hTT hit' hnew hk
      have ey : y = u := by
        have e1 : its[j]? = some y := by simpa using hy
        rw [hu] at e1
        exact (Option.some.inj e1).symm
      subst ey
      have new : ObjOk X.prog X.w (upd H s.heap.objs.size (.tup [.int (j : Nat), x])) h' s.heap.objs.size (.tup [.int (j : Nat), x]) :=
        ⟨by show 2 ≤ sizeLine; decide, [.int j tk, y], .cons ⟨_, rfl⟩ (.cons ru .nil), ⟨_, hnew, rfl, _, rfl⟩⟩
      have fresh : H s.heap.objs.size = none := L.I.hok.fresh (Nat.le_refl _)
      have I1 : Inv X pins σ (upd H s.heap.objs.size (.tup [.int (j : Nat), x])) { s with heap := h', toks := tk + 1 } :=
        L.I.turnedNew (ch := [en, it]) (fun b ob hb z => hk b ob (fun z => hb (by simp [z])) (fun z => hb (by simp [z])) z) L.fp (Nat.le_refl _) new
      obtain ⟨acc, h1, h2, h3⟩ := L.ls
      have nq : q ≠ s.heap.objs.size := fun z => by rw [z, fresh] at h1; cases h1
      have h1' : upd H s.heap.objs.size (.tup [.int (j : Nat), x]) q = some (.lst acc) := by rw [upd_ne nq]; exact h1
      obtain ⟨zz, is, kk, r2, hl, eo⟩ := I1.lstM h1'
      refine wpAny_bind (wpAny_updateSeq eo rfl (wpAny_pure ⟨plainId_quiet PySem.F.plain_extend_loop _, ?_⟩) (by rw [List.size_toArray]; omega) (by show (is.toArray.push _).size ≤ sizeLine + 1; rw [Array.size_push, List.size_toArray]; omega))
      have I2 := I1.lset (its' := is ++ [.ref s.heap.objs.size]) (ys := acc ++ [.ref s.heap.objs.size]) (f := (·.push (.ref s.heap.objs.size))) (t' := tk + 1) h1' eo (by simp) (r2.append (.cons (show RelV (.ref s.heap.objs.size) (.ref s.heap.objs.size) from rfl) .nil)) (by rw [List.length_append, List.length_singleton]; omega)
      have keep : ∀ b o, b ≠ q → b ≠ s.heap.objs.size → H b = some o → upd (upd H s.heap.objs.size (.tup [.int (j : Nat), x])) q (.lst (acc ++ [.ref s.heap.objs.size])) b = some o := fun b o hb1 hb2 z => by rw [upd_ne hb1, upd_ne hb2]; exact z
      have nt : ∀ T ys, H T = some (.tup ys) → T ≠ q ∧ T ≠ s.heap.objs.size := fun T ys z => ⟨(by intro w; rw [w, h1] at z; cases z), (by intro w; rw [w, fresh] at z; cases z)⟩
      have same : ∀ b o, b ≠ q → h'.get? b = some o → (h'.update q (Obj.mapSeq (·.push (.ref s.heap.objs.size)))).get? b = some o := fun b o hb z => (Heap.get?_update_other _ _ (Ne.symm hb)).trans z
      refine ih (j + 1) _ _ (by omega) ⟨I2, fun b o z => ?_, ⟨acc ++ [.ref s.heap.objs.size], upd_same, by simp [h2], fun i v hi => ?_⟩, fun b hb => ⟨?_, (L.fp b hb).2⟩, hit'.at fun o z => same it o (Ne.symm nqi) z, .inr ⟨old, T, f, ?_⟩⟩
      · have z1 := L.fr b o z
        refine keep b o (fun w => ?_) (fun w => ?_) z1
        · rw [w, qn] at z; cases z
        · rw [w, fresh] at z1; cases z1
      · by_cases hi2 : i < acc.length
        · rw [List.getElem?_append_left hi2] at hi
          obtain ⟨T', y', e1, e2, e3⟩ := h3 i v hi
          obtain ⟨n1, n2⟩ := nt _ _ e2
          exact ⟨T', y', e1, keep _ _ n1 n2 e2, e3⟩
        · rw [List.getElem?_append_right (by omega)] at hi
          have hi3 : i - acc.length = 0 := by
            have := (List.getElem?_eq_some_iff.mp hi).1
            simp at this
            omega
          rw [hi3] at hi
          have ei : i = j := by omega
          subst ei
          refine ⟨s.heap.objs.size, x, by simpa using hi.symm, ?_, hx⟩
          rw [upd_ne (Ne.symm nq), upd_same]
      · have hlb : b < s.heap.objs.size := by
          have e' : b = en ∨ b = it := by simpa using hb
          rcases e' with z | z
          · rw [z]; exact hel
          · rw [z]; exact hil
        have nb : b ≠ q := by
          have e' : b = en ∨ b = it := by simpa using hb
          rcases e' with z | z
          · rw [z]; exact Ne.symm nqe
          · rw [z]; exact Ne.symm nqi
        rw [upd_ne nb, upd_ne (Nat.ne_of_lt hlb)]
        exact (L.fp b hb).1
      · have e1 : ((j + 1 : Nat) : Int) = (j : Int) + 1 := by omega
        rw [e1]
        rcases hTT with z | ⟨ys, z⟩
        · refine ⟨[.int (j : Nat), x], same en _ (Ne.symm nqe) ho, ?_⟩
          rw [z, upd_ne (Ne.symm nq), upd_same]
        · obtain ⟨n1, n2⟩ := nt _ _ z
          exact ⟨ys, same en _ (Ne.symm nqe) ho, keep _ _ n1 n2 z⟩
    rcases L.en with ⟨old, he⟩ | ⟨old, T, f, ys, he, hT⟩
    · exact wpAny_bind (wpAny_pyNext_enum_itemD D he ⟨L.st, p⟩ hlt nei (by simp [nei, nea]) fun y h' tk hy ho hit' hnew hsz hk => cont y h' tk _ _ false hy ho (.inl rfl) hit'.1 hnew hk)
    · obtain ⟨_, its2, _, o2, ho2, _⟩ := (show ObjOk X.prog X.w H s.heap T (.tup ys) from L.I.hok T _ hT)
      have nTe : T ≠ en := fun z => by rw [z, (L.fp en (by simp)).1] at hT; cases hT
      have nTi : T ≠ it := fun z => by rw [z, (L.fp it (by simp)).1] at hT; cases hT
      exact wpAny_bind (Sw_pyNext_held D he ho2 nTe nTi ⟨L.st, p⟩ hlt nei (by simp [nei, nea]) fun y h' tk hy ho hit' hnew hsz hk => cont y h' tk _ _ true hy ho (.inr ⟨ys, hT⟩) hit'.1 hnew hk)
end
end Sw

/-! Eng12j: list(enumerate(t)), t a tuple: the expression. -/
namespace Sw
open PySem PySem.Spec PyProof.Rows L2
section
variable {X : Cx} {pins : List (Addr × Obj)} {σ : L2.St} {H : Hp} {s : Shared} {a en it : Addr} {xs : List V}
theorem le_call {Q : Value → Shared → Prop} (hh : X.A.handled = none) (I : Inv X pins σ H s) (ha : H a = some (.tup xs)) (he : IsEnum s.heap en it 0 .none) (hit : s.heap.IsTupleIter it a 0) (nei : en ≠ it) (nai : a ≠ it) (nea : en ≠ a) (fp : ∀ b ∈ [en, it], FpOk X pins H b)
    (hQ : ∀ H' s', LEnd X pins σ H s.heap.objs.size xs H' s' → Q (.ref s.heap.objs.size) s') : wpAny (model X.prog X.w) X.A (call (.type "list") [.ref en]) Q X.xe s := by
  have hz : xs.length ≤ sizeLine := by obtain ⟨_, _, _, z⟩ := I.tuple (.of ha); exact z
  have fresh : H s.heap.objs.size = none := I.hok.fresh (Nat.le_refl _)
  have hen : en < s.heap.objs.size := Heap.lt_size he
  have hil : it < s.heap.objs.size := by obtain ⟨_, z, _⟩ := hit; exact Heap.lt_size z
  generalize hq : s.heap.objs.size = q at *
  have nqe : q ≠ en := Nat.ne_of_gt hen
  have nqi : q ≠ it := Nat.ne_of_gt hil
  refine callType_codes (Q₁ := fun obj s₁ => obj = .ref q ∧ s₁ = { s with heap := s.heap.push { cls := .type "list", data := .seq #[] } }) PySem.F.called_list (PySem.F.typeCall_list_1 _) PySem.F.entry_list_init (code_list_new _ ⟨by rw [hq], rfl⟩) fun obj s₁ h₁ => ?_
  obtain ⟨rfl, rfl⟩ := h₁
  have o1 : (s.heap.push { cls := .type "list", data := .seq #[] }).get? q = some { cls := .type "list", data := .seq #[] } := by rw [← hq]; exact Heap.get?_push_size _ rfl
  refine ⟨⟨_, o1, rfl⟩, PySem.F.args_list_init_2 _ _, ?_⟩
  have I1 : Inv X pins σ (upd H q (.lst [])) { s with heap := s.heap.push { cls := .type "list", data := .seq #[] } } := by rw [← hq]; exact I.lnew (its := []) (t' := s.toks) .nil (Nat.zero_le _)
  show wpAny _ _ (do let old ← Builtin.List.listItems (.ref q); Builtin.List.listUpdate (.ref q) (fun _ => #[]); letGo old.toList.reverse; Builtin.List.listExtendWith (.ref q) (.ref en) .none) _ _ _
  refine wpAny_bind ?_
  unfold Builtin.List.listItems
  refine wpAny_bind (wpAny_seqItems o1 rfl (wpAny_pure ?_))
  show wpAny _ _ (updateSeq q (fun _ => #[]) >>= fun _ => letGo (#[] : Array Value).toList.reverse >>= fun _ => Builtin.List.listExtendWith (.ref q) (.ref en) .none) _ _ _
  refine wpAny_bind (wpAny_updateSeq o1 rfl ?_)
  have I2 := I1.lset (f := fun _ => #[]) (its := []) (its' := []) (ys := []) (t' := s.toks) upd_same o1 rfl .nil (Nat.zero_le _)
  rw [upd_upd] at I2
  have o2 := Heap.get?_update_self (Obj.mapSeq (fun _ => (#[] : Array Value))) o1 rfl
  have k2 : ∀ b o, s.heap.get? b = some o → ((s.heap.push { cls := .type "list", data := .seq #[] }).update q (Obj.mapSeq fun _ => #[])).get? b = some o := fun b o e =>
    (Heap.get?_update_other _ _ (by rw [← hq]; exact Ne.symm (Nat.ne_of_lt (Heap.lt_size e)))).trans (Heap.get?_push_of_some _ e)
  refine wpAny_bind (wpAny_letGo ?_)
  generalize hh2 : (s.heap.push { cls := .type "list", data := .seq #[] }).update q (Obj.mapSeq fun _ => #[]) = h2 at I2 o2 k2 ⊢
  have ty : ({ s with heap := h2 } : Shared).TypeIs (.ref en) "enumerate" := ⟨_, k2 _ _ he, rfl⟩
  unfold Builtin.List.listExtendWith
  refine wpAny_bind (wpAny_typeOf ty ?_)
  have n1 : Builtin.List.listSameRef (.ref q) (.ref en) = false := by simp [Builtin.List.listSameRef, nqe]
  have n2 : (Value.type "enumerate" == Value.type "list") = false := by decide
  have n3 : (Value.type "enumerate" == Value.type "tuple") = false := by decide
  simp only [n1, n2, n3, Bool.or_false, Bool.false_eq_true, if_false]
  refine wpAny_bind (wpAny_pyIter_enum (s := { s with heap := h2 }) (k2 _ _ he) ?_)
  refine wpAny_bind (wpAny_holding ?_)
  unfold Builtin.List.listLengthHint
  refine wpAny_bind (wpAny_specialOf ty Sw_no_len ?_)
  show wpAny _ _ (specialOf (Value.ref en) (Str.ofString "__length_hint__") >>= _) _ _ _
  refine wpAny_bind (wpAny_specialOf ty Sw_no_hint ?_)
  refine wpAny_pure ?_
  show wpAny _ _ (rule "list.extend.makes-room" >>= fun _ => Builtin.List.listTouch (.ref q) >>= fun _ => again (.builtin "list.extend.loop" ⟨[.ref q, .ref en, .none], []⟩)) _ _ _
  refine wpAny_bind (wpAny_rule ?_)
  refine wpAny_bind ?_
  show wpAny _ _ (updateSeq q (·.push .none) >>= fun _ => updateSeq q (·.pop)) _ _ _
  refine wpAny_bind (wpAny_updateSeq o2 rfl ?_)
  have o3 := Heap.get?_update_self (Obj.mapSeq (·.push Value.none)) o2 rfl
  have I3 := I2.lset (f := (·.push Value.none)) (its := []) (its' := [Value.none]) (ys := [.non]) (t' := s.toks) upd_same o2 (by simp) (.cons (show RelV .non .none from rfl) .nil) (by rw [List.length_singleton, sizeLine_eq]; decide)
  refine wpAny_updateSeq (hz := by seq_fits) o3 rfl ?_
  have I4 := I3.lset (f := (·.pop)) (its := [Value.none]) (its' := []) (ys := []) (t' := s.toks) upd_same o3 (by rfl) .nil (Nat.zero_le _)
  rw [upd_upd, upd_upd] at I4
  have k4 : ∀ b o, s.heap.get? b = some o → ((h2.update q (Obj.mapSeq (·.push Value.none))).update q (Obj.mapSeq (·.pop))).get? b = some o := fun b o e => by
    have nb : q ≠ b := by rw [← hq]; exact Ne.symm (Nat.ne_of_lt (Heap.lt_size e))
    exact (Heap.get?_update_other _ _ nb).trans ((Heap.get?_update_other _ _ nb).trans (k2 b o e))
  refine wpAny_pure ⟨plainId_quiet PySem.F.plain_extend_loop _, ?_⟩
  refine le_loop (X := X) (pins := pins) (σ := σ) (H0 := H) (xs := xs) (a := a) (q := q) (en := en) (it := it) (A1 := X.A.in1) hh hz ha fresh nei nai nea nqe nqi (fun H' s' L => ⟨rfl, hQ H' s' L⟩) (fun e s' z => z) xs.length 0 (upd H q (.lst [])) _ (Nat.zero_add _) ⟨I4, fun b o z => ?_, ⟨[], upd_same, rfl, fun i x z => by simp at z⟩, fun b hb => ⟨?_, (fp b hb).2⟩, hit.at fun o z => k4 _ _ z, .inl ⟨_, k4 _ _ he⟩⟩
  · rw [upd_ne]
    · exact z
    · intro w; rw [w, fresh] at z; cases z
  · have nb : b ≠ q := by
      have e' : b = en ∨ b = it := by simpa using hb
      rcases e' with z | z
      · rw [z]; exact Ne.symm nqe
      · rw [z]; exact Ne.symm nqi
    rw [upd_ne nb]
    exact (fp b hb).1
/-- more is tracked than before -/
theorem Ext.more {m : Nat → Addr} {S : Sto} {H H' : Hp} (R : Rel m S H) (h : ∀ b o, H b = some o → H' b = some o) : Ext m m S S H H' := by
  have kp := Keep.same h
  refine ⟨Nat.le_refl _, fun _ _ => rfl, kp, rfl, ⟨fun n o e => ?_, R.inj, R.low, R.top, R.lens⟩, fun a o z _ => h a o z, fun n h1 h2 => absurd h2 (Nat.not_lt_of_le h1)⟩
  obtain ⟨u, hu⟩ := (R.obj n o e).live
  exact (R.obj n o e).mono' (Nat.le_refl _) (fun _ _ => rfl) kp (by rw [h _ _ hu, hu])
theorem enumPairs_rd {m : Nat → Addr} {k : Nat} {H : Hp} : ∀ {ds : List D} {vs acc : List V} {c : Nat}, RDs m k H ds vs → acc.length = vs.length → (∀ i x, acc[i]? = some x → ∃ T y, x = .ref T ∧ H T = some (.tup [.int ((c + i : Nat) : Int), y]) ∧ vs[i]? = some y) → RDs m k H (enumPairs c ds) acc
  | [], vs, acc, c, r, hl, h => by
    cases (show vs = [] from r)
    exact List.length_eq_zero_iff.mp hl
  | d :: ds, vs, acc, c, r, hl, h => by
    obtain ⟨v, vs, rfl, r1, r2⟩ := r
    cases acc with
    | nil => cases hl
    | cons x acc =>
      obtain ⟨T, y, e1, e2, e3⟩ := h 0 x rfl
      have ey : v = y := by simpa using e3
      subst ey
      refine ⟨x, acc, rfl, ⟨T, _, e1, e2, .int (c : Nat), [v], by simp, rfl, v, [], rfl, r1, rfl⟩, enumPairs_rd r2 (by simpa using hl) fun i x hi => ?_⟩
      obtain ⟨T', y', f1, f2, f3⟩ := h (i + 1) x (by simpa using hi)
      exact ⟨T', y', f1, by rw [f2, show c + (i + 1) = c + 1 + i by omega], by simpa using f3⟩
variable {e : Expr} {p p1 pos pos1 : Pos} {g : EvA}
theorem pev_lenum (hc : X.calm = true) (hg : Gl X "list") (hm : X.mg "list" = none) (hg1 : Gl X "enumerate") (hm1 : X.mg "enumerate" = none) (h1 : PA X [e] (rdA g)) (hs : starEach [e] X.env = [(false, eval e X.env)]) :
    PE X (.Call (.Name "list" p) [.Call (.Name "enumerate" p1) [e] [] pos1] [] pos) (rdE (evN lenumN g)) := by
  refine ⟨fun pins s σ H Q I h => ?_⟩
  refine Call_ (ld_blt I hg hm PyProof.Rows.boot_list (PyProof.Rows.callWith_type1 ?_ rfl rfl))
  show wpAny _ _ (spliced ((false, eval (.Call (.Name "enumerate" p1) [e] [] pos1) X.env) :: backTo pos (starEach [] X.env))) _ _ s
  refine Calls.spliced_cons ?_
  obtain ⟨m, S, ρ, d, S', R, E, e1, q⟩ := rdN_seq h
  refine Call_ (ld_blt I hg1 hm1 boot_enumerate (PyProof.Rows.callWith_type1 (thn (h1.run pos1 pins s σ H _ I ⟨m, S, ρ, d, S', R, E, e1, q⟩) fun us s1 ⟨vs, H1, I1, r1, q1⟩ => ?_) hs rfl))
  obtain ⟨m1, S1, ds, d1, S2, R1, rr, e2, q2⟩ := q1
  unfold lenumN at e2
  split at e2
  · rename_i ys
    obtain ⟨v, rfl, a, xs, rfl, ha, qs⟩ := rr.one1
    split at e2
    · rename_i hf
      cases e2
      rw [Vals.ref1 r1]
      obtain ⟨its, rv, p', hz⟩ := I1.tuple (.of ha)
      have hal : a < s1.heap.objs.size := I1.hok.lt ha
      refine Sw_enumerate_tuple (show s1.heap.IsTuple a its.toArray from p') fun h' he hit hsz hk => Calls.spliced_nil ?_
      have I2 : Inv X pins σ H1 { s1 with heap := h' } := I1.kept (t' := s1.toks) hk
      refine le_call (I1.ok.hd hc) I2 ha he hit (Nat.succ_ne_self _) (Nat.ne_of_lt hal) (fun z => absurd hal (by rw [← z]; exact Nat.not_lt_of_le (Nat.le_succ _))) (fun b hb => ?_) fun H' s' L => ?_
      · have hle : s1.heap.objs.size ≤ b := by
          have e' : b = s1.heap.objs.size + 1 ∨ b = s1.heap.objs.size := by simpa using hb
          rcases e' with z | z
          · rw [z]; exact Nat.le_add_right _ _
          · rw [z]; exact Nat.le_refl _
        exact I1.fpOk hle (I1.hok.fresh hle)
      · obtain ⟨I3, fr, acc, hq, hl, hall⟩ := L
        have qn : H1 h'.objs.size = none := I2.hok.fresh (Nat.le_refl _)
        refine ⟨.ref h'.objs.size, H', I3, rfl, ?_⟩
        have X1 : Ext m1 m1 S1 S1 H1 (fun b => if b = h'.objs.size then none else H' b) := Ext.more R1 fun b o z => by
          have nb : b ≠ h'.objs.size := fun w => by rw [w, qn] at z; cases z
          show (if b = h'.objs.size then none else H' b) = some o
          rw [if_neg nb]
          exact fr b o z
        have eH : upd (fun b => if b = h'.objs.size then none else H' b) h'.objs.size (.lst acc) = H' := by
          funext b
          by_cases nb : b = h'.objs.size
          · rw [nb, upd_same]; exact hq.symm
          · rw [upd_ne nb, if_neg nb]
        have ok : OOk m1 S1.len (upd (fun b => if b = h'.objs.size then none else H' b) h'.objs.size (.lst acc)) h'.objs.size (.lst (enumPairs 0 ys)) := by
          rw [eH]
          refine ⟨acc, hq, enumPairs_rd (RDs.mono' (Nat.le_refl _) (fun _ _ => rfl) (Keep.same fr) _ _ qs) hl fun i x hi => ?_⟩
          obtain ⟨T, y, f1, f2, f3⟩ := hall i x hi
          exact ⟨T, y, f1, by rw [f2, Nat.zero_add], f3⟩
        have X2 := Ext.add (p := h'.objs.size) X1.rel (by rw [if_pos rfl]) ok
        rw [eH] at X2
        exact q2 _ H' _ (X1.trans X2) ⟨by rw [Sto.add_len]; exact Nat.lt_succ_self _, by rw [withAt_same]⟩
    · cases e2
  · cases e2
end
end Sw

/-! Eng12k: **, displays of dicts whose keys are texts or whole numbers. -/
namespace Sw
open PySem PySem.Spec PyProof.Rows L2
def powD : D → D → Sto → Res D
  | .int i, .int j, S => match decide (0 ≤ j) && decide (j ≤ 1000) && Nat.blt i.natAbs 18446744073709551616 with
    | true => .ok (.int (i ^ j.toNat)) S
    | false => .bad
  | _, _, _ => .bad
/-- the pairs put in, one behind another -/
def putAll : List (D × D) → List D → Option (List (D × D))
  | kvs, [] => some kvs
  | kvs, k :: v :: r => match keyOf k with
    | some q => putAll (dPut keyOf kvs q k v) r
    | none => none
  | _, _ => none
def evDispK (g : EvA) : Ev := fun ρ S => match g ρ (S.add (.dct [])) with
  | .ok ds S1 => match S1.objs[S.len]? with
    | some (.dct []) => match putAll [] ds with
      | some kvs => match Nat.ble ds.length 30 with
        | true => .ok (.ref S.len) (S1.put S.len (.dct kvs) (D.blws 0 ds))
        | false => .bad
      | none => .bad
    | _ => .bad
  | .bad => .bad
section
variable {X : Cx}
theorem opv_pow : OpR X (binaryOp .Pow) (rd2 powD) := OpR.of op_pow fun x y H Q h => by
  obtain ⟨m, S, d1, d2, d, S', R, r1, r2, e, q⟩ := h
  unfold powD at e
  split at e
  · split at e
    · rename_i hb
      cases e
      simp only [Bool.and_eq_true, decide_eq_true_eq] at hb
      have h3 : _ < 18446744073709551616 := Nat.le_of_ble_eq_true hb.2
      exact ⟨_, _, r1, r2, ⟨hb.1.1, by omega, h3⟩, rdPure R q rfl⟩
    · cases e
  · cases e
/-- V's by twos -/
def twos : List V → List (V × V)
  | a :: b :: r => (a, b) :: twos r
  | _ => []
def altE : List (Ev × Ev) → EvA
  | [] => evNil
  | (a, b) :: r => evCons a (evCons b (altE r))
theorem rd_pairs {σ : L2.St} : ∀ (l : List (Ev × Ev)) {m : Nat → Addr} {S S' : Sto} {ρ : En} {H : Hp} {ds : List D} {Q : List (V × V) → Hp → Prop}, Rel m S H → REnv m S.len H ρ σ → altE l ρ S = .ok ds S' →
    (∀ m' H' vs, Ext m m' S S' H H' → RDs m' S'.len H' ds vs → Q (twos vs) H') → tPairs (l.map fun p => (rdE p.1, rdE p.2)) σ H Q
  | [], m, S, S', ρ, H, ds, Q, R, E, e, q => by
    cases e
    exact q m H [] (Ext.refl R) rfl
  | (a, b) :: l, m, S, S', ρ, H, ds, Q, R, E, e, q => by
    simp only [altE, evCons] at e
    split at e
    · rename_i d1 S1 h1
      split at e
      · rename_i ds1 S2 h2
        cases e
        split at h2
        · rename_i d2 S3 h3
          split at h2
          · rename_i ds2 S4 h4
            cases h2
            refine ⟨m, S, ρ, d1, S1, R, E, h1, fun m1 H1 v1 X1 r1 => ⟨m1, S1, ρ, d2, S3, X1.rel, E.ext X1, h3, fun m2 H2 v2 X2 r2 => ?_⟩⟩
            refine rd_pairs l X2.rel ((E.ext X1).ext X2) h4 fun m3 H3 vs X3 r3 => ?_
            exact q m3 H3 (v1 :: v2 :: vs) (X1.trans (X2.trans X3)) ⟨v1, _, rfl, RD.ext (RD.ext r1 X2) X3, v2, _, rfl, RD.ext r2 X3, r3⟩
          · cases h2
        · cases h2
      · cases e
    · cases e
theorem putAll_ok {m : Nat → Addr} {k : Nat} {H : Hp} : ∀ {ds : List D} {vs : List V} {kvs kvs' : List (D × D)} {ps : List (Key × V)}, RDs m k H ds vs → RKv m k H kD kvs ps → putAll kvs ds = some kvs' →
    ∃ l : List (Key × V), twos vs = l.map (fun kv => (kV kv.1, kv.2)) ∧ RKv m k H kD kvs' (mergeK ps l) ∧ 2 * l.length = ds.length
  | [], vs, kvs, kvs', ps, r, h, e => by
    cases e
    rw [show vs = [] from r]
    exact ⟨[], rfl, h, rfl⟩
  | [d], vs, kvs, kvs', ps, r, h, e => by cases e
  | d :: d' :: ds, vs, kvs, kvs', ps, r, h, e => by
    obtain ⟨v, vs, rfl, r1, v', vs', rfl, r2, r3⟩ := r
    simp only [putAll] at e
    split at e
    · rename_i q hq
      have hd := keyOf_ok hq
      subst hd
      have hv := RD.kD r1
      obtain ⟨l, l1, l2, l3⟩ := putAll_ok r3 (dPut_ok keyOf_kD h r2) e
      refine ⟨(q, v') :: l, ?_, l2, by simp only [List.length_cons]; omega⟩
      show (v, v') :: twos vs' = _
      rw [l1, hv]
      rfl
    · cases e
theorem putAll_below {b : Nat} : ∀ {ds : List D} {kvs kvs' : List (D × D)}, D.blws b ds = true → pairsBelow b kvs = true → putAll kvs ds = some kvs' → pairsBelow b kvs' = true
  | [], kvs, kvs', _, h, e => by cases e; exact h
  | [d], kvs, kvs', _, h, e => by cases e
  | d :: d' :: ds, kvs, kvs', hb, h, e => by
    simp only [D.blws, Bool.and_eq_true] at hb
    simp only [putAll] at e
    split at e
    · exact putAll_below hb.2.2 (dPut_below hb.2.1 hb.1 h) e
    · cases e
theorem blws_mono {b : Nat} : ∀ {ds : List D}, D.blws 0 ds = true → D.blws b ds = true
  | [], _ => rfl
  | d :: ds, h => by
    simp only [D.blws, Bool.and_eq_true] at h ⊢
    exact ⟨below_mono (Nat.zero_le b) _ h.1, blws_mono h.2⟩
theorem pev_dispK {keys : List (Option Expr)} {values : List Expr} {pos : Pos} {l : List (Ev × Ev)} (hp : PPs X pos keys values (l.map fun p => (rdE p.1, rdE p.2))) (hall : keys.all (·.isSome) = true) (hl : keys.length = values.length) (h0 : keys ≠ []) (h15 : keys.length ≤ 15) :
    PE X (.Dict keys values pos) (rdE (evDispK (altE l))) := PE.of (pe_disp hp hall hl h0 h15) fun σ H Q h => by
  obtain ⟨m, S, ρ, d, S', R, E, e, q⟩ := h
  unfold evDispK at e
  split at e
  · rename_i ds S1 h1
    split at e
    · rename_i ho
      split at e
      · rename_i kvs hk
        split at e
        · rename_i hb
          cases e
          intro p hpn
          have XA : Ext m (withAt m S.len p) S (S.add (.dct [])) H (upd H p (.dK [])) := Ext.add R hpn ⟨[], upd_same, rfl⟩
          have hln : S.len < (S.add (.dct [])).len := by rw [Sto.add_len]; exact Nat.lt_succ_self _
          refine rd_pairs l XA.rel (E.ext XA) h1 fun m1 H1 vs X1 r1 => ?_
          have hm1 : m1 S.len = p := by rw [X1.ag _ hln]; exact withAt_same ..
          obtain ⟨ps, g1, g2⟩ := X1.rel.obj _ _ ho
          cases (show ps = [] from g2)
          rw [hm1] at g1
          obtain ⟨ll, l1, l2, l3⟩ := putAll_ok (kvs := []) (ps := []) r1 rfl hk
          have hlen : ll.length ≤ 15 := by have := Nat.le_of_ble_eq_true hb; omega
          refine ⟨g1, ll, l1, hlen, ?_⟩
          have kp : Keep H1 (upd H1 p (.dK (mergeK [] ll))) := ⟨fun a zs z => (by
            rw [upd_ne]
            · exact z
            · rintro rfl; rw [g1] at z; cases z), fun a o' u z => (by
            rw [upd_ne]
            · exact z
            · rintro rfl; rw [g1] at z; cases z)⟩
          have X2 : Ext m1 m1 S1 (S1.put S.len (.dct kvs) (D.blws 0 ds)) H1 (upd H1 (m1 S.len) (.dK (mergeK [] ll))) := by
            refine Ext.put (ho0 := .dK []) X1.rel ho (by rw [hm1]; exact g1) True.intro ⟨_, upd_same, ?_⟩ fun z b _ => putAll_below (kvs := []) (blws_mono z) rfl hk
            rw [hm1]
            exact RKv.mono' (Nat.le_refl _) (fun _ _ => rfl) kp _ _ l2
          rw [hm1] at X2
          exact q m1 _ _ (XA.trans (X1.trans X2)) ⟨Nat.lt_of_lt_of_le hln (Nat.le_trans X1.len X2.len), by rw [hm1]⟩
        · cases e
      · cases e
    · cases e
  · cases e
end
end Sw

/-! Eng12l: x[::-1] of tuples and lists. -/
namespace Sw
open PySem PySem.Spec PyProof.Rows L2
theorem adj_rev (n : Nat) : Builtin.Slice.sliceAdjust none none (-1) (n : Int) = ((n : Int) - 1, -1) := by
  unfold Builtin.Slice.sliceAdjust
  simp
theorem plc_rev (n : Nat) : Builtin.Slice.slicePlaces ((n : Int) - 1) (-1) (-1) = n := by
  unfold Builtin.Slice.slicePlaces
  have h1 : ¬ ((-1 : Int) > 0) := by omega
  simp only [h1, if_false]
  split
  · simp only [Int.neg_neg, Int.ediv_one]; omega
  · omega
theorem pick_rev (xs : Array Value) : ((List.range xs.size).filterMap fun (k : Nat) => xs[((xs.size : Int) - 1 + (k : Int) * (-1)).toNat]?).toArray = xs.toList.reverse.toArray := by
  congr 1
  apply List.ext_getElem?
  intro i
  have key : ∀ n : Nat, n ≤ xs.size → (List.range n).filterMap (fun (k : Nat) => xs[((xs.size : Int) - 1 + (k : Int) * (-1)).toNat]?) = xs.toList.reverse.take n := by
    intro n
    induction n with
    | zero => intro _; rfl
    | succ n ih =>
      intro h
      have hn : n < xs.size := by omega
      have e : ((xs.size : Int) - 1 + (n : Int) * (-1)).toNat = xs.size - 1 - n := by omega
      have hx : xs[xs.size - 1 - n]? = some (xs[xs.size - 1 - n]'(by omega)) := Array.getElem?_eq_getElem _
      rw [List.range_succ, List.filterMap_append, ih (by omega)]
      simp only [List.filterMap_cons, List.filterMap_nil, e, hx]
      rw [List.take_add_one]
      congr 1
      have hl : n < xs.toList.reverse.length := by simp; omega
      rw [List.getElem?_eq_getElem hl]
      simp [List.getElem_reverse]
  rw [key xs.size (Nat.le_refl _), List.take_of_length_le (by simp)]
def revD : D → Sto → Res D
  | .tup ds, S => .ok (.tup ds.reverse) S
  | .ref n, S => match S.list? n with
    | some xs => newL S xs.reverse
    | none => .bad
  | _, _ => .bad
section
variable {X : Cx}
def tRevT (K : PySem.W.Frag) (te : TE) : TE := fun σ H Q => te σ H fun x H1 => ∃ a xs, x = .ref a ∧ SqT K H1 a xs ∧ ∀ p, H1 p = none → Q (.ref p) (upd H1 p (.tup xs.reverse))
theorem getItem_rev {prog : Program} {w : World} {A : Around} {E : Value → Shared → Prop} {s : Shared} {t sl : Addr} {items : Array Value} {vs : Value} {Q : Value → Shared → Prop} (ht : IsTup s.heap t items) (hs : s.heap.IsSliceOf sl .none .none vs) (ps : IsPart vs (some (-1)))
    (h : Q (.ref s.heap.objs.size) { s with heap := s.heap.push { cls := .type "tuple", data := .seq items.toList.reverse.toArray } }) (hz : items.size ≤ sizeLine) : wpAny (model prog w) A (getItem (.ref t) (.ref sl)) Q E s := by
  have fit : sizeOk (.seq items.toList.reverse.toArray) := by show items.toList.reverse.toArray.size ≤ sizeLine; simpa using hz
  obtain ⟨os, hos, hcs, hds⟩ := id hs
  have ty : s.TypeIs (.ref sl) "slice" := ⟨os, hos, hcs⟩
  unfold getItem
  try with_reducible refine wpAny_holding ?_
  first | refine wpAny_bind (wpAny_pure ?_) | skip
  refine wpAny_bind (wpAny_sequenceKey ht.typeIs (by decide) ?_)
  refine wpAny_bind (wpAny_callSpecial?_slot (name := Str.ofString "__getitem__") ht.typeIs PyProof.Rows.slot_tuple_getitem (wpAny_call_entry PyProof.Rows.slot_tuple_getitem ht.typeIs entry_tuple_getitem ?_ (args_tuple_getitem _ _)))
  show wpAny _ _ (Builtin.Tuple.tupleItemsOf (.ref t) >>= _) _ _ s
  refine wpAny_bind (tupleItemsOf_ ht (wpAny_bind (wpAny_typeOf ty ?_)))
  rw [if_pos (by decide)]
  refine wpAny_bind ?_
  unfold Builtin.Slice.sliceApplied Builtin.Slice.sliceFields
  refine wpAny_bind (wpAny_bind (wpAny_field hos hds (x := .none) rfl (wpAny_bind (wpAny_field hos hds (x := .none) rfl (wpAny_bind (wpAny_field hos hds (x := vs) rfl (wpAny_pure ?_)))))))
  refine wpAny_bind (HT.slicePart_ ps ?_)
  show wpAny _ _ (if ((-1 : Int) == 0) = true then _ else _) _ _ s
  rw [if_neg (by decide)]
  refine wpAny_bind (HT.slicePart_ .none (wpAny_bind (HT.slicePart_ .none (wpAny_bind (wpAny_pure ?_)))))
  show wpAny _ _ (match Builtin.Slice.sliceAdjust none none (-1) (items.size : Int) with | (lo, hi) => pure (lo, (-1 : Int), Builtin.Slice.slicePlaces lo hi (-1))) _ _ s
  rw [adj_rev]
  show wpAny _ _ (pure ((items.size : Int) - 1, (-1 : Int), Builtin.Slice.slicePlaces ((items.size : Int) - 1) (-1) (-1))) _ _ s
  rw [plc_rev]
  refine wpAny_pure ?_
  have no : ¬ ((((items.size : Int) - 1) == 0 && (-1 : Int) == 1 && items.size == items.size) = true) := by simp
  show wpAny _ _ (if (((items.size : Int) - 1) == 0 && (-1 : Int) == 1 && items.size == items.size) = true then _ else _) _ _ s
  rw [if_neg no, pick_rev]
  first
    | exact wpAny_bind (m := Builtin.Tuple.tupleExact _) (wpAny_newObj_type (wpAny_pure ⟨_, rfl, wpAny_pure h⟩) fit)
    | exact wpAny_bind (wpAny_bind (m := Builtin.Tuple.tupleExact _) (wpAny_newObj_type (wpAny_pure ⟨_, rfl, wpAny_pure h⟩) fit))
theorem pe_revT {e : Expr} {te : TE} {k : Nat} {p1 p2 p3 pos : Pos} (he : PE X e te) : PE X (.Subscript e (.Slice none none (some (.UnaryOp .USub (.Constant (.int 1) k p1) p2)) p3) pos) (tRevT X.K te) := by
  refine ⟨fun pins s σ H Q I h => ?_⟩
  refine Subscript_ (thn (he.run pins s σ H _ I h) fun v sa ⟨x, Ha, Ia, ra, qa⟩ => ?_)
  obtain ⟨a, xs, ex, hx, q⟩ := qa
  subst ex
  cases ra
  have step : PO X (some (.UnaryOp .USub (.Constant (.int 1) k p1) p2)) (tPart (tUn (rU fun i => .int (-i)) (tC (.int 1)))) := po_some (pe_un un_neg pe_int)
  refine wpAny_Slice (thn (po_none.run pins sa σ Ha (fun o Hb => o = none ∧ Hb = Ha) Ia ⟨rfl, rfl⟩) fun vl sb ⟨l, Hb, Ib, pl, el, eb⟩ => ?_)
  subst el eb
  refine thn (po_none.run pins sb σ Hb (fun o Hc => o = none ∧ Hc = Hb) Ib ⟨rfl, rfl⟩) fun vu sc ⟨u, Hc, Ic, pu, eu, ec⟩ => ?_
  subst eu ec
  refine thn (step.run pins sc σ Hc (fun o Hd => o = some (-1) ∧ Hd = Hc) Ic ⟨1, rfl, -1, rfl, rfl, rfl⟩) fun vs sd ⟨o, Hd, Id, ps, eo, ed⟩ => ?_
  subst eo ed
  have Ie : Inv X pins σ Hd { sd with heap := sd.heap.push { cls := .type "slice", data := .fields #[vl, vu, vs] } } := Id.kept (t' := sd.toks) fun b ob z => Heap.get?_push_of_some _ z
  obtain ⟨its, r, ht, hz⟩ := Ie.tuple hx
  have hlen := r.length
  cases pl
  cases pu
  show wpAny (model X.prog X.w) X.A (subscriptTail e (.Slice none none (some (.UnaryOp .USub (.Constant (.int 1) k p1) p2)) p3) (.ref a) (.ref sd.heap.objs.size)) (EP X pins σ Q) X.xe _
  refine tail_any (ops := [.ref a, .ref sd.heap.objs.size]) (IsTup.typeIs ht) (PyProof.Rows.slot_tuple_getitem.lookup) ?_ (by with_unfolding_all rfl)
  refine getItem_rev ht (Heap.IsSliceOf.new _ .none .none vs) ps ?_ (by rw [List.size_toArray]; omega)
  refine ⟨.ref _, _, Ie.laid (t' := sd.toks) (o := .tup xs.reverse) (fun b ob z => Heap.get?_push_of_some _ z) (Nat.le_refl _) ?_, rfl, q _ (Ie.hok.fresh (Nat.le_refl _))⟩
  exact ⟨by rw [List.length_reverse]; exact hz, _, r.reverse, ⟨_, Heap.get?_push_size _ rfl, rfl, _, rfl⟩⟩
theorem pev_rev {e : Expr} {f : Ev} {k : Nat} {p1 p2 p3 pos : Pos} (he : PE X e (rdE f)) : PE X (.Subscript e (.Slice none none (some (.UnaryOp .USub (.Constant (.int 1) k p1) p2)) p3) pos) (rdE (ev1 revD f)) := by
  refine ⟨fun pins s σ H Q I h => ?_⟩
  obtain ⟨m, S, ρ, d, S', R, E, e, q⟩ := h
  unfold ev1 at e
  split at e
  · rename_i d0 S1 h1
    unfold revD at e
    split at e
    · cases e
      refine (pe_revT he).run pins s σ H Q I ⟨m, S, ρ, _, _, R, E, h1, fun m1 H1 v1 X1 r1 => ?_⟩
      obtain ⟨a, vs, rfl, ha, qs⟩ := r1
      exact ⟨a, vs, rfl, .of ha, goTup X1.rel qs.reverse fun m2 H2 v2 X2 r2 => q m2 H2 v2 (X1.trans X2) r2⟩
    · split at e
      · rename_i xs hl
        cases e
        refine (pe_revL he).run pins s σ H Q I ⟨m, S, ρ, _, _, R, E, h1, fun m1 H1 v1 X1 r1 => ?_⟩
        obtain ⟨vs, g1, g2, _⟩ := X1.rel.sqL (K := X.K) hl
        exact ⟨_, vs, r1.2, g1, goLst X1.rel g2.reverse fun m2 H2 v2 X2 r2 => q m2 H2 v2 (X1.trans X2) r2⟩
      · cases e
    · cases e
  · cases e
end
end Sw

/-! Eng12m: repr. -/
namespace Sw
open PySem PySem.Spec PyProof.Rows L2
/-! ### repr -/
def showN (S : Sto) (d : D) : Res D := match res S d with
  | some p => match p.showable && !p.hasDict && Nat.ble p.depth 60 && fits p.shown.length with
    | true => .ok (.str p.shown) S
    | false => .bad
  | none => .bad
def reprN : List D → Sto → Res D
  | [.tup ds], S => showN S (.tup ds)
  | [.ref n], S => match showN S (.ref n) with
    | .ok d S' => .ok d S'
    | .bad => match S.objs[n]? with
      | some (.dct []) => .ok (.str "{}") S
      | _ => .bad
  | [.str x], S => match fits (reprText x).length with
    | true => .ok (.str (reprText x)) S
    | false => .bad
  | [.bl b], S => .ok (.str (if b then "True" else "False")) S
  | [.non], S => .ok (.str "None") S
  | [.int i], S => match Nat.blt i.natAbs.log2 1920 with
    | true => .ok (.str (toString i)) S
    | false => .bad
  | _, _ => .bad
section
variable {X : Cx}
theorem show_run {pins : List (Addr × Obj)} {s : Shared} {σ : L2.St} {H : Hp} {m : Nat → Addr} {S S' : Sto} {d d' : D} {a : Addr} {Q : VK} (hn : NoG X.A) (hu : X.A.units + 64 < cLine) (I : Inv X pins σ H s) (R : Rel m S H) (r : RD m S.len H d (.ref a)) (e : showN S d = .ok d' S')
    (q : ∀ m' H' v, Ext m m' S S' H H' → RD m' S'.len H' d' v → Q v H') : wpAny (model X.prog X.w) X.A (call (.builtin "repr") [.ref a]) (EP X pins σ Q) X.xe s := by
  unfold showN at e
  split at e
  · rename_i p hp
    split at e
    · rename_i hb
      cases e
      simp only [Bool.and_eq_true, Bool.not_eq_true'] at hb
      obtain ⟨d1, p1⟩ := res_dp (K := X.K) R r hp
      obtain ⟨as, r1⟩ := Dp.reads I p (.ref a) (.ref a) d1 rfl
      have hd := Nat.le_of_ble_eq_true hb.1.2
      exact PySem.repr_of_reads' r1 hb.1.1.1 (fun z => by rw [hb.1.1.2] at z; cases z) hn (by omega) (fun _ _ z => z) (fun h' u tk hk => ⟨.str p.shown, H, I.kept (t' := tk) hk, ⟨u, rfl⟩, rdPure R q rfl⟩) (fits_le hb.2)
    · cases e
  · cases e
theorem crv_repr (hn : NoG X.A) (hu : X.A.units + 64 < cLine) : CallR X (.builtin "repr") (rdN reprN) := by
  intro pins s σ H xs us Q I r h
  obtain ⟨m, S, ds, d, S', R, rr, e, q⟩ := h
  unfold reprN at e
  split at e
  · obtain ⟨v, rfl, hv⟩ := rr.one1
    obtain ⟨a, vs, rfl, ha, qs⟩ := id hv
    rw [Vals.ref1 r]
    exact show_run hn hu I R hv e q
  · rename_i S0 n
    obtain ⟨v, rfl, hv⟩ := rr.one1
    obtain ⟨h1, rfl⟩ := id hv
    rw [Vals.ref1 r]
    split at e
    · rename_i hs
      exact show_run hn hu I R hv (hs.trans e) q
    · split at e
      · rename_i ho
        cases e
        obtain ⟨ps, a1, a2⟩ := R.obj _ _ ho
        have a2 : ps = [] := a2
        subst a2
        obtain ⟨_, lo, vs, kv, o, es, ep, g1, g2, g3, _, pr, _⟩ := L2.dk_of I.hok a1
        cases kv
        have pe : es.toList = [] := by
          generalize es.toList = l at pr
          cases pr
          rfl
        have r1 : Reads s.heap (.ref (m n)) (.dict []) [m n] := by
          have := Reads.dict (kvs := []) (as := []) (bs := []) g1 g2.1 g3 (by rw [pe]; exact .nil) (by rw [pe]; exact .nil)
          exact this
        exact PySem.repr_of_reads' r1 rfl (fun _ z => by
          have z2 := List.mem_singleton.mp z
          rw [← z2] at lo
          simp at lo) hn (by show X.A.units + _ < _; have : (PyData.dict []).depth + 1 ≤ 64 := by decide
                             omega) (fun _ _ z => z) (fun h' u tk hk => ⟨.str "{}", H, I.kept (t' := tk) hk, ⟨u, rfl⟩, rdPure R q rfl⟩) (fits_le (by decide))
      · cases e
  · rename_i x S0
    split at e
    · rename_i hf
      cases e
      obtain ⟨v, rfl, hv⟩ := rr.one1
      rw [show v = _ from hv] at r
      obtain ⟨u, rfl, ru⟩ := vals1 r
      obtain ⟨t, rfl⟩ := ru
      exact PySem.P.repr_of_str ⟨.str _, H, I.tok _, ⟨_, rfl⟩, rdPure R q rfl⟩ (fits_le hf)
    · cases e
  · cases e
    obtain ⟨v, rfl, hv⟩ := rr.one1
    rw [show v = _ from hv] at r
    obtain ⟨u, rfl, ru⟩ := vals1 r
    cases ru
    exact PySem.P.repr_of_bool ⟨.str _, H, I.tok _, ⟨_, rfl⟩, rdPure R q rfl⟩
  · cases e
    obtain ⟨v, rfl, hv⟩ := rr.one1
    rw [show v = _ from hv] at r
    obtain ⟨u, rfl, ru⟩ := vals1 r
    cases ru
    exact PySem.P.repr_of_none ⟨.str _, H, I.tok _, ⟨_, rfl⟩, rdPure R q rfl⟩
  · split at e
    · rename_i hb
      cases e
      obtain ⟨v, rfl, hv⟩ := rr.one1
      rw [show v = _ from hv] at r
      obtain ⟨u, rfl, ru⟩ := vals1 r
      obtain ⟨t, rfl⟩ := ru
      exact PySem.P.repr_of_int (Nat.le_of_ble_eq_true hb) ⟨.str _, H, I.tok _, ⟨_, rfl⟩, rdPure R q rfl⟩
    · cases e
  · cases e
end
end Sw

/-! Eng12n: dict(list of pairs). -/
namespace Sw
open PySem PySem.Spec PyProof.Rows L2
/-- the pairs of a list, their keys whole numbers or texts -/
def pairsOf : List D → Option (List (Key × D))
  | [] => some []
  | .tup [k, v] :: r => match keyOf k with
    | some q => match pairsOf r with
      | some ps => some ((q, v) :: ps)
      | none => none
    | none => none
  | _ :: _ => none
def putPairs (kvs : List (D × D)) : List (Key × D) → List (D × D)
  | [] => kvs
  | (q, v) :: r => putPairs (dPut keyOf kvs q (kD q) v) r
def dictN : List D → Sto → Res D
  | [.ref n], S => match S.list? n with
    | some xs => match pairsOf xs with
      | some ps => .ok (.ref S.len) (S.add (.dct (putPairs [] ps)))
      | none => .bad
    | none => .bad
  | _, _ => .bad
section
variable {m : Nat → Addr} {k : Nat} {H : Hp}
/-- how pairs stand -/
inductive PrV (m : Nat → Addr) (k : Nat) (H : Hp) : List (Key × D) → List V → List (Key × V) → Prop where
  | nil : PrV m k H [] [] []
  | cons {q : Key} {d : D} {v : V} {t : Addr} {ps : List (Key × D)} {vs : List V} {l : List (Key × V)} (ht : H t = some (.tup [kV q, v])) (hd : RD m k H d v) (r : PrV m k H ps vs l) : PrV m k H ((q, d) :: ps) (.ref t :: vs) ((q, v) :: l)
theorem kD_rd {q : Key} {v : V} (h : RD m k H (kD q) v) : v = kV q := by cases q <;> exact h
theorem prV_of : ∀ {xs : List D} {vs : List V} {ps : List (Key × D)}, RDs m k H xs vs → pairsOf xs = some ps → ∃ l, PrV m k H ps vs l
  | [], vs, ps, h, e => by cases e; rw [show vs = [] from h]; exact ⟨[], .nil⟩
  | x :: xs, vs, ps, h, e => by
    obtain ⟨v, r, rfl, h2, h3⟩ := h
    unfold pairsOf at e
    split at e
    · rename_i e0; cases e0
    · rename_i k' v' r' e0
      cases e0
      split at e
      · rename_i q hq
        split at e
        · rename_i ps' hp
          cases e
          obtain ⟨t, ws, rfl, ht, w1, r1, rfl, hk, w2, r2, rfl, hv, hr⟩ := h2
          have hr : r2 = [] := hr
          subst hr
          rw [keyOf_ok hq] at hk
          rw [kD_rd hk] at ht
          obtain ⟨l, hl⟩ := prV_of h3 hp
          exact ⟨_, .cons ht hv hl⟩
        · cases e
      · cases e
    · cases e
theorem putPairs_ok : ∀ {ps : List (Key × D)} {vs : List V} {l : List (Key × V)} {kvs : List (D × D)} {zs : List (Key × V)}, PrV m k H ps vs l → RKv m k H kD kvs zs → RKv m k H kD (putPairs kvs ps) (mergeK zs l)
  | _, _, _, kvs, zs, .nil, h => h
  | _, _, _, kvs, zs, .cons (q := q) (v := v) (l := l) ht hd r, h => by
    have := putPairs_ok r (dPut_ok (q := q) keyOf_kD h hd)
    exact this
theorem mergeK_length : ∀ (l zs : List (Key × V)), (mergeK zs l).length ≤ zs.length + l.length
  | [], zs => Nat.le_refl _
  | (q, v) :: l, zs => by
    have h1 := mergeK_length l (putK zs q v)
    have h2 := length_putK zs q v
    show (mergeK (putK zs q v) l).length ≤ _
    simp only [List.length_cons]
    omega
theorem KV.merge : ∀ {l : List (Key × V)} {ws : List (Key × Value)} {zs : List (Key × V)} {us : List (Key × Value)}, KV l ws → KV zs us → KV (mergeK zs l) (merged us ws)
  | _, _, _, _, .nil, h => h
  | _, _, _, _, .cons (a := a) (b := b) hab r, h => by
    have h2 := KV.put h a.1 hab.2
    have h3 := KV.merge r h2
    rw [hab.1] at h3
    show KV (mergeK (putK _ a.1 a.2) _) (merged (stored _ b.1 b.2) _)
    rw [hab.1]
    exact h3
end
section
variable {X : Cx}
/-- the items in the heap -/
theorem prV_heap {pins : List (Addr × Obj)} {σ : L2.St} {m : Nat → Addr} {k : Nat} {H : Hp} {s : Shared} (I : Inv X pins σ H s) : ∀ {ps : List (Key × D)} {vs : List V} {l : List (Key × V)} {its : List Value}, PrV m k H ps vs l → Vals vs its →
    ∃ (ts : List Addr) (prs : List (Value × Value)) (kws : List (Key × Value)), its = ts.map Value.ref ∧ ts.length = prs.length ∧ (∀ (j : Nat) (k v : Value), prs[j]? = some (k, v) → PairAt s.heap (ts.getD j 0) k v) ∧ KV l kws ∧ kws.length = prs.length ∧ (∀ (j : Nat) (k v : Value), prs[j]? = some (k, v) → ∃ q, kws[j]? = some (q, v) ∧ (mixKind X.prog X.w).is q k = true)
  | _, _, _, its, .nil, r => by
    cases r
    exact ⟨[], [], [], rfl, rfl, fun j k v e => by simp at e, .nil, rfl, fun j k v e => by simp at e⟩
  | _, _, _, _, .cons (q := q) (v := v) (t := t) ht hd hr, .cons rt r => by
    obtain ⟨ts, prs, kws, h1, h2, h3, h4, h5, h6⟩ := prV_heap I hr r
    obtain ⟨_, its2, rr, tp⟩ := I.hok _ _ ht
    cases rr with
    | cons rk rr =>
      cases rr with
      | cons rv rr =>
        cases rr
        rename_i kw vw
        refine ⟨t :: ts, (kw, vw) :: prs, (q, vw) :: kws, ?_, by simp [h2], fun j k' v' e => ?_, .cons ⟨rfl, rv⟩ h4, by simp [h5], fun j k' v' e => ?_⟩
        · rw [h1, show _ = Value.ref t from rt]; rfl
        · cases j with
          | zero =>
            simp only [List.getElem?_cons_zero, Option.some.injEq, Prod.mk.injEq] at e
            obtain ⟨rfl, rfl⟩ := e
            obtain ⟨o, o1, o2, o3⟩ := tp
            exact .inl ⟨o, o1, o2, o3⟩
          | succ j => exact h3 j k' v' (by simpa using e)
        · cases j with
          | zero =>
            simp only [List.getElem?_cons_zero, Option.some.injEq, Prod.mk.injEq] at e
            obtain ⟨rfl, rfl⟩ := e
            refine ⟨q, rfl, ?_⟩
            cases q with
            | inl i => obtain ⟨tk, rfl⟩ := rk; exact mixKind_int _ _ _ _
            | inr i => obtain ⟨tk, rfl⟩ := rk; exact mixKind_str _ _ _ _
          | succ j => exact h6 j k' v' (by simpa using e)
theorem prV_len {m : Nat → Addr} {k : Nat} {H : Hp} : ∀ {ps : List (Key × D)} {vs : List V} {l : List (Key × V)}, PrV m k H ps vs l → l.length = vs.length
  | _, _, _, .nil => rfl
  | _, _, _, .cons _ _ r => by simp [prV_len r]
theorem crv_dict (hc : X.calm = true) : CallR X (.type "dict") (rdN dictN) := by
  intro pins s σ H xs us Q I r h
  obtain ⟨m, S, ds, d, S', R, rr, e, q⟩ := h
  unfold dictN at e
  split at e
  · obtain ⟨v, rfl, hn, rfl⟩ := rr.one1
    split at e
    · rename_i ys hl
      split at e
      · rename_i ps hps
        cases e
        obtain ⟨vs, h1, h2, _⟩ := R.sqL (K := X.K) hl
        obtain ⟨its, rv, pl, hz⟩ := I.list h1
        rw [Vals.ref1 r]
        obtain ⟨l, hl2⟩ := prV_of h2 hps
        obtain ⟨ts, prs, kws, g1, g2, g3, g4, g5, g6⟩ := prV_heap I hl2 rv
        have hlen : prs.length ≤ sizeLine := by
          have := rv.length
          rw [g1, List.length_map] at this
          omega
        refine call_dict_pairs (knd := mixKind X.prog X.w) (kvs := kws) (PairArg.list _ its.toArray (fun j => ts.getD j 0) prs) (I.ok.hd hc) ⟨?_, ?_, fun j k v e => ⟨?_, g3 j k v e⟩⟩ ⟨g5, fun i key v hr => ?_⟩ hlen fun h' tk hd hk => ?_
        · exact pl
        · rw [List.size_toArray, g1, List.length_map, g2]
        · have hj : j < ts.length := by rw [g2]; exact (List.getElem?_eq_some_iff.mp e).1
          simp [g1, hj]
        · exact g6 i key v hr
        · have kpt : ∀ b o, s.heap.get? b = some o → h'.get? b = some o := fun b o z => hk b o (by simp) z
          have hp := I.hok.fresh (a := s.heap.objs.size) (Nat.le_refl _)
          have hl3 : (mergeK [] l).length ≤ sizeLine := by
            have h4 := mergeK_length l []
            have h5 := prV_len hl2
            simp only [List.length_nil] at h4
            omega
          have ns : (s.heap.objs.size == sysModules) = false := beq_eq_false_iff_ne.mpr (Nat.ne_of_gt I.big)
          refine ⟨.ref _, upd H s.heap.objs.size (.dK (mergeK [] l)), I.laid (t' := tk) kpt (Nat.le_refl _) ⟨hl3, ns, _, KV.merge g4 .nil, hd⟩, rfl, ?_⟩
          exact q (withAt m S.len s.heap.objs.size) _ _ (Ext.add R hp ⟨_, upd_same, RKv.mono' (Nat.le_refl _) (fun _ _ => rfl) (Keep.new hp) _ _ (putPairs_ok (kvs := []) (zs := []) hl2 rfl)⟩) ⟨by rw [Sto.add_len]; exact Nat.lt_succ_self _, by rw [withAt_same]⟩
      · cases e
    · cases e
  · cases e
end
end Sw

/-! Eng12o: l.count(x). -/
namespace Sw
open PySem PySem.Spec PyProof.Rows L2
def cntM (n : Nat) : List D → Sto → Res D
  | [x], S => match S.list? n with
    | some xs => match resPairs S xs with
      | some ps => match res S x with
        | some p => match Nat.ble p.depth 60 with
          | true => .ok (.int ((ps.countP fun b => PyData.eqv b.1 p : Nat) : Int)) S
          | false => .bad
        | none => .bad
      | none => .bad
    | none => .bad
  | _, _ => .bad
section
variable {X : Cx}
theorem resPairs_all {pins : List (Addr × Obj)} {s : Shared} {σ : L2.St} {m : Nat → Addr} {S : Sto} {H : Hp} (I : Inv X pins σ H s) (R : Rel m S H) : ∀ {xs : List D} {vs : List V} {us : List Value} {ps : List (PyData × D)}, RDs m S.len H xs vs → Vals vs us → resPairs S xs = some ps →
    ∃ as, ReadsAll s.heap us (ps.map (·.1)) as ∧ PyData.plainAll (ps.map (·.1)) = true
  | [], vs, us, ps, r, z, e => by
    cases (show vs = [] from r)
    cases z
    cases e
    exact ⟨[], .nil, rfl⟩
  | d :: xs, vs, us, ps, r, z, e => by
    obtain ⟨v, vs, rfl, r1, r2⟩ := r
    cases z with
    | cons z1 z2 =>
      unfold resPairs at e
      split at e
      · rename_i p hp
        split at e
        · rename_i ps' hps
          cases e
          obtain ⟨as, h1, h2⟩ := resPairs_all I R r2 z2 hps
          obtain ⟨d1, p1⟩ := res_dp R r1 hp
          obtain ⟨bs, r3⟩ := Dp.reads I p v _ d1 z1
          refine ⟨_, .cons r3 h1, ?_⟩
          simp only [List.map_cons, PyData.plainAll, p1, h2, Bool.and_self]
        · cases e
      · cases e
theorem mtv_count (hu : X.A.units + 64 < cLine) : MtR X "list.count" (rdM cntM) := by
  intro pins s σ H x xs v us Q I rx rv h
  obtain ⟨m, S, n, ds, d, S', R, r, rs, e, q⟩ := h
  unfold cntM at e
  split at e
  · rename_i d0
    obtain ⟨w, rfl, hw⟩ := rs.one1
    split at e
    · rename_i ys hl
      split at e
      · rename_i ps hps
        split at e
        · rename_i p hp
          split at e
          · rename_i hdp
            cases e
            obtain ⟨vs, h1, h2, _⟩ := R.sqL (K := X.K) hl
            obtain ⟨its, rv', pl, hz⟩ := I.list h1
            rw [r.2] at rx
            cases rx
            obtain ⟨u, rfl, ru⟩ := rv.one
            obtain ⟨as, ra, pa⟩ := resPairs_all I R h2 rv' hps
            obtain ⟨d1, p1⟩ := res_dp R hw hp
            obtain ⟨bs, rb⟩ := Dp.reads I p w _ d1 ru
            have hd := Nat.le_of_ble_eq_true hdp
            refine PySem.SeqAt.count_list_data pl.isList ra rb pa p1 (by omega) ?_
            rw [List.countP_map]
            exact ⟨.int _, H, I.tok _, ⟨_, rfl⟩, rdPure R q rfl⟩
          · cases e
        · cases e
      · cases e
    · cases e
  · cases e
end
end Sw

/-! Eng12p: tuple(enumerate(t)), t a tuple. -/
namespace Sw
open PySem PySem.Spec PyProof.Rows L2
section
variable {X : Cx} {pins : List (Addr × Obj)} {σ : L2.St} {H : Hp} {s : Shared} {a en it : Addr} {xs : List V}
theorem te_collect {A : Around} {Q : List Value → Shared → Prop} (hh : A.handled = none) (I : Inv X pins σ H s) (ha : H a = some (.tup xs)) (he : IsEnum s.heap en it 0 .none) (hit : s.heap.IsTupleIter it a 0) (nei : en ≠ it) (nai : a ≠ it) (nea : en ≠ a) (fp : ∀ b ∈ [en, it], FpOk X pins H b)
    (hQ : ∀ H' s' acc is, LEnd X pins σ H s.heap.objs.size xs H' s' → H' s.heap.objs.size = some (.lst acc) → Vals acc is → is.length ≤ sizeLine → Q is s') : wpAny (model X.prog X.w) A (collect (.ref en)) Q X.xe s := by
  have hz : xs.length ≤ sizeLine := by obtain ⟨_, _, _, z⟩ := I.tuple (.of ha); exact z
  have fresh : H s.heap.objs.size = none := I.hok.fresh (Nat.le_refl _)
  have hen : en < s.heap.objs.size := Heap.lt_size he
  have hil : it < s.heap.objs.size := by obtain ⟨_, z, _⟩ := hit; exact Heap.lt_size z
  unfold collect
  refine wpAny_bind (wpAny_runValue (codeAny_builtin PySem.F.entry_proto_collect ?_))
  rw [Around.under_plainId PySem.F.plain_proto_collect _]
  show wpAny _ A.in1 (newList [] >>= fun l => again (.builtin "list.__iadd__" ⟨[l, .ref en], []⟩)) _ _ s
  refine wpAny_bind (wpAny_newObj_type ?_)
  refine wpAny_pure ⟨plainId_quiet PySem.F.plain_list_iadd _, codeAny_builtin PySem.F.entry_list_iadd ?_⟩
  rw [Around.under_plainId PySem.F.plain_list_iadd _]
  show wpAny _ A.in1 (Builtin.List.listExtendWith (.ref s.heap.objs.size) (.ref en) (.ref s.heap.objs.size)) _ _ _
  generalize hq : s.heap.objs.size = q at *
  have nqe : q ≠ en := Nat.ne_of_gt hen
  have nqi : q ≠ it := Nat.ne_of_gt hil
  have o2 : (s.heap.push { cls := .type "list", data := .seq #[] }).get? q = some { cls := .type "list", data := .seq #[] } := by rw [← hq]; exact Heap.get?_push_size _ rfl
  have I2 : Inv X pins σ (upd H q (.lst [])) { s with heap := s.heap.push { cls := .type "list", data := .seq #[] } } := by rw [← hq]; exact I.lnew (its := []) (t' := s.toks) .nil (Nat.zero_le _)
  have k2 : ∀ b o, s.heap.get? b = some o → (s.heap.push { cls := .type "list", data := .seq #[] }).get? b = some o := fun b o e => Heap.get?_push_of_some _ e
  show wpAny _ A.in1 _ _ _ { s with heap := s.heap.push { cls := .type "list", data := .seq #[] } }
  generalize hh2 : s.heap.push { cls := .type "list", data := .seq #[] } = h2 at I2 o2 k2 ⊢
  have ty : ({ s with heap := h2 } : Shared).TypeIs (.ref en) "enumerate" := ⟨_, k2 _ _ he, rfl⟩
  unfold Builtin.List.listExtendWith
  refine wpAny_bind (wpAny_typeOf ty ?_)
  have n1 : Builtin.List.listSameRef (.ref q) (.ref en) = false := by simp [Builtin.List.listSameRef, nqe]
  have n2 : (Value.type "enumerate" == Value.type "list") = false := by decide
  have n3 : (Value.type "enumerate" == Value.type "tuple") = false := by decide
  simp only [n1, n2, n3, Bool.or_false, Bool.false_eq_true, if_false]
  refine wpAny_bind (wpAny_pyIter_enum (s := { s with heap := h2 }) (k2 _ _ he) ?_)
  refine wpAny_bind (wpAny_holding ?_)
  unfold Builtin.List.listLengthHint
  refine wpAny_bind (wpAny_specialOf ty Sw_no_len ?_)
  show wpAny _ _ (specialOf (Value.ref en) (Str.ofString "__length_hint__") >>= _) _ _ _
  refine wpAny_bind (wpAny_specialOf ty Sw_no_hint ?_)
  refine wpAny_pure ?_
  show wpAny _ _ (rule "list.extend.makes-room" >>= fun _ => Builtin.List.listTouch (.ref q) >>= fun _ => again (.builtin "list.extend.loop" ⟨[.ref q, .ref en, .ref q], []⟩)) _ _ _
  refine wpAny_bind (wpAny_rule ?_)
  refine wpAny_bind ?_
  show wpAny _ _ (updateSeq q (·.push .none) >>= fun _ => updateSeq q (·.pop)) _ _ _
  refine wpAny_bind (wpAny_updateSeq o2 rfl ?_)
  have o3 := Heap.get?_update_self (Obj.mapSeq (·.push Value.none)) o2 rfl
  have I3 := I2.lset (f := (·.push Value.none)) (its := []) (its' := [Value.none]) (ys := [.non]) (t' := s.toks) upd_same o2 (by simp) (.cons (show RelV .non .none from rfl) .nil) (by rw [List.length_singleton, sizeLine_eq]; decide)
  refine wpAny_updateSeq (hz := by seq_fits) o3 rfl ?_
  have I4 := I3.lset (f := (·.pop)) (its := [Value.none]) (its' := []) (ys := []) (t' := s.toks) upd_same o3 (by rfl) .nil (Nat.zero_le _)
  rw [upd_upd, upd_upd] at I4
  have k4 : ∀ b o, s.heap.get? b = some o → ((h2.update q (Obj.mapSeq (·.push Value.none))).update q (Obj.mapSeq (·.pop))).get? b = some o := fun b o e => by
    have nb : q ≠ b := by rw [← hq]; exact Ne.symm (Nat.ne_of_lt (Heap.lt_size e))
    exact (Heap.get?_update_other _ _ nb).trans ((Heap.get?_update_other _ _ nb).trans (k2 b o e))
  refine wpAny_pure ⟨plainId_quiet PySem.F.plain_extend_loop _, ?_⟩
  refine le_loop (X := X) (pins := pins) (σ := σ) (H0 := H) (xs := xs) (a := a) (q := q) (en := en) (it := it) (A1 := A) (rz := .ref q) hh hz ha fresh nei nai nea nqe nqi (fun H' s' L => ?_) (fun e s' z => z) xs.length 0 (upd H q (.lst [])) _ (Nat.zero_add _) ⟨I4, fun b o z => ?_, ⟨[], upd_same, rfl, fun i x z => by simp at z⟩, fun b hb => ⟨?_, (fp b hb).2⟩, hit.at fun o z => k4 it o z, .inl ⟨_, k4 _ _ he⟩⟩
  · have L' := L
    obtain ⟨I5, _, acc, h1, _⟩ := L'
    obtain ⟨zz, is, kk, r2, hl, eo⟩ := I5.lstM h1
    show wpAny _ A (load q >>= _) _ _ _
    exact wpAny_bind (wpAny_load eo (wpAny_pure (hQ H' s' acc is L h1 r2 (by rw [← hl]; exact zz))))
  · rw [upd_ne]
    · exact z
    · intro w; rw [w, fresh] at z; cases z
  · have nb : b ≠ q := by
      have e' : b = en ∨ b = it := by simpa using hb
      rcases e' with z | z
      · rw [z]; exact Ne.symm nqe
      · rw [z]; exact Ne.symm nqi
    rw [upd_ne nb]
    exact (fp b hb).1
theorem te_new {A : Around} {Q₁ : Value → Shared → Prop} (hh : A.handled = none) (I : Inv X pins σ H s) (ha : H a = some (.tup xs)) (he : IsEnum s.heap en it 0 .none) (hit : s.heap.IsTupleIter it a 0) (nei : en ≠ it) (nai : a ≠ it) (nea : en ≠ a) (fp : ∀ b ∈ [en, it], FpOk X pins H b)
    (h : ∀ H' s' acc is, LEnd X pins σ H s.heap.objs.size xs H' s' → H' s.heap.objs.size = some (.lst acc) → Vals acc is → is.length ≤ sizeLine → Q₁ (.ref s'.heap.objs.size) { s' with heap := s'.heap.push { cls := .type "tuple", data := .seq is.toArray } }) :
    codeAny (model X.prog X.w) A (.call (.builtin "tuple.__new__") ⟨[.type "tuple", .ref en], []⟩) (wants Q₁ X.xe) s := by
  refine codeAny_of_tree ?_
  show wpAny _ A.in1 (do checkBuiltinCall "tuple.__new__" ⟨[.type "tuple", .ref en], []⟩; again (.builtin "tuple.__new__" ⟨[.type "tuple", .ref en], []⟩)) _ _ s
  refine wpAny_bind (wpAny_of_eq (PySem.F.newCall_tuple_1 _) (wpAny_pure ⟨plainId_quiet PySem.F.plain_tuple_new _, codeAny_builtin PySem.F.entry_tuple_new ?_⟩))
  rw [Around.under_plainId PySem.F.plain_tuple_new _]
  have hsub := sub_tuple_self
  have hinit := init_tuple_lookup
  have hmh := madeHere_tuple
  have hTI : s.TypeIs (.ref en) "enumerate" := ⟨_, he, rfl⟩
  have hh1 : A.in1.handled = none := hh
  wp_walk using wpAny_typeOf hTI, te_collect (A := A.in1) hh1 I ha he hit nei nai nea fp
  intro H' s' acc is L h1 r2 hz
  show wpAny _ _ (Builtin.Tuple.tupleExact is.toArray >>= fun v => PySem.ret v) _ _ _
  unfold Builtin.Tuple.tupleExact
  refine wpAny_bind (wpAny_newObj_type ?_ (by show is.toArray.size ≤ sizeLine; rw [List.size_toArray]; exact hz))
  exact wpAny_pure (h H' s' acc is L h1 r2 hz)
theorem te_call {Q : Value → Shared → Prop} (hh : X.A.handled = none) (I : Inv X pins σ H s) (ha : H a = some (.tup xs)) (he : IsEnum s.heap en it 0 .none) (hit : s.heap.IsTupleIter it a 0) (nei : en ≠ it) (nai : a ≠ it) (nea : en ≠ a) (fp : ∀ b ∈ [en, it], FpOk X pins H b)
    (hQ : ∀ H' s' acc is, LEnd X pins σ H s.heap.objs.size xs H' s' → H' s.heap.objs.size = some (.lst acc) → Vals acc is → is.length ≤ sizeLine → Q (.ref s'.heap.objs.size) { s' with heap := s'.heap.push { cls := .type "tuple", data := .seq is.toArray } }) :
    wpAny (model X.prog X.w) X.A (call (.type "tuple") [.ref en]) Q X.xe s := by
  refine callType_codes (Q₁ := fun obj s₁ => s₁.TypeIs obj "tuple" ∧ Q obj s₁) PySem.F.called_tuple (PySem.F.typeCall_tuple_1 _) PySem.F.entry_object_init
    (te_new (A := X.A.in1) hh I ha he hit nei nai nea fp fun H' s' acc is L h1 r2 hz => ⟨⟨_, Heap.get?_push_size _ rfl, rfl⟩, hQ H' s' acc is L h1 r2 hz⟩) fun obj s₁ h₁ => ?_
  exact ⟨h₁.1, PySem.F.args_object_init_2 obj _, object_init_meets PySem.F.called_tuple.init.lookup PySem.F.called_tuple.made (by decide) X.prog X.w X.A.in1 _ s₁ ⟨h₁.1, rfl, h₁.2⟩⟩
def tenumN : List D → Sto → Res D
  | [.tup ys], S => match fits ys.length with
    | true => .ok (.tup (enumPairs 0 ys)) S
    | false => .bad
  | _, _ => .bad
variable {e : Expr} {p p1 pos pos1 : Pos} {g : EvA}
theorem pev_tenum (hc : X.calm = true) (hg : Gl X "tuple") (hm : X.mg "tuple" = none) (hg1 : Gl X "enumerate") (hm1 : X.mg "enumerate" = none) (h1 : PA X [e] (rdA g)) (hs : starEach [e] X.env = [(false, eval e X.env)]) :
    PE X (.Call (.Name "tuple" p) [.Call (.Name "enumerate" p1) [e] [] pos1] [] pos) (rdE (evN tenumN g)) := by
  refine ⟨fun pins s σ H Q I h => ?_⟩
  refine Call_ (ld_blt I hg hm PyProof.Rows.boot_tuple (PyProof.Rows.callWith_type1 ?_ rfl rfl))
  show wpAny _ _ (spliced ((false, eval (.Call (.Name "enumerate" p1) [e] [] pos1) X.env) :: backTo pos (starEach [] X.env))) _ _ s
  refine Calls.spliced_cons ?_
  obtain ⟨m, S, ρ, d, S', R, E, e1, q⟩ := rdN_seq h
  refine Call_ (ld_blt I hg1 hm1 boot_enumerate (PyProof.Rows.callWith_type1 (thn (h1.run pos1 pins s σ H _ I ⟨m, S, ρ, d, S', R, E, e1, q⟩) fun us s1 ⟨vs, H1, I1, r1, q1⟩ => ?_) hs rfl))
  obtain ⟨m1, S1, ds, d1, S2, R1, rr, e2, q2⟩ := q1
  unfold tenumN at e2
  split at e2
  · rename_i ys
    obtain ⟨v, rfl, a, xs, rfl, ha, qs⟩ := rr.one1
    split at e2
    · rename_i hf
      cases e2
      rw [Vals.ref1 r1]
      obtain ⟨its, rv, p', hz⟩ := I1.tuple (.of ha)
      have hal : a < s1.heap.objs.size := I1.hok.lt ha
      refine Sw_enumerate_tuple (show s1.heap.IsTuple a its.toArray from p') fun h' he hit hsz hk => Calls.spliced_nil ?_
      have I2 : Inv X pins σ H1 { s1 with heap := h' } := I1.kept (t' := s1.toks) hk
      refine te_call (I1.ok.hd hc) I2 ha he hit (Nat.succ_ne_self _) (Nat.ne_of_lt hal) (fun z => absurd hal (by rw [← z]; exact Nat.not_lt_of_le (Nat.le_succ _))) (fun b hb => ?_) fun H' s' acc is L hq r2 hzz => ?_
      · have hle : s1.heap.objs.size ≤ b := by
          have e' : b = s1.heap.objs.size + 1 ∨ b = s1.heap.objs.size := by simpa using hb
          rcases e' with z | z
          · rw [z]; exact Nat.le_add_right _ _
          · rw [z]; exact Nat.le_refl _
        exact I1.fpOk hle (I1.hok.fresh hle)
      · obtain ⟨I3, fr, acc', hq', hl, hall⟩ := L
        rw [hq] at hq'
        cases hq'
        have fn : H' s'.heap.objs.size = none := I3.hok.fresh (Nat.le_refl _)
        have I4 : Inv X pins σ (upd H' s'.heap.objs.size (.tup acc)) { s' with heap := s'.heap.push { cls := .type "tuple", data := .seq is.toArray } } :=
          I3.laid (t' := s'.toks) (fun b o z => Heap.get?_push_of_some _ z) (Nat.le_refl _) (show ObjOk X.prog X.w _ _ _ (.tup acc) from ⟨by rw [r2.length]; exact hzz, is, r2, IsTup.new _ _⟩)
        have fr2 : ∀ b o, H1 b = some o → upd H' s'.heap.objs.size (.tup acc) b = some o := fun b o z => by
          have z1 := fr b o z
          rw [upd_ne (fun w => by rw [w, fn] at z1; cases z1)]
          exact z1
        refine ⟨.ref s'.heap.objs.size, _, I4, rfl, q2 m1 _ _ (Ext.more R1 fr2) ⟨_, acc, rfl, upd_same, ?_⟩⟩
        refine enumPairs_rd (RDs.mono' (Nat.le_refl _) (fun _ _ => rfl) (Keep.same fr2) _ _ qs) hl fun i x hi => ?_
        obtain ⟨T, y, f1, f2, f3⟩ := hall i x hi
        refine ⟨T, y, f1, ?_, f3⟩
        rw [upd_ne (fun w => by rw [w, fn] at f2; cases f2), f2, Nat.zero_add]
    · cases e2
  · cases e2
end
end Sw

/-! Eng12q: len({..}) of a comprehension whose items are tuples of whole numbers. -/
namespace Sw
open PySem PySem.Spec PyProof.Rows L2
/-- what {elt for target in iter if ..} asks, elt a tuple of whole numbers; B the new set -/
def tSt (P : Program) (w : World) (K : Frg) (wi : TI) (g : TG) (tt : TT) (te : TE) (vs : List Nat) : TE := fun σ H Q => wi σ H fun J Ha => ∀ B, Ha B = none → ∃ W : Nat → Nat → Hp → Prop, (∃ m, W 0 m (upd Ha B (SetTO P w B []))) ∧ ∀ i m H, W i m H →
  (J.stop i H ∧ Q (.ref B) H) ∨ (J.go i H ∧ ∃ Nx : Hp → Prop, (∀ H', Nx H' → ∃ m', m' < m ∧ W (i + 1) m' H') ∧ ∀ x H', J.yld i H x H' → g x (wipe σ vs) H' fun τ Hb => wipe τ vs = wipe σ vs ∧ tt τ Hb fun b Hc =>
    if b = true then te τ Hc fun y Hd => ∃ (a : Addr) (k : List Int) (L : List (Addr × List Int)), y = .ref a ∧ SqT K Hd a (k.map V.int) ∧ Hd B = some (SetTO P w B L) ∧ (∀ p ∈ L, SqT K Hd p.1 (p.2.map V.int)) ∧ L.length + 1 < 64 ∧
      ∀ L', (k ∈ L.map (·.2) → L' = L) → (k ∉ L.map (·.2) → L'.Perm ((a, k) :: L)) → Nx (upd Hd B (SetTO P w B L')) else Nx Hc)
section
variable {X : Cx}
theorem set_add_runT {pins : List (Addr × Obj)} {σ : L2.St} {H : Hp} {s : Shared} {E : Value → Shared → Prop} {B x : Addr} {L : List (Addr × List Int)} {k : List Int} {Q : Value → Shared → Prop} (hu : X.A.units + 64 < cLine) (I : Inv X pins σ H s) (hB : H B = some (SetTO X.prog X.w B L)) (hx : SqT X.K H x (k.map V.int)) (ht : ∀ p ∈ L, SqT X.K H p.1 (p.2.map V.int)) (room : L.length + 1 < 64)
    (h : ∀ L' s', (k ∈ L.map (·.2) → L' = L) → (k ∉ L.map (·.2) → L'.Perm ((x, k) :: L)) → Inv X pins σ (upd H B (SetTO X.prog X.w B L')) s' → Q .none s') : wpAny (model X.prog X.w) X.A (call (.builtin "set.add") [.ref B, .ref x]) Q E s := by
  have R0 : SetT0 X.prog X.w s.heap B L := (I.hok B _ hB).1
  obtain ⟨es, ep, t, R⟩ := R0.full fun q hq => I.isT (ht q hq)
  have kx := I.isT hx
  obtain ⟨o, ho, hex, hd⟩ := id R.ob
  have hT : s.TypeIs (.ref B) "set" := ⟨o, ho, hex.1⟩
  refine wpAny_call_entry F.slot_set_add hT F.entry_set_add ?_ (F.args_set_add_2 _ _)
  unfold Builtin.«set.add» Builtin.Frozenset.oneOther; simp only [List.isEmpty_nil, bind_assoc]; unfold Builtin.Frozenset.addrOf setAdd
  refine wpAny_bind (wpAny_pure ?_); try dsimp only
  refine wpAny_bind (wpAny_pure ?_); try dsimp only
  refine wpAny_bind ?_; refine wpAny_holding ?_
  refine wpAny_bind (wpAny_pyHash_tuple (by first | exact Nat.lt_of_le_of_lt (Nat.le_add_right _ _) hu | (have := hu; simp [Around.in1] at *; omega)) kx ?_)
  have k2 : L2.IsT X.prog X.w ({ s with toks := s.toks + (k.length + 1) } : Shared).heap k x := kx
  refine add_at (s := { s with toks := s.toks + (k.length + 1) }) R k2 (by have := hu; simp [Around.in1] at *; omega) room fun b h' L' es' ep' t' sb R' c1 c2 => ?_
  refine wpAny_pure ⟨_, rfl, h L' _ c1 c2 (I.write (e := B) (t' := s.toks + (k.length + 1)) (by rw [hB]; trivial) (.inl rfl) (fun b u hb hu => (sb.2 b hb).trans hu) ?_ (setTO_new R'.t0))⟩
  obtain ⟨o', ho', _⟩ := R'.ob
  exact ⟨o', ho'⟩
theorem st_run {pins : List (Addr × Obj)} {s : Shared} {σ : L2.St} {H : Hp} {Q : VK} {elt tg iter : Expr} {ifs : List Expr} {scope : Scope} {own : List (Str × Nat)} {pos pos' : Pos} {wi : TI} {g : TG} {tt : TT} {te : TE} {Qf : Value → Shared → Prop} (hu : X.A.units + 64 < cLine)
    (calm : X.calm = true) (nd : X.N.Nodup) (I : Inv X pins σ H s) (hi : PI X tg iter wi) (bk : BlkOk X.N X.env.scope scope own)
    (hg : ∀ (s : Shared) (H : Hp) (C : Addr) (cl : List (Str × Addr)) (fp : List Addr), PG (X.blk s H scope (compEnvC scope cl C X.env) fp) tg g) (ht : ∀ (s : Shared) (H : Hp) (C : Addr) (cl : List (Str × Addr)) (fp : List Addr), PTs (X.blk s H scope (compEnvC scope cl C X.env) fp) ifs tt)
    (he : ∀ (s : Shared) (H : Hp) (C : Addr) (cl : List (Str × Addr)) (fp : List Addr), PE (X.blk s H scope (compEnvC scope cl C X.env) fp) elt te) (hs : ∀ x, foldedSetIterable iter X.env x = pure x)
    (h : tSt X.prog X.w X.K wi g tt te (own.map (·.2)) σ H Q)
    (fin : ∀ B C s' m H', Inv X pins σ H' s' → Q (.ref B) H' → s'.heap.Ns C m → FpOk X pins H' C → compPost (model X.prog X.w) X.A X.xe none Qf (.ref B) C (.ok .next) s') :
    wpAny (model X.prog X.w) X.A (comprehension (.SetComp elt [⟨tg, iter, ifs, 0⟩] scope pos) scope X.env pos' (newSet (.type "set")) false (eval iter X.env) none) Qf X.xe s := by
  have fr : ∀ y ∈ scope.names, y.2 = .free → ∃ c, X.env.cells.lookup y.1 = some c := fun y hy e => (bk.free y hy e).elim (fun k => I.ok.has _ (.inl k)) fun k => I.ok.has _ (.inr k)
  refine wpAny_comprehension_free (use := none) rfl hs (closure_ok fr) bk.kind (fun y hy e => by rw [bk.uniq y hy, e]) (thn (hi.run pins s σ H _ I h) fun xv sa hx => thn hx fun itv sb hb => ?_)
  obtain ⟨it, fp, tn, J, Ha, e, Ia, T, sta, fa, q⟩ := hb
  subst e
  refine PpSet.newSet_ok (newEnv_comp ?_)
  generalize hBe : sb.heap.objs.size = B
  have hBn : Ha B = none := Ia.hok.fresh (Nat.le_of_eq hBe)
  obtain ⟨W, ⟨m0, w0⟩, turn⟩ := q B hBn
  generalize hsc : ({ sb with heap := sb.heap.push { cls := .type "set", dict := none, data := .set #[] 0 (.fresh 0 0 (!X.w.params.followText "set-order")) } } : Shared) = sc
  have hc : sc.heap = sb.heap.push { cls := .type "set", dict := none, data := .set #[] 0 (.fresh 0 0 (!X.w.params.followText "set-order")) } := by rw [← hsc]
  have Ic : Inv X pins σ (upd Ha B (SetTO X.prog X.w B [])) sc := by
    rw [← hsc]
    refine Ia.laid (t' := sb.toks) (fun b o e => Heap.get?_push_of_some _ e) (Nat.le_of_eq hBe) ?_
    rw [← hBe]
    exact setTO_new (setTR_fresh (Heap.get?_push_size _ rfl)).t0
  have small : ∀ b ∈ fp, b < sb.heap.objs.size := fun b hb => by
    obtain ⟨o, e, _⟩ := T.obj _ _ sta b hb
    exact Heap.lt_size e
  have fc : ∀ b ∈ fp, FpOk X pins (upd Ha B (SetTO X.prog X.w B [])) b ∧ b < sc.heap.objs.size := fun b hb => by
    have lt := small b hb
    refine ⟨⟨?_, (fa b hb).2⟩, by rw [hc, Heap.size_push]; exact Nat.lt_succ_of_lt lt⟩
    rw [upd_ne (by rw [← hBe]; exact Nat.ne_of_lt lt)]
    exact (fa b hb).1
  have stc : tn 0 sc.heap := T.keep _ _ _ sta fun b _ o e => by rw [hc]; exact Heap.get?_push_of_some _ e
  have Id := block_start Ic bk nd fc
  have pg := hg sc (upd Ha B (SetTO X.prog X.w B [])) sc.heap.objs.size (cellsFrom (sc.heap.objs.size + 1) scope.names (cloFrom X.env.cells scope.names [])) fp
  have pt := ht sc (upd Ha B (SetTO X.prog X.w B [])) sc.heap.objs.size (cellsFrom (sc.heap.objs.size + 1) scope.names (cloFrom X.env.cells scope.names [])) fp
  have pe := he sc (upd Ha B (SetTO X.prog X.w B [])) sc.heap.objs.size (cellsFrom (sc.heap.objs.size + 1) scope.names (cloFrom X.env.cells scope.names [])) fp
  show codeAny _ _ (.compStart (.SetComp elt [⟨tg, iter, ifs, 0⟩] scope pos) 0 (.ref it) (.ref B) (compEnvC scope (cellsFrom (sc.heap.objs.size + 1) scope.names (cloFrom X.env.cells scope.names [])) sc.heap.objs.size X.env)) (compPost (model X.prog X.w) X.A X.xe none Qf (.ref B) sc.heap.objs.size) { sc with heap := pushCells (sc.heap.push { cls := .type "dict", data := .dict #[] }) scope.names }
  have nfp : ∀ b ∈ fp, (upd Ha B (SetTO X.prog X.w B [])) b = none := fun b hb => (fc b hb).1.1
  generalize hce : compEnvC scope (cellsFrom (sc.heap.objs.size + 1) scope.names (cloFrom X.env.cells scope.names [])) sc.heap.objs.size X.env = ce at Id pg pt pe ⊢
  have locs : ce.locals = sc.heap.objs.size := by subst hce; rfl
  generalize hHc : upd Ha B (SetTO X.prog X.w B []) = Hc at Ic Id pg pt pe w0 nfp fc
  generalize hsd : ({ sc with heap := pushCells (sc.heap.push { cls := .type "dict", data := .dict #[] }) scope.names } : Shared) = sd at Id ⊢
  have std : tn 0 sd.heap := T.keep _ _ _ stc fun b _ o e => by rw [← hsd]; exact pushCells_keeps _ _ _ _ (Heap.get?_push_of_some _ e)
  have kept : ∀ {τ : L2.St} {H' : Hp} {s' : Shared}, Inv (X.blk sc Hc scope ce fp) [] τ H' s' → (∀ b ∈ fp, H' b = none) → ∀ b ∈ fp, FpOk (X.blk sc Hc scope ce fp) [] H' b := fun {τ H' s'} I' hn b hb =>
    ⟨hn b hb, (I'.ok.exf b hb).1, I'.ok.exfs b hb, .inl hb, fun x c e => (I'.ok.exf b hb).2 x c e, fun p hp => absurd (show p ∈ ([] : List (Addr × Obj)) ++ [] from hp) (by simp)⟩
  have loop : codeAny (model X.prog X.w) X.A (.compLoop (.SetComp elt [⟨tg, iter, ifs, 0⟩] scope pos) 0 (.ref it) (.ref B) ce) (compPost (model X.prog X.w) X.A X.xe none Qf (.ref B) sc.heap.objs.size) sd := by
    refine PpSet.compLoopS_any (fun n s' => ∃ i H', Inv (X.blk sc Hc scope ce fp) [] (wipe σ (own.map (·.2))) H' s' ∧ tn i s'.heap ∧ (∀ b ∈ fp, H' b = none) ∧ W i n H') ?_ m0 ⟨0, Hc, Id, std, nfp, w0⟩
    rintro n se ⟨i, He, Ie, ste, ne, we⟩
    rcases turn i n He we with ⟨stop, qq⟩ | ⟨go, Nx, hNx, step⟩
    · refine thnF (T.done (X.blk sc Hc scope ce fp) rfl rfl rfl calm i [] se _ He (fun _ _ => False) Ie (kept Ie ne) ste stop) fun r sf ⟨hr, If⟩ => ?_
      subst hr
      have Ig : Inv X pins σ He sf := Ic.call' (ch := fp) If.os If.base If.hok If.bare fun b hb => ⟨(fc b hb).1.2.2.2.1, (fc b hb).1.2.1, (fc b hb).1.2.2.2.2.1, (fc b hb).1.2.2.2.2.2⟩
      have nC : He sc.heap.objs.size = none := by
        have z : He ce.locals = none := If.free
        rwa [locs] at z
      obtain ⟨m, hn, _⟩ := If.loc
      have hn : sf.heap.Ns ce.locals m := hn
      rw [locs] at hn
      exact fin B sc.heap.objs.size sf m He Ig qq hn (Ic.fpOk (Nat.le_refl _) nC)
    · refine thnF (T.item (X.blk sc Hc scope ce fp) rfl rfl rfl calm i [] se _ He (fun _ _ => False) Ie (kept Ie ne) ste go) fun r sf ⟨u, hr, hf⟩ => ?_
      subst hr
      refine thnF hf fun _ sg ⟨x, Hg, Ig, rg, yg, stg, ng⟩ => ?_
      refine thnF (pg.run _ sg _ Hg x u _ (Ig.pinned (kept Ig ng) (T.obj _ _ stg)) rg (step x Hg yg)) fun _ sh ⟨τ, Hh, Ih, hwh, qh⟩ => ?_
      refine thnF (pt.run _ sh τ Hh _ Ih qh) fun b sj ⟨Hj, Ij, qj⟩ => ?_
      have done : ∀ {s' : Shared} {H' : Hp}, Inv (X.blk sc Hc scope ce fp) ([] ++ pinsAt fp sg.heap) τ H' s' → Nx H' → ∃ m, m < n ∧ ∃ i H', Inv (X.blk sc Hc scope ce fp) [] (wipe σ (own.map (·.2))) H' s' ∧ tn i s'.heap ∧ (∀ b ∈ fp, H' b = none) ∧ W i m H' := fun {s' H'} I' nx => by
        obtain ⟨m', hm, w'⟩ := hNx H' nx
        have held : ∀ b ∈ fp, ∀ o, sg.heap.get? b = some o → s'.heap.get? b = some o ∧ H' b = none := fun b hb o e =>
          have z := I'.pin (b, o) (List.mem_append_right _ (List.mem_append_right _ (mem_pinsAt hb e)))
          ⟨z.1, z.2.1⟩
        have hl : (wipe σ (own.map (·.2))).length = τ.length := by rw [← hwh, wipe_length]
        refine ⟨m', hm, i + 1, H', (I'.unpinned (pins := [])).weak hl (fun j v e => ?_), T.keep _ _ _ stg fun b hb o e => (held b hb o e).1, fun b hb => ?_, w'⟩
        · rw [← hwh] at e
          exact (wipe_some e).1
        · obtain ⟨o, e, _⟩ := T.obj _ _ stg b hb
          exact (held b hb o e).2
      cases b with
      | false =>
        simp only [Bool.false_eq_true, if_false] at qj ⊢
        exact done Ij qj
      | true =>
        simp only [if_true] at qj ⊢
        refine thnF (pe.run _ sj τ Hj _ Ij qj) fun z sk ⟨yv, Hk, Ik, rk, a, kk, L, ey, hxk, hBk, htk, hzk, nx⟩ => ?_
        subst ey
        have hz : z = .ref a := rk
        subst hz
        exact set_add_runT (X := X.blk sc Hc scope ce fp) hu Ik hBk hxk htk hzk fun L' sl c1 c2 Il => done Il (nx L' c1 c2)
  exact PpSet.codeAny_compStart_set loop (T.self X.A 0 _ _ _ std loop)
theorem pe_sct {elt tg iter : Expr} {ifs : List Expr} {scope : Scope} {own : List (Str × Nat)} {pos : Pos} {wi : TI} {g : TG} {tt : TT} {te : TE} (hu : X.A.units + 64 < cLine) (hc : X.calm = true) (hN : X.N.Nodup) (hi : PI X tg iter wi) (ok : BlkOk X.N X.env.scope scope own)
    (hg : ∀ (s : Shared) (H : Hp) (C : Addr) (cl : List (Str × Addr)) (fp : List Addr), PG (X.blk s H scope (compEnvC scope cl C X.env) fp) tg g) (ht : ∀ (s : Shared) (H : Hp) (C : Addr) (cl : List (Str × Addr)) (fp : List Addr), PTs (X.blk s H scope (compEnvC scope cl C X.env) fp) ifs tt)
    (he : ∀ (s : Shared) (H : Hp) (C : Addr) (cl : List (Str × Addr)) (fp : List Addr), PE (X.blk s H scope (compEnvC scope cl C X.env) fp) elt te) (hs : ∀ x, foldedSetIterable iter X.env x = pure x) :
    PE X (.SetComp elt [⟨tg, iter, ifs, 0⟩] scope pos) (tSt X.prog X.w X.K wi g tt te (own.map (·.2))) := by
  refine ⟨fun pins s σ H Q I h => ?_⟩
  rw [PpSet.eval_SetComp]
  refine st_run hu hc hN I hi ok hg ht he hs h fun B C s' m H' I' q hn f => ⟨m, hn, fun h'' sb => ?_⟩
  obtain ⟨f0, f1, f2, f3, f4, f5⟩ := f
  exact ⟨.ref B, H', I'.turned (t' := s'.toks) (fun b o hb e => (sb.2 b hb).trans e) f0 f1 f3 f4 f5, rfl, q⟩
/-- len of such a set -/
def rLenT (P : Program) (w : World) : List V → Hp → VK → Prop := fun xs H Q => ∃ (a : Addr) (L : List (Addr × List Int)), xs = [.ref a] ∧ H a = some (SetTO P w a L) ∧ Q (.int (L.length : Nat)) H
theorem cr_lenT : CallR X (.builtin "len") (rLenT X.prog X.w) := by
  intro pins s σ H xs us Q I r h
  obtain ⟨a, L, rfl, ha, q⟩ := h
  rw [Vals.ref1 r]
  obtain ⟨es, ep, t, ⟨o, ho, hex, hd⟩, hrows, htab, hnd, hpl, hled, hroom, hfew⟩ := SetT0.ex (I.hok a _ ha).1
  have hsz : es.size = L.length := by
    have h := congrArg List.length hrows
    unfold rowsOf at h
    rwa [Array.length_toList, List.length_map] at h
  have hf : t.fits es.size = true := by
    have h1 := htab.sz
    rw [List.length_map] at h1
    unfold SetTable.fits SetTable.fill
    rw [htab.dm, Bool.and_eq_true, beq_iff_eq, decide_eq_true_eq]
    show t.place.size = es.size ∧ t.place.size + 0 ≤ t.mask
    omega
  refine call_len_set ho hex hd hf (by omega) ?_
  exact ⟨.int L.length, H, I.kept (h' := s.heap) (fun _ _ z => z), ⟨_, by rw [hsz]⟩, q⟩
end
end Sw

/-! Eng12r: len({..}) of tuples of whole numbers, read off the evaluator. -/
namespace Sw
open PySem PySem.Spec PyProof.Rows L2
/-- the turns of such a comprehension, the met tuples in acc -/
def scT (src : Src) (g : Gv) (ft fe : Ev) (ρ : En) : Nat → Nat → List (List Int) → Sto → Res D
  | 0, _, _, _ => .bad
  | k + 1, i, acc, S => match src.next S i with
    | some (some d) => match g d ρ S with
      | .ok ρ1 S1 => match ft ρ1 S1 with
        | .ok (.bl b) S2 => match b with
          | true => match fe ρ1 S2 with
            | .ok (.tup ds) S3 => match intsOf ds with
              | some y => match Nat.ble (acc.length + 2) 64 with
                | true => scT src g ft fe ρ k (i + 1) (match acc.contains y with | true => acc | false => y :: acc) S3
                | false => .bad
              | none => .bad
            | _ => .bad
          | false => scT src g ft fe ρ k (i + 1) acc S2
        | _ => .bad
      | .bad => .bad
    | some none => .ok (.int (acc.length : Nat)) S
    | none => .bad
def evScT (fi : Iv) (vs : List Nat) (g : Gv) (ft fe : Ev) : Ev := fun ρ S => match fi ρ S with
  | .ok src S1 => scT src g ft fe (wipeE ρ vs) (src.turns S1 + 1) 0 [] S1
  | .bad => .bad
theorem Ext.aside {m m' : Nat → Addr} {S S' : Sto} {H H' : Hp} {B : Addr} {o : HO} (X : Ext m m' S S' H H') (h0 : H B = none) (hn : ∀ n, n < S'.len → m' n ≠ B) (ht : ∀ xs, H' B ≠ some (.tup xs)) (hf : ∀ q u, H' B ≠ some (.frz q u)) : Ext m m' S S' H (upd H' B o) := by
  have kp : Keep H' (upd H' B o) := ⟨fun a xs e => by
      have hne : a ≠ B := fun z => ht xs (by rw [← z]; exact e)
      rw [upd_ne hne]; exact e, fun a q u e => by
      have hne : a ≠ B := fun z => hf q u (by rw [← z]; exact e)
      rw [upd_ne hne]; exact e⟩
  refine ⟨X.len, X.ag, X.keep.trans kp, X.bs, ⟨fun n o' e => ?_, X.rel.inj, X.rel.low, X.rel.top, X.rel.lens⟩, fun a u e hna => ?_, X.new⟩
  · have hl : n < S'.len := (List.getElem?_eq_some_iff.mp e).1
    exact (X.rel.obj n o' e).mono' (Nat.le_refl _) (fun _ _ => rfl) kp (upd_ne (hn n hl))
  · rw [upd_ne (fun z => by rw [z, h0] at e; cases e)]
    exact X.oth a u e hna
theorem Ext.away {m m' : Nat → Addr} {S S' : Sto} {H H' : Hp} {B : Addr} {o : HO} (X : Ext m m' S S' H H') (hB : H B = some o) (hn : ∀ n, n < S.len → m n ≠ B) : H' B = some o ∧ ∀ n, n < S'.len → m' n ≠ B := by
  refine ⟨X.oth B o hB hn, fun n hl e => ?_⟩
  by_cases z : n < S.len
  · exact hn n z ((X.ag n z).symm.trans e)
  · have := X.new n (Nat.le_of_not_lt z) hl
    rw [e, hB] at this
    cases this
section
variable {X : Cx}
theorem rd_sct {fi : Iv} {vs : List Nat} {g : Gv} {ft fe : Ev} {σ : L2.St} {H : Hp} {Q : VK} (h : rdE (evScT fi vs g ft fe) σ H Q) : tSt X.prog X.w X.K (rdI fi) (rdG vs g) (rdT ft) (rdE fe) vs σ H (fun v H' => rLenT X.prog X.w [v] H' Q) := by
  obtain ⟨m, S, ρ, d, S', R, E, e, q⟩ := h
  unfold evScT at e
  cases h0 : fi ρ S with
  | bad => rw [h0] at e; cases e
  | ok src S1 =>
    rw [h0] at e
    dsimp only at e
    refine ⟨m, S, ρ, src, S1, R, E, h0, fun m0 H0 J X0 OK B hB => ?_⟩
    have n0 : ∀ n, n < S1.len → m0 n ≠ B := fun n hl z => by
      obtain ⟨u, hu⟩ := X0.rel.alive hl
      rw [z, hB] at hu
      cases hu
    refine ⟨fun i k H => ∃ m2 S2 acc L, Ext m0 m2 S1 S2 H0 H ∧ H B = some (SetTO X.prog X.w B L) ∧ (∀ n, n < S2.len → m2 n ≠ B) ∧ (∀ p ∈ L, SqT X.K H p.1 (p.2.map V.int)) ∧ (∀ y, y ∈ acc ↔ y ∈ L.map (·.2)) ∧ acc.length = L.length ∧ scT src g ft fe (wipeE ρ vs) k i acc S2 = .ok d S',
      ⟨_, m0, S1, [], [], (Ext.refl X0.rel).aside hB n0 (fun xs z => by rw [hB] at z; cases z) (fun o u z => by rw [hB] at z; cases z), upd_same .., n0, fun p hp => (nomatch hp), fun y => Iff.rfl, rfl, e⟩, ?_⟩
    rintro i k H ⟨m2, S2, acc, L, X2, hHB, hn2, l1, l2, l3, e⟩
    have E2 := E.ext (X0.trans X2)
    cases k with
    | zero => cases e
    | succ k =>
      simp only [scT] at e
      obtain ⟨ok1, ok2⟩ := OK m2 S2 H i X2.x
      split at e
      · rename_i d0 hd
        obtain ⟨go, yl⟩ := ok1 d0 hd
        refine .inr ⟨go, fun H => ∃ m2 S2 acc L, Ext m0 m2 S1 S2 H0 H ∧ H B = some (SetTO X.prog X.w B L) ∧ (∀ n, n < S2.len → m2 n ≠ B) ∧ (∀ p ∈ L, SqT X.K H p.1 (p.2.map V.int)) ∧ (∀ y, y ∈ acc ↔ y ∈ L.map (·.2)) ∧ acc.length = L.length ∧ scT src g ft fe (wipeE ρ vs) k (i + 1) acc S2 = .ok d S', fun H' z => ⟨k, Nat.lt_succ_self k, z⟩, fun x H' y => ?_⟩
        obtain ⟨XY, rx⟩ := yl x H' y
        split at e
        · rename_i ρ1 S3 h3
          refine ⟨m2, S2, wipeE ρ vs, d0, ρ1, S3, XY.rel, (E2.ext XY).wipe vs, rx, h3, fun m3 H3 σ3 X3 E3 C3 => ⟨wipe_chg C3, ?_⟩⟩
          split at e
          · rename_i b S4 h4
            refine ⟨m3, S3, ρ1, b, S4, X3.rel, E3, h4, fun m4 H4 X4 => ?_⟩
            have X24 := XY.trans (X3.trans X4)
            cases b with
            | false =>
              dsimp only
              rw [if_neg Bool.false_ne_true]
              obtain ⟨a1, a2⟩ := X24.away hHB hn2
              exact ⟨m4, S4, acc, L, X2.trans X24, a1, a2, fun p hp => X24.keep.sqT (l1 p hp), l2, l3, e⟩
            | true =>
              dsimp only at e ⊢
              rw [if_pos rfl]
              split at e
              · rename_i ds S5 h5
                refine ⟨m4, S4, ρ1, .tup ds, S5, X4.rel, E3.ext X4, h5, fun m5 H5 v5 X5 r5 => ?_⟩
                split at e
                · rename_i y0 hy0
                  split at e
                  · rename_i hf
                    have X25 := X24.trans X5
                    obtain ⟨a1, a2⟩ := X25.away hHB hn2
                    obtain ⟨a, ws, rfl, ha, rs⟩ := r5
                    have hws := intsOf_ok rs hy0
                    subst hws
                    have hfl := Nat.le_of_ble_eq_true hf
                    refine ⟨a, y0, L, rfl, .of ha, a1, fun p hp => X25.keep.sqT (l1 p hp), by omega, fun L' c1 c2 => ?_⟩
                    have kp : ∀ o : HO, Keep H5 (upd H5 B o) := fun o => ⟨fun b xs z => by
                        rw [upd_ne (fun w => by rw [w, a1] at z; cases z)]; exact z, fun b q u z => by
                        rw [upd_ne (fun w => by rw [w, a1] at z; cases z)]; exact z⟩
                    have X6 := (X2.trans X25).aside (o := SetTO X.prog X.w B L') hB a2 (fun xs z => by rw [a1] at z; cases z) (fun o u z => by rw [a1] at z; cases z)
                    have sq : SqT X.K (upd H5 B (SetTO X.prog X.w B L')) a (y0.map V.int) := (kp _).sqT (.of ha)
                    have sql : ∀ p ∈ L, SqT X.K (upd H5 B (SetTO X.prog X.w B L')) p.1 (p.2.map V.int) := fun p hp => (kp _).sqT (X25.keep.sqT (l1 p hp))
                    by_cases hc : y0 ∈ acc
                    · have hc2 : acc.contains y0 = true := by simpa using hc
                      rw [hc2] at e
                      dsimp only at e
                      have := c1 ((l2 y0).mp hc)
                      subst this
                      exact ⟨m5, S5, acc, _, X6, upd_same .., a2, sql, l2, l3, e⟩
                    · have hc2 : acc.contains y0 = false := by simpa using hc
                      rw [hc2] at e
                      dsimp only at e
                      have pm := c2 (fun z => hc ((l2 y0).mpr z))
                      refine ⟨m5, S5, y0 :: acc, L', X6, upd_same .., a2, fun p hp => ?_, fun z => ?_, by rw [pm.length_eq, List.length_cons, List.length_cons, l3], e⟩
                      · rcases List.mem_cons.mp (pm.mem_iff.mp hp) with rfl | hp
                        · exact sq
                        · exact sql p hp
                      · rw [(pm.map (·.2)).mem_iff, List.map_cons, List.mem_cons, List.mem_cons, l2]
                  · cases e
                · cases e
              · cases e
          · cases e
        · cases e
      · rename_i hd
        cases e
        refine .inl ⟨ok2 hd, B, L, rfl, hHB, ?_⟩
        rw [← l3]
        exact q m2 H _ (X0.trans X2) rfl
      · cases e
variable {elt tg iter : Expr} {ifs : List Expr} {scope : Scope} {own : List (Str × Nat)} {pos p spos : Pos} {fi : Iv} {g : Gv} {ft fe : Ev}
theorem pev_sct (hu : X.A.units + 64 < cLine) (hc : X.calm = true) (hN : X.N.Nodup) (hi : PI X tg iter (rdI fi)) (ok : BlkOk X.N X.env.scope scope own)
    (hg : ∀ (s : Shared) (H : Hp) (C : Addr) (cl : List (Str × Addr)) (fp : List Addr), PG (X.blk s H scope (compEnvC scope cl C X.env) fp) tg (rdG (own.map (·.2)) g)) (ht : ∀ (s : Shared) (H : Hp) (C : Addr) (cl : List (Str × Addr)) (fp : List Addr), PTs (X.blk s H scope (compEnvC scope cl C X.env) fp) ifs (rdT ft))
    (he : ∀ (s : Shared) (H : Hp) (C : Addr) (cl : List (Str × Addr)) (fp : List Addr), PE (X.blk s H scope (compEnvC scope cl C X.env) fp) elt (rdE fe)) (hs : ∀ x, foldedSetIterable iter X.env x = pure x)
    (hgl : Gl X "len") (hm : X.mg "len" = none) (hst : starEach [.SetComp elt [⟨tg, iter, ifs, 0⟩] scope spos] X.env = (false, eval (.SetComp elt [⟨tg, iter, ifs, 0⟩] scope spos) X.env) :: starEach [] X.env) :
    PE X (.Call (.Name "len" p) [.SetComp elt [⟨tg, iter, ifs, 0⟩] scope spos] [] pos) (rdE (evScT fi (own.map (·.2)) g ft fe)) :=
  PE.of (pe_callB cr_lenT hgl hm boot_len (pa_cons (pe_sct hu hc hN hi ok hg ht he hs) pa_nil hst) (by decide) (by decide) hst (by rfl)) fun σ H Q h => rd_sct (X := X) h
end
end Sw

/-! Eng12s: len(set(xs)), xs a list of whole numbers, or of tuples of whole numbers. -/
namespace Sw
open PySem PySem.Spec PyProof.Rows L2
def insK (acc : List (List Int)) (y : List Int) : List (List Int) := match acc.contains y with | true => acc | false => y :: acc
def insI (acc : List Int) (y : Int) : List Int := match acc.contains y with | true => acc | false => acc ++ [y]
def tupsOf : List D → Option (List (List Int))
  | [] => some []
  | .tup ds :: r => match intsOf ds with
    | some y => match tupsOf r with
      | some ys => some (y :: ys)
      | none => none
    | none => none
  | _ :: _ => none
def lsetIN : List D → Sto → Res D
  | [.ref n], S => match S.objs[n]? with
    | some (.lst xs) => match intsOf xs with
      | some ns => match Nat.ble (ns.length + 2) scanBound with
        | true => .ok (.int ((ns.foldl insI []).length : Nat)) S
        | false => .bad
      | none => .bad
    | _ => .bad
  | _, _ => .bad
def lsetTN : List D → Sto → Res D
  | [.ref n], S => match S.objs[n]? with
    | some (.lst xs) => match tupsOf xs with
      | some ks => match Nat.ble (ks.length + 1) 64 with
        | true => .ok (.int ((ks.foldl insK []).length : Nat)) S
        | false => .bad
      | none => .bad
    | _ => .bad
  | _, _ => .bad
def lsetN : List D → Sto → Res D := fun ds S => match lsetIN ds S with
  | .ok d S' => .ok d S'
  | .bad => lsetTN ds S
theorem mem_insK {acc : List (List Int)} {x y : List Int} : x ∈ insK acc y ↔ x = y ∨ x ∈ acc := by
  unfold insK
  cases h : acc.contains y with
  | true =>
    have : y ∈ acc := by simpa using h
    exact ⟨.inr, fun z => z.elim (fun e => e ▸ this) id⟩
  | false => exact List.mem_cons
theorem insK_nodup {acc : List (List Int)} {y : List Int} (h : acc.Nodup) : (insK acc y).Nodup := by
  unfold insK
  cases hc : acc.contains y with
  | true => exact h
  | false => exact List.nodup_cons.mpr ⟨by simpa using hc, h⟩
theorem foldK : ∀ (ks acc : List (List Int)), acc.Nodup → (ks.foldl insK acc).Nodup ∧ ∀ x, x ∈ ks.foldl insK acc ↔ x ∈ ks ∨ x ∈ acc
  | [], acc, h => ⟨h, fun x => by simp⟩
  | k :: ks, acc, h => by
    obtain ⟨a, b⟩ := foldK ks (insK acc k) (insK_nodup h)
    refine ⟨a, fun x => ?_⟩
    rw [List.foldl_cons, b, mem_insK, List.mem_cons]
    constructor
    · rintro (h | h | h)
      · exact .inl (.inr h)
      · exact .inl (.inl h)
      · exact .inr h
    · rintro ((h | h) | h)
      · exact .inr (.inl h)
      · exact .inl h
      · exact .inr (.inr h)
theorem fold_dedup : ∀ (ns acc : List Int), ns.foldl step_dedup acc = ns.foldl insI acc
  | [], _ => rfl
  | n :: ns, acc => by
    rw [List.foldl_cons, List.foldl_cons, ← fold_dedup ns]
    congr 1
    unfold step_dedup insI
    have : acc.any (· == n) = acc.contains n := by rw [List.contains_eq_any_beq]; congr 1; funext x; exact Bool.beq_comm ..
    rw [this]
    cases acc.contains n <;> rfl
theorem range_getD (ns : List Int) : (List.range ns.length).map (fun i => ns.getD i 0) = ns := by
  apply List.ext_getElem
  · simp
  · intro i h1 h2
    simp [List.getElem?_eq_getElem h2]
theorem firstMet_all (ns : List Int) : firstMet (fun i => ns.getD i 0) ns.length = ns.foldl insI [] := by
  unfold firstMet
  rw [range_getD, fold_dedup]
theorem tupsOf_ok {m : Nat → Addr} {k : Nat} {H : Hp} {K : Frg} : ∀ {xs : List D} {vs : List V} {ys : List (List Int)}, RDs m k H xs vs → tupsOf xs = some ys → ∃ ks : List (Addr × List Int), vs = ks.map (fun p => V.ref p.1) ∧ ks.map (·.2) = ys ∧ ∀ p ∈ ks, SqT K H p.1 (p.2.map V.int)
  | [], vs, ys, h, e => by
    simp only [tupsOf] at e
    cases e
    exact ⟨[], h, rfl, fun p hp => (nomatch hp)⟩
  | d :: r, vs, ys, h, e => by
    obtain ⟨v, ws, rfl, r1, r2⟩ := h
    cases d <;> simp only [tupsOf] at e <;> try cases e
    rename_i ds
    split at e
    · rename_i y hy
      split at e
      · rename_i zs hz
        cases e
        obtain ⟨a, us, rfl, ha, ru⟩ := r1
        have := intsOf_ok ru hy
        subst this
        obtain ⟨ks, rfl, rfl, hk⟩ := tupsOf_ok (K := K) r2 hz
        exact ⟨(a, y) :: ks, rfl, rfl, fun p hp => by
          rcases List.mem_cons.mp hp with rfl | hp
          · exact .of ha
          · exact hk p hp⟩
      · cases e
    · cases e
section
variable {X : Cx} {a : Expr} {ta : TE} {p p2 q pos : Pos} {fa : EvA}
def rLenT2 (P : Program) (w : World) : List V → Hp → VK → Prop := fun xs H Q => ∃ (a : Addr) (L : List (Addr × List Int)), xs = [.ref a] ∧ H a = some (SetTO P w a L) ∧ ((L.map (·.2)).Nodup → Q (.int (L.length : Nat)) H)
theorem cr_lenT2 : CallR X (.builtin "len") (rLenT2 X.prog X.w) := by
  intro pins s σ H xs us Q I r h
  obtain ⟨a, L, e, ha, h2⟩ := h
  have hx := SetT0.ex (I.hok a _ ha).1
  obtain ⟨es, ep, t, _, _, _, hnd, _⟩ := hx
  exact cr_lenT pins s σ H xs us Q I r ⟨a, L, e, ha, h2 hnd⟩
/-- set(xs), counted -/
def rSetI (K : Frg) (P : Program) (w : World) : List V → Hp → VK → Prop := fun xs H Q => ∃ (l : Addr) (ns : List Int), xs = [V.ref l] ∧ SqL K H l (ns.map V.int) ∧ ns.length + 2 ≤ scanBound ∧ ∀ B, H B = none → Q (.ref B) (upd H B (.set (fun j => (ns.foldl insI []).any (· == j)) (ns.foldl insI []).length))
theorem cr_setI (hc : X.calm = true) : CallR X (.type "set") (rSetI X.K X.prog X.w) := by
  intro pins s σ H xs us Q I r h
  obtain ⟨l, ns, rfl, hl, hb, h2⟩ := h
  rw [Vals.ref1 r]
  obtain ⟨its, rv, pl, hz⟩ := I.list hl
  have hsz : its.toArray.size = ns.length := by rw [List.size_toArray, ← rv.length, List.length_map]
  have hn : H s.heap.objs.size = none := I.hok.fresh (Nat.le_refl _)
  refine call_set_list (I.ok.hd hc) pl.isList (ns := ns) (by simpa using rv.ints) (by omega) fun h' tk hS hk => ?_
  rw [hsz, firstMet_all] at hS
  exact ⟨.ref s.heap.objs.size, _, I.laid (o := .set (fun j => (ns.foldl insI []).any (· == j)) (ns.foldl insI []).length) (t' := tk) (fun b o e => hk b o (Heap.lt_size e) e) (Nat.le_refl _) hS, rfl, h2 _ hn⟩
/-- len of a set of whole numbers -/
def rLenI : List V → Hp → VK → Prop := fun xs H Q => ∃ (a : Addr) (f : Int → Bool) (n : Nat), xs = [.ref a] ∧ H a = some (.set f n) ∧ n + 1 ≤ scanBound ∧ Q (.int (n : Nat)) H
theorem cr_lenI : CallR X (.builtin "len") rLenI := by
  intro pins s σ H xs us Q I r h
  obtain ⟨a, f, n, rfl, ha, hb, h2⟩ := h
  obtain ⟨o, es, ep, t, h1, h2', h3, h4, h5, h6, h7, h8⟩ := (show s.heap.SetOf (intKind X.prog X.w) _ _ _ from I.hok _ _ ha)
  rw [Vals.ref1 r]
  refine call_len_set h1 h2' h3 h7 (by have : scanBound = 4096 := rfl; omega) ?_
  exact ⟨.int n, H, I.kept (h' := s.heap) (fun _ _ z => z), ⟨_, by rw [h8]⟩, h2⟩
theorem insI_le : ∀ (ns acc : List Int), (ns.foldl insI acc).length ≤ acc.length + ns.length
  | [], acc => by simp
  | n :: ns, acc => by
    have h := insI_le ns (insI acc n)
    have h2 : (insI acc n).length ≤ acc.length + 1 := by unfold insI; cases acc.contains n <;> simp
    rw [List.foldl_cons, List.length_cons]
    omega
theorem rd_lsetI {vs : List V} {H : Hp} {Q : VK} (h : rdN lsetIN vs H Q) : rSetI X.K X.prog X.w vs H (fun v H1 => rLenI [v] H1 Q) := by
  obtain ⟨m, S, ds, d, S', R, r, e, q⟩ := h
  unfold lsetIN at e
  split at e
  · rename_i n
    obtain ⟨v, rfl, hn, rfl⟩ := r.one1
    split at e
    · rename_i xs ho
      obtain ⟨us, hw, rs⟩ : ∃ us, H (m n) = some (.lst us) ∧ RDs m S.len H xs us := R.obj _ _ ho
      split at e
      · rename_i ns hns
        split at e
        · rename_i hb
          cases e
          have := intsOf_ok rs hns
          subst this
          have hb := Nat.le_of_ble_eq_true hb
          refine ⟨m n, ns, rfl, .of hw, hb, fun B hB => ⟨B, _, _, rfl, upd_same .., ?_, q m _ _ ((Ext.refl R).aside hB (fun i hi z => ?_) (fun xs z => by rw [hB] at z; cases z) (fun q u z => by rw [hB] at z; cases z)) rfl⟩⟩
          · have := insI_le ns []
            simp at this
            omega
          · obtain ⟨u, hu⟩ := R.alive hi
            rw [z, hB] at hu; cases hu
        · cases e
      · cases e
    · cases e
  · cases e
theorem rd_lsetT {vs : List V} {H : Hp} {Q : VK} (h : rdN lsetTN vs H Q) : rSetOfT X.K X.prog X.w vs H (fun v H1 => rLenT2 X.prog X.w [v] H1 Q) := by
  obtain ⟨m, S, ds, d, S', R, r, e, q⟩ := h
  unfold lsetTN at e
  split at e
  · rename_i n
    obtain ⟨v, rfl, hn, rfl⟩ := r.one1
    split at e
    · rename_i xs ho
      obtain ⟨us, hw, rs⟩ : ∃ us, H (m n) = some (.lst us) ∧ RDs m S.len H xs us := R.obj _ _ ho
      split at e
      · rename_i ks hks
        split at e
        · rename_i hb
          cases e
          obtain ⟨kk, rfl, hk2, hk3⟩ := tupsOf_ok (K := X.K) rs hks
          have hb := Nat.le_of_ble_eq_true hb
          have hl : kk.length = ks.length := by rw [← hk2]; simp
          refine ⟨m n, kk, rfl, .of hw, hk3, by omega, fun B L hB l1 l2 => ⟨B, L, rfl, upd_same .., fun hnd => ?_⟩⟩
          obtain ⟨f1, f2⟩ := foldK ks [] List.nodup_nil
          have : L.length = (ks.foldl insK []).length := by
            rw [← List.length_map (as := L) (f := (·.2))]
            refine ((List.perm_ext_iff_of_nodup hnd f1).mpr fun x => ?_).length_eq
            rw [f2, ← hk2]
            constructor
            · intro hx
              obtain ⟨p, hp, rfl⟩ := List.mem_map.mp hx
              exact .inl (List.mem_map.mpr ⟨p, l1 p hp, rfl⟩)
            · rintro (hx | hx)
              · obtain ⟨p, hp, rfl⟩ := List.mem_map.mp hx
                exact l2 p hp
              · cases hx
          rw [this]
          exact q m _ _ ((Ext.refl R).aside hB (fun i hi z => by
            obtain ⟨u, hu⟩ := R.alive hi
            rw [z, hB] at hu; cases hu) (fun xs z => by rw [hB] at z; cases z) (fun q u z => by rw [hB] at z; cases z)) rfl
        · cases e
      · cases e
    · cases e
  · cases e
theorem pev_lset (hu : X.A.units + 64 < cLine) (hc : X.calm = true) (hg : Gl X "len") (hm : X.mg "len" = none) (hg2 : Gl X "set") (hm2 : X.mg "set" = none) (ha : PA X [a] (rdA fa)) (na : starEach [a] X.env = (false, eval a X.env) :: starEach [] X.env) :
    PE X (.Call (.Name "len" p) [.Call (.Name "set" p2) [a] [] q] [] pos) (rdE (evN lsetN fa)) := by
  have P1 : PE X (.Call (.Name "len" p) [.Call (.Name "set" p2) [a] [] q] [] pos) (rdE (evN lsetIN fa)) := PE.of (pe_callB cr_lenI hg hm boot_len (pa_cons (pe_callTy (cr_setI hc) hg2 hm2 PyProof.Rows.boot_set ha (by decide) (by decide) na (by rfl)) pa_nil rfl) (by decide) (by decide) rfl (by rfl)) fun σ H Q h => by
    obtain ⟨m, S, ρ, d, S', R, E, e, q⟩ := rdN_seq h
    exact ⟨m, S, ρ, d, S', R, E, e, fun m1 H1 v1 X1 r1 => rd_lsetI (q m1 H1 v1 X1 r1)⟩
  have P2 : PE X (.Call (.Name "len" p) [.Call (.Name "set" p2) [a] [] q] [] pos) (rdE (evN lsetTN fa)) := PE.of (pe_callB cr_lenT2 hg hm boot_len (pa_cons (pe_callTy (cr_setOfT hc hu) hg2 hm2 PyProof.Rows.boot_set ha (by decide) (by decide) na (by rfl)) pa_nil rfl) (by decide) (by decide) rfl (by rfl)) fun σ H Q h => by
    obtain ⟨m, S, ρ, d, S', R, E, e, q⟩ := rdN_seq h
    exact ⟨m, S, ρ, d, S', R, E, e, fun m1 H1 v1 X1 r1 => rd_lsetT (q m1 H1 v1 X1 r1)⟩
  refine ⟨fun pins s σ H Q I h => ?_⟩
  obtain ⟨m, S, ρ, d, S', R, E, e, q⟩ := h
  unfold evN at e
  cases h1 : fa ρ S with
  | bad => rw [h1] at e; cases e
  | ok ds S1 =>
    rw [h1] at e
    dsimp only [lsetN] at e
    cases h2 : lsetIN ds S1 with
    | ok d2 S2 =>
      rw [h2] at e
      refine P1.run pins s σ H Q I ⟨m, S, ρ, d, S', R, E, ?_, q⟩
      unfold evN
      rw [h1]
      exact h2.trans e
    | bad =>
      rw [h2] at e
      refine P2.run pins s σ H Q I ⟨m, S, ρ, d, S', R, E, ?_, q⟩
      unfold evN
      rw [h1]
      exact e
end
end Sw

/-! Eng12t: min of a list of whole numbers. -/
namespace Sw
open PySem PySem.Spec PyProof.Rows L2
def minOf (i : Int) (r : List Int) : Int := r.foldl (fun a b => if b < a then b else a) i
def minLN : List D → Sto → Res D
  | [.ref n], S => match S.objs[n]? with
    | some (.lst xs) => match intsOf xs with
      | some (i :: r) => .ok (.int (minOf i r)) S
      | _ => .bad
    | _ => .bad
  | _, _ => .bad
def minN2 : List D → Sto → Res D := fun ds S => match minN ds S with
  | .ok d S' => .ok d S'
  | .bad => minLN ds S
theorem minOf_ok : ∀ (r : List Int) (i : Int), minOf i r ∈ i :: r ∧ ∀ x ∈ i :: r, minOf i r ≤ x
  | [], i => ⟨by simp [minOf], fun x hx => by rw [List.mem_singleton.mp hx]; exact Int.le_refl _⟩
  | b :: r, i => by
    have e : minOf i (b :: r) = minOf (if b < i then b else i) r := rfl
    obtain ⟨h1, h2⟩ := minOf_ok r (if b < i then b else i)
    rw [e]
    generalize minOf (if b < i then b else i) r = mm at h1 h2 ⊢
    refine ⟨?_, fun x hx => ?_⟩
    · rcases List.mem_cons.mp h1 with h | h
      · rw [h]; split <;> simp
      · exact List.mem_cons_of_mem _ (List.mem_cons_of_mem _ h)
    · have h3 := h2 (if b < i then b else i) (by simp)
      rcases List.mem_cons.mp hx with rfl | hx
      · split at h3 <;> omega
      · rcases List.mem_cons.mp hx with rfl | hx
        · split at h3 <;> omega
        · exact h2 x (List.mem_cons_of_mem _ hx)
section
variable {X : Cx}
theorem crv_min2 (hc : X.calm = true) : CallR X (.builtin "min") (rdN minN2) := by
  intro pins s σ H xs us Q I r h
  obtain ⟨m, S, ds, d, S', R, rr, e, q⟩ := h
  unfold minN2 at e
  cases h1 : minN ds S with
  | ok d2 S2 =>
    rw [h1] at e
    exact crv_min hc pins s σ H xs us Q I r ⟨m, S, ds, d, S', R, rr, h1.trans e, q⟩
  | bad =>
    rw [h1] at e
    dsimp only at e
    unfold minLN at e
    split at e
    · rename_i n
      obtain ⟨v, rfl, hn, rfl⟩ := rr.one1
      split at e
      · rename_i zs ho
        obtain ⟨ws, hw, rs⟩ : ∃ ws, H (m n) = some (.lst ws) ∧ RDs m S.len H zs ws := R.obj _ _ ho
        split at e
        · rename_i i rest hi
          cases e
          have := intsOf_ok rs hi
          subst this
          refine cr_min hc pins s σ H _ us Q I r ⟨m n, i :: rest, rfl, .of hw, by simp, fun mm h1 h2 => ?_⟩
          obtain ⟨g1, g2⟩ := minOf_ok rest i
          have : mm = minOf i rest := Int.le_antisymm (h2 _ g1) (g2 _ h1)
          rw [this]
          exact q m _ _ (Ext.refl R) rfl
        · cases e
      · cases e
    · cases e
end
end Sw

/-! Eng12u: comprehensions of dicts; list() of a dict with tuple keys. -/
namespace Sw
open PySem PySem.Spec PyProof.Rows L2
/-- what {k: v for target in iter if ..} asks; B the new dict, ob what it is at first -/
def tDi (ob : Addr → HO) (wi : TI) (g : TG) (tt : TT) (tk tv : TE) (vs : List Nat) : TE := fun σ H Q => wi σ H fun J Ha => ∀ B, Ha B = none → sysModules < B → ∃ W : Nat → Nat → Hp → Prop, (∃ m, W 0 m (upd Ha B (ob B))) ∧ ∀ i m H, W i m H →
  (J.stop i H ∧ Q (.ref B) H) ∨ (J.go i H ∧ ∃ Nx : Hp → Prop, (∀ H', Nx H' → ∃ m', m' < m ∧ W (i + 1) m' H') ∧ ∀ x H', J.yld i H x H' → g x (wipe σ vs) H' fun τ Hb => wipe τ vs = wipe σ vs ∧ tt τ Hb fun b Hc =>
    if b = true then tk τ Hc fun y Hd => tv τ Hd fun z He => ∃ Hf, DPutA He B y z Hf ∧ Nx Hf else Nx Hc)
section
variable {X : Cx}
theorem d_dictSetP {pins : List (Addr × Obj)} {σ : L2.St} {H H' : Hp} {s : Shared} {E : Value → Shared → Prop} {a : Addr} {y v : V} {u r : Value} {Q : Unit → Shared → Prop} (hu : X.A.units + 16 < cLine) (I : Inv X pins σ H s) (g : DPutA H a y v H') (ry : RelV y u) (rv : RelV v r)
    (h : ∀ s', Inv X pins σ H' s' → Q () s') : wpAny (model X.prog X.w) X.A (dictSet a u r) Q E s := by
  rcases g with (⟨kvs, k, e, ey, l, eH⟩ | ⟨kvs, k, b, e, ey, eb, l, eH⟩) | ⟨xs, q, b, n, ey, hq, hd, l, eH⟩
  · subst ey eH
    exact d_dictSet I e l ry rv h
  · subst ey eH
    cases (show u = Value.ref b from ry)
    obtain ⟨z, hd, xs, rel, dd⟩ := dt_of I.hok e
    have hl : (putK kvs k v).length ≤ sizeLine := by have := length_putK kvs k v; omega
    refine wpAny_dictSet_heap (hsz := by rw [← Paired.length rel]; exact z) (knd := tupleKind (mixKind X.prog X.w)) (by show X.A.units < cLine; omega) (key_of I.hok eb) dd fun h' dd' hs => h _ ?_
    obtain ⟨q, es, ep, hq, h2, h3, h4, _, h5⟩ := dd'
    refine d_write I (by rw [e]; exact True.intro) hs ⟨q, hq⟩ ⟨hl, hd, _, (rel.put k eb rv).keeps fun c ys ec => ?_, q, es, ep, hq, h2, h3, h4, h5⟩
    rw [upd_ne (ne_of ec e (fun z => nomatch z))]
    exact ec
  · subst ey eH
    cases (show u = Value.ref b from ry)
    obtain ⟨ys, rel, dd⟩ := nd_of I.hok n
    have hz : ys.length ≤ sizeLine := by rw [← rel.length]; exact n.size
    refine wpAny_dictSet_heap (hsz := hz) (knd := nestedKind X.prog X.w) (by show X.A.units + 8 < cLine; omega) (dn_is I hq hd) dd fun h' dd' hs => h _ ?_
    have he : ∃ z, h'.get? a = some z := let ⟨z, _, _, hq, _⟩ := dd'; ⟨z, hq⟩
    exact d_write I (by rw [n.at_]; exact True.intro) hs he (nd_ok (rel.put q b rv) dd' (n.put hq hd l).keys)
theorem dc_run {pins : List (Addr × Obj)} {s : Shared} {σ : L2.St} {H : Hp} {Q : VK} {kx vx tg iter : Expr} {ifs : List Expr} {scope : Scope} {own : List (Str × Nat)} {pos pos' : Pos} {wi : TI} {g : TG} {tt : TT} {tk tv : TE} {ob : Addr → HO} {use : Option (Value → Sem Unit)} {Qf : Value → Shared → Prop}
    (hu : X.A.units + 64 < cLine) (hob : ∀ (H : Hp) (h : Heap), sysModules < h.objs.size → ObjOk X.prog X.w H (h.push { cls := .type "dict", data := .dict #[] }) h.objs.size (ob h.objs.size)) (calm : X.calm = true) (nd : X.N.Nodup) (I : Inv X pins σ H s) (hi : PI X tg iter wi) (bk : BlkOk X.N X.env.scope scope own)
    (hg : ∀ (s : Shared) (H : Hp) (C : Addr) (cl : List (Str × Addr)) (fp : List Addr), PG (X.blk s H scope (compEnvC scope cl C X.env) fp) tg g) (ht : ∀ (s : Shared) (H : Hp) (C : Addr) (cl : List (Str × Addr)) (fp : List Addr), PTs (X.blk s H scope (compEnvC scope cl C X.env) fp) ifs tt)
    (hk : ∀ (s : Shared) (H : Hp) (C : Addr) (cl : List (Str × Addr)) (fp : List Addr), PE (X.blk s H scope (compEnvC scope cl C X.env) fp) kx tk)
    (he : ∀ (s : Shared) (H : Hp) (C : Addr) (cl : List (Str × Addr)) (fp : List Addr), PE (X.blk s H scope (compEnvC scope cl C X.env) fp) vx tv) (hs : ∀ x, foldedSetIterable iter X.env x = pure x)
    (h : tDi ob wi g tt tk tv (own.map (·.2)) σ H Q)
    (fin : ∀ B C s' m H', Inv X pins σ H' s' → Q (.ref B) H' → s'.heap.Ns C m → FpOk X pins H' C → compPost (model X.prog X.w) X.A X.xe use Qf (.ref B) C (.ok .next) s') :
    wpAny (model X.prog X.w) X.A (comprehension (.DictComp kx vx [⟨tg, iter, ifs, 0⟩] scope pos) scope X.env pos' newDict false (eval iter X.env) use) Qf X.xe s := by
  have fr : ∀ y ∈ scope.names, y.2 = .free → ∃ c, X.env.cells.lookup y.1 = some c := fun y hy e => (bk.free y hy e).elim (fun k => I.ok.has _ (.inl k)) fun k => I.ok.has _ (.inr k)
  refine wpAny_comprehension_free (use := use) rfl hs (closure_ok fr) bk.kind (fun y hy e => by rw [bk.uniq y hy, e]) (thn (hi.run pins s σ H _ I h) fun xv sa hx => thn hx fun itv sb hb => ?_)
  obtain ⟨it, fp, tn, J, Ha, e, Ia, T, sta, fa, q⟩ := hb
  subst e
  refine wpAny_newObj_type (newEnv_comp ?_)
  generalize hBe : sb.heap.objs.size = B
  have hBn : Ha B = none := Ia.hok.fresh (Nat.le_of_eq hBe)
  obtain ⟨W, ⟨m0, w0⟩, turn⟩ := q B hBn (hBe ▸ Ia.big)
  generalize hsc : ({ sb with heap := sb.heap.push { cls := .type "dict", data := .dict #[] } } : Shared) = sc
  have hc : sc.heap = sb.heap.push { cls := .type "dict", data := .dict #[] } := by rw [← hsc]
  have Ic : Inv X pins σ (upd Ha B (ob B)) sc := by
    rw [← hsc]
    refine Ia.laid (t' := sb.toks) (fun b o e => Heap.get?_push_of_some _ e) (Nat.le_of_eq hBe) ?_
    rw [← hBe]
    exact hob _ _ Ia.big
  have small : ∀ b ∈ fp, b < sb.heap.objs.size := fun b hb => by
    obtain ⟨o, e, _⟩ := T.obj _ _ sta b hb
    exact Heap.lt_size e
  have fc : ∀ b ∈ fp, FpOk X pins (upd Ha B (ob B)) b ∧ b < sc.heap.objs.size := fun b hb => by
    have lt := small b hb
    refine ⟨⟨?_, (fa b hb).2⟩, by rw [hc, Heap.size_push]; exact Nat.lt_succ_of_lt lt⟩
    rw [upd_ne (by rw [← hBe]; exact Nat.ne_of_lt lt)]
    exact (fa b hb).1
  have stc : tn 0 sc.heap := T.keep _ _ _ sta fun b _ o e => by rw [hc]; exact Heap.get?_push_of_some _ e
  have Id := block_start Ic bk nd fc
  have pg := hg sc (upd Ha B (ob B)) sc.heap.objs.size (cellsFrom (sc.heap.objs.size + 1) scope.names (cloFrom X.env.cells scope.names [])) fp
  have pt := ht sc (upd Ha B (ob B)) sc.heap.objs.size (cellsFrom (sc.heap.objs.size + 1) scope.names (cloFrom X.env.cells scope.names [])) fp
  have pk := hk sc (upd Ha B (ob B)) sc.heap.objs.size (cellsFrom (sc.heap.objs.size + 1) scope.names (cloFrom X.env.cells scope.names [])) fp
  have pe := he sc (upd Ha B (ob B)) sc.heap.objs.size (cellsFrom (sc.heap.objs.size + 1) scope.names (cloFrom X.env.cells scope.names [])) fp
  show codeAny _ _ (.compStart (.DictComp kx vx [⟨tg, iter, ifs, 0⟩] scope pos) 0 (.ref it) (.ref B) (compEnvC scope (cellsFrom (sc.heap.objs.size + 1) scope.names (cloFrom X.env.cells scope.names [])) sc.heap.objs.size X.env)) (compPost (model X.prog X.w) X.A X.xe use Qf (.ref B) sc.heap.objs.size) { sc with heap := pushCells (sc.heap.push { cls := .type "dict", data := .dict #[] }) scope.names }
  have nfp : ∀ b ∈ fp, (upd Ha B (ob B)) b = none := fun b hb => (fc b hb).1.1
  generalize hce : compEnvC scope (cellsFrom (sc.heap.objs.size + 1) scope.names (cloFrom X.env.cells scope.names [])) sc.heap.objs.size X.env = ce at Id pg pt pk pe ⊢
  have locs : ce.locals = sc.heap.objs.size := by subst hce; rfl
  generalize hHc : upd Ha B (ob B) = Hc at Ic Id pg pt pk pe w0 nfp fc
  generalize hsd : ({ sc with heap := pushCells (sc.heap.push { cls := .type "dict", data := .dict #[] }) scope.names } : Shared) = sd at Id ⊢
  have std : tn 0 sd.heap := T.keep _ _ _ stc fun b _ o e => by rw [← hsd]; exact pushCells_keeps _ _ _ _ (Heap.get?_push_of_some _ e)
  have kept : ∀ {τ : L2.St} {H' : Hp} {s' : Shared}, Inv (X.blk sc Hc scope ce fp) [] τ H' s' → (∀ b ∈ fp, H' b = none) → ∀ b ∈ fp, FpOk (X.blk sc Hc scope ce fp) [] H' b := fun {τ H' s'} I' hn b hb =>
    ⟨hn b hb, (I'.ok.exf b hb).1, I'.ok.exfs b hb, .inl hb, fun x c e => (I'.ok.exf b hb).2 x c e, fun p hp => absurd (show p ∈ ([] : List (Addr × Obj)) ++ [] from hp) (by simp)⟩
  have loop : codeAny (model X.prog X.w) X.A (.compLoop (.DictComp kx vx [⟨tg, iter, ifs, 0⟩] scope pos) 0 (.ref it) (.ref B) ce) (compPost (model X.prog X.w) X.A X.xe use Qf (.ref B) sc.heap.objs.size) sd := by
    refine compLoop_anyD (fun n s' => ∃ i H', Inv (X.blk sc Hc scope ce fp) [] (wipe σ (own.map (·.2))) H' s' ∧ tn i s'.heap ∧ (∀ b ∈ fp, H' b = none) ∧ W i n H') ?_ m0 ⟨0, Hc, Id, std, nfp, w0⟩
    rintro n se ⟨i, He, Ie, ste, ne, we⟩
    rcases turn i n He we with ⟨stop, qq⟩ | ⟨go, Nx, hNx, step⟩
    · refine thnF (T.done (X.blk sc Hc scope ce fp) rfl rfl rfl calm i [] se _ He (fun _ _ => False) Ie (kept Ie ne) ste stop) fun r sf ⟨hr, If⟩ => ?_
      subst hr
      have Ig : Inv X pins σ He sf := Ic.call' (ch := fp) If.os If.base If.hok If.bare fun b hb => ⟨(fc b hb).1.2.2.2.1, (fc b hb).1.2.1, (fc b hb).1.2.2.2.2.1, (fc b hb).1.2.2.2.2.2⟩
      have nC : He sc.heap.objs.size = none := by
        have z : He ce.locals = none := If.free
        rwa [locs] at z
      obtain ⟨m, hn, _⟩ := If.loc
      have hn : sf.heap.Ns ce.locals m := hn
      rw [locs] at hn
      exact fin B sc.heap.objs.size sf m He Ig qq hn (Ic.fpOk (Nat.le_refl _) nC)
    · refine thnF (T.item (X.blk sc Hc scope ce fp) rfl rfl rfl calm i [] se _ He (fun _ _ => False) Ie (kept Ie ne) ste go) fun r sf ⟨u, hr, hf⟩ => ?_
      subst hr
      refine thnF hf fun _ sg ⟨x, Hg, Ig, rg, yg, stg, ng⟩ => ?_
      refine thnF (pg.run _ sg _ Hg x u _ (Ig.pinned (kept Ig ng) (T.obj _ _ stg)) rg (step x Hg yg)) fun _ sh ⟨τ, Hh, Ih, hwh, qh⟩ => ?_
      refine thnF (pt.run _ sh τ Hh _ Ih qh) fun b sj ⟨Hj, Ij, qj⟩ => ?_
      have done : ∀ {s' : Shared} {H' : Hp}, Inv (X.blk sc Hc scope ce fp) ([] ++ pinsAt fp sg.heap) τ H' s' → Nx H' → ∃ m, m < n ∧ ∃ i H', Inv (X.blk sc Hc scope ce fp) [] (wipe σ (own.map (·.2))) H' s' ∧ tn i s'.heap ∧ (∀ b ∈ fp, H' b = none) ∧ W i m H' := fun {s' H'} I' nx => by
        obtain ⟨m', hm, w'⟩ := hNx H' nx
        have held : ∀ b ∈ fp, ∀ o, sg.heap.get? b = some o → s'.heap.get? b = some o ∧ H' b = none := fun b hb o e =>
          have z := I'.pin (b, o) (List.mem_append_right _ (List.mem_append_right _ (mem_pinsAt hb e)))
          ⟨z.1, z.2.1⟩
        have hl : (wipe σ (own.map (·.2))).length = τ.length := by rw [← hwh, wipe_length]
        refine ⟨m', hm, i + 1, H', (I'.unpinned (pins := [])).weak hl (fun j v e => ?_), T.keep _ _ _ stg fun b hb o e => (held b hb o e).1, fun b hb => ?_, w'⟩
        · rw [← hwh] at e
          exact (wipe_some e).1
        · obtain ⟨o, e, _⟩ := T.obj _ _ stg b hb
          exact (held b hb o e).2
      cases b with
      | false =>
        simp only [Bool.false_eq_true, if_false] at qj ⊢
        exact done Ij qj
      | true =>
        simp only [if_true] at qj ⊢
        refine thnF (pk.run _ sj τ Hj _ Ij qj) fun z sk ⟨yk, Hk, Ik, rk, qk⟩ => ?_
        refine thnF (pe.run _ sk τ Hk _ Ik qk) fun z2 sl ⟨yv, Hl, Il, rl, Hm, gm, nx⟩ => ?_
        exact d_dictSetP (X := X.blk sc Hc scope ce fp) (by show X.A.units + 16 < cLine; omega) Il gm rk rl fun sm Im => done Im nx
  exact codeAny_compStart_dict loop (T.self X.A 0 _ _ _ std loop)
def dcL (src : Src) (n : Nat) (g : Gv) (ft fk fv : Ev) (ρ : En) : Nat → Nat → Sto → Res D
  | 0, _, _ => .bad
  | k + 1, i, S => match src.next S i with
    | some (some d) => match g d ρ S with
      | .ok ρ1 S1 => match ft ρ1 S1 with
        | .ok (.bl b) S2 => match b with
          | true => match fk ρ1 S2 with
            | .ok y S3 => match fv ρ1 S3 with
              | .ok z S4 => match S4.dput n y z with
                | some S5 => dcL src n g ft fk fv ρ k (i + 1) S5
                | none => .bad
              | .bad => .bad
            | .bad => .bad
          | false => dcL src n g ft fk fv ρ k (i + 1) S2
        | _ => .bad
      | .bad => .bad
    | some none => .ok (.ref n) S
    | none => .bad
inductive DKd where
  | k | t | n
def DKd.of (b : Bool) : DKd := match b with
  | true => .t
  | false => .k
def newO (t : DKd) : O := match t with
  | .t => .dctT []
  | .k => .dct []
  | .n => .dctN []
def newH (t : DKd) (p : Addr) : HO := match t with
  | .t => .dT []
  | .k => .dK []
  | .n => NDict p []
def evDc (t : DKd) (fi : Iv) (vs : List Nat) (g : Gv) (ft fk fv : Ev) : Ev := fun ρ S => match fi ρ S with
  | .ok src S1 => dcL src S1.len g ft fk fv (wipeE ρ vs) (src.turns S1 + 1) 0 (S1.add (newO t))
  | .bad => .bad
theorem rd_dc {t : DKd} {fi : Iv} {vs : List Nat} {g : Gv} {ft fk fv : Ev} {σ : L2.St} {H : Hp} {Q : VK} (h : rdE (evDc t fi vs g ft fk fv) σ H Q) : tDi (newH t) (rdI fi) (rdG vs g) (rdT ft) (rdE fk) (rdE fv) vs σ H Q := by
  obtain ⟨m, S, ρ, d, S', R, E, e, q⟩ := h
  unfold evDc at e
  cases h0 : fi ρ S with
  | bad => rw [h0] at e; cases e
  | ok src S1 =>
    rw [h0] at e
    dsimp only at e
    refine ⟨m, S, ρ, src, S1, R, E, h0, fun m0 H0 J X0 OK L hL hsL => ?_⟩
    have XA : Ext m0 (withAt m0 S1.len L) S1 (S1.add (newO t)) H0 (upd H0 L (newH t L)) := by
      cases t with
      | t => exact Ext.add X0.rel hL ⟨[], upd_same, rfl⟩
      | k => exact Ext.add X0.rel hL ⟨[], upd_same, rfl⟩
      | n => exact Ext.add X0.rel hL ⟨[], nat_empty hsL, rfl⟩
    have hml : withAt m0 S1.len L S1.len = L := withAt_same ..
    have hln : S1.len < (S1.add (newO t)).len := by rw [Sto.add_len]; exact Nat.lt_succ_self _
    generalize withAt m0 S1.len L = mA at XA hml
    generalize S1.add (newO t) = SA at e XA hln
    generalize upd H0 L (newH t L) = HA at XA
    generalize S1.len = n at e hml hln
    refine ⟨fun i k H => ∃ m2 S2, Ext mA m2 SA S2 HA H ∧ ∃ d S', dcL src n g ft fk fv (wipeE ρ vs) k i S2 = .ok d S' ∧ ∀ m' H' v, Ext m2 m' S2 S' H H' → RD m' S'.len H' d v → Q v H', ⟨_, mA, SA, Ext.refl XA.rel, d, S', e, fun m' H' v X' r' => q m' H' v (X0.trans (XA.trans X')) r'⟩, ?_⟩
    rintro i k H ⟨m2, S2, X2, d, S', e, q⟩
    have hm2 : m2 n = L := by rw [X2.ag n hln]; exact hml
    have X02 := X0.trans (XA.trans X2)
    have E2 := E.ext X02
    cases k with
    | zero => cases e
    | succ k =>
      simp only [dcL] at e
      obtain ⟨ok1, ok2⟩ := OK m2 S2 H i (XA.trans X2).x
      split at e
      · rename_i d0 hd
        obtain ⟨go, yl⟩ := ok1 d0 hd
        refine .inr ⟨go, fun H => ∃ m2 S2, Ext mA m2 SA S2 HA H ∧ ∃ d S', dcL src n g ft fk fv (wipeE ρ vs) k (i + 1) S2 = .ok d S' ∧ ∀ m' H' v, Ext m2 m' S2 S' H H' → RD m' S'.len H' d v → Q v H', fun H' z => ⟨k, Nat.lt_succ_self k, z⟩, fun x H' y => ?_⟩
        obtain ⟨XY, rx⟩ := yl x H' y
        split at e
        · rename_i ρ1 S3 h3
          refine ⟨m2, S2, wipeE ρ vs, d0, ρ1, S3, XY.rel, (E2.ext XY).wipe vs, rx, h3, fun m3 H3 σ3 X3 E3 C3 => ⟨wipe_chg C3, ?_⟩⟩
          split at e
          · rename_i b S4 h4
            refine ⟨m3, S3, ρ1, b, S4, X3.rel, E3, h4, fun m4 H4 X4 => ?_⟩
            have X24 := XY.trans (X3.trans X4)
            cases b with
            | false =>
              dsimp only
              rw [if_neg Bool.false_ne_true]
              exact ⟨m4, S4, X2.trans X24, d, S', e, fun m' H' v X' r' => q m' H' v (X24.trans X') r'⟩
            | true =>
              dsimp only at e ⊢
              rw [if_pos rfl]
              split at e
              · rename_i y0 S5 h5
                refine ⟨m4, S4, ρ1, y0, S5, X4.rel, E3.ext X4, h5, fun m5 H5 v5 X5 r5 => ?_⟩
                split at e
                · rename_i z0 S6 h6
                  refine ⟨m5, S5, ρ1, z0, S6, X5.rel, (E3.ext X4).ext X5, h6, fun m6 H6 v6 X6 r6 => ?_⟩
                  split at e
                  · rename_i S7 h7
                    have X26 := X24.trans (X5.trans X6)
                    have hm6 : m6 n = L := by rw [X26.ag n (Nat.lt_of_lt_of_le hln X2.len)]; exact hm2
                    obtain ⟨H7, g7, X7⟩ := dput_ok X6.rel (RD.ext r5 X6) r6 h7
                    rw [hm6] at g7
                    exact ⟨H7, g7, m6, S7, X2.trans (X26.trans X7), d, S', e, fun m' H' v X' r' => q m' H' v (X26.trans (X7.trans X')) r'⟩
                  · cases e
                · cases e
              · cases e
          · cases e
        · cases e
      · rename_i hd
        cases e
        exact .inl ⟨ok2 hd, q m2 H _ (Ext.refl X2.rel) ⟨Nat.lt_of_lt_of_le hln X2.len, by rw [hm2]⟩⟩
      · cases e
variable {kx vx tg iter : Expr} {ifs : List Expr} {scope : Scope} {own : List (Str × Nat)} {pos : Pos} {fi : Iv} {g : Gv} {ft fk fv : Ev}
theorem pev_dc (t : DKd) (hu : X.A.units + 64 < cLine) (hc : X.calm = true) (hN : X.N.Nodup) (hi : PI X tg iter (rdI fi)) (ok : BlkOk X.N X.env.scope scope own)
    (hg : ∀ (s : Shared) (H : Hp) (C : Addr) (cl : List (Str × Addr)) (fp : List Addr), PG (X.blk s H scope (compEnvC scope cl C X.env) fp) tg (rdG (own.map (·.2)) g)) (ht : ∀ (s : Shared) (H : Hp) (C : Addr) (cl : List (Str × Addr)) (fp : List Addr), PTs (X.blk s H scope (compEnvC scope cl C X.env) fp) ifs (rdT ft))
    (hk : ∀ (s : Shared) (H : Hp) (C : Addr) (cl : List (Str × Addr)) (fp : List Addr), PE (X.blk s H scope (compEnvC scope cl C X.env) fp) kx (rdE fk))
    (he : ∀ (s : Shared) (H : Hp) (C : Addr) (cl : List (Str × Addr)) (fp : List Addr), PE (X.blk s H scope (compEnvC scope cl C X.env) fp) vx (rdE fv)) (hs : ∀ x, foldedSetIterable iter X.env x = pure x) :
    PE X (.DictComp kx vx [⟨tg, iter, ifs, 0⟩] scope pos) (rdE (evDc t fi (own.map (·.2)) g ft fk fv)) := by
  refine ⟨fun pins s σ H Q I h => ?_⟩
  rw [arm_eval_DictComp]
  have hob : ∀ (H : Hp) (h : Heap), sysModules < h.objs.size → ObjOk X.prog X.w H (h.push { cls := .type "dict", data := .dict #[] }) h.objs.size (newH t h.objs.size) := fun H1 hh hb => by
    cases t with
    | t => exact dt_empty hh hb
    | k => exact dk_empty hh hb
    | n => exact nd_empty hh
  refine dc_run hu hob hc hN I hi ok hg ht hk he hs (rd_dc h) fun B C s' m H' I' q hn f => ⟨m, hn, fun h'' sb => ?_⟩
  obtain ⟨f0, f1, f2, f3, f4, f5⟩ := f
  exact ⟨.ref B, H', I'.turned (t' := s'.toks) (fun b o hb e => (sb.2 b hb).trans e) f0 f1 f3 f4 f5, rfl, q⟩
theorem psv_setDc {i : Nat} {y : Str} {py spos : Pos} (t : DKd) (hu : X.A.units + 64 < cLine) (hc : X.calm = true) (hN : X.N.Nodup) (hy : X.N[i]? = some y) (hyl : X.env.scope.names.lookup y = some .local)
    (hsw : swapsWith (.DictComp kx vx [⟨tg, iter, ifs, 0⟩] scope pos) (some (.Name y py)) spos.line X.env = pure true) (hi : PI X tg iter (rdI fi)) (ok : BlkOk X.N X.env.scope scope own)
    (hg : ∀ (s : Shared) (H : Hp) (C : Addr) (cl : List (Str × Addr)) (fp : List Addr), PG (X.blk s H scope (compEnvC scope cl C X.env) fp) tg (rdG (own.map (·.2)) g)) (ht : ∀ (s : Shared) (H : Hp) (C : Addr) (cl : List (Str × Addr)) (fp : List Addr), PTs (X.blk s H scope (compEnvC scope cl C X.env) fp) ifs (rdT ft))
    (hk : ∀ (s : Shared) (H : Hp) (C : Addr) (cl : List (Str × Addr)) (fp : List Addr), PE (X.blk s H scope (compEnvC scope cl C X.env) fp) kx (rdE fk))
    (he : ∀ (s : Shared) (H : Hp) (C : Addr) (cl : List (Str × Addr)) (fp : List Addr), PE (X.blk s H scope (compEnvC scope cl C X.env) fp) vx (rdE fv)) (hs : ∀ x, foldedSetIterable iter X.env x = pure x) :
    PS X (.Assign [.Name y py] (.DictComp kx vx [⟨tg, iter, ifs, 0⟩] scope pos) spos) (rdS (svAsg (evDc t fi (own.map (·.2)) g ft fk fv) (gvName i))) := by
  refine ⟨fun pins s σ H D I h => ?_⟩
  rw [exec_Assign_Name_used _ _ _ _ hsw]
  refine wpAny_bind (wpAny_standAt (wpAny_bind ?_))
  have h2 : rdE (evDc t fi (own.map (·.2)) g ft fk fv) σ H (fun x H1 => gName i x σ H1 D.nx) := by
    obtain ⟨m, S, ρ, d, S1, R, E, h1, q⟩ := rd_asg (sl := [i]) h
    refine ⟨m, S, ρ, d, S1, R, E, h1, fun m1 H1 v1 X1 r1 => ?_⟩
    obtain ⟨m2, S2, ρ2, d2, ρ', S', R2, E2, r2, e2, q2⟩ := q m1 H1 v1 X1 r1
    cases e2
    exact q2 m2 H1 _ (Ext.refl R2) (E2.set i r2) (Chg.set (List.mem_singleton.mpr rfl) _)
  have hob : ∀ (H : Hp) (h : Heap), sysModules < h.objs.size → ObjOk X.prog X.w H (h.push { cls := .type "dict", data := .dict #[] }) h.objs.size (newH t h.objs.size) := fun H1 hh hb => by
    cases t with
    | t => exact dt_empty hh hb
    | k => exact dk_empty hh hb
    | n => exact nd_empty hh
  show wpAny _ X.A (do let _ ← comprehension (.DictComp kx vx [⟨tg, iter, ifs, 0⟩] scope pos) scope X.env (firstIterPos [⟨tg, iter, ifs, 0⟩] pos) newDict false (eval iter X.env) (some (assign (.Name y py) X.env))) _ _ s
  refine wpAny_bind (thn (dc_run (Qf := fun _ s' => SP X pins D .next s') hu hob hc hN I hi ok hg ht hk he hs (rd_dc h2) fun L C s' m H' I' q hn f => ?_) fun _ s' hq => wpAny_pure (wpAny_pure hq))
  show wpAny _ _ (assign (.Name y py) X.env (.ref L)) _ _ _
  refine wpAny_assign_Name (store_ok2 (v := V.ref L) I' hN hy (.inl hyl) rfl (fun s2 I2 ⟨a, sb, ha⟩ => ?_) (.inr hyl))
  obtain ⟨f0, f1, f2, f3, f4, f5⟩ := f
  have haC : C ≠ a := by
    rcases ha with z | z
    · rw [z]; exact f1
    · exact fun e => f4 y a z e.symm
  refine ⟨m, hn.sameBut sb haC, fun h3 sb3 => ?_⟩
  exact ⟨_, H', I2.turned (t' := s2.toks) (fun b o hb e => (sb3.2 b hb).trans e) f0 f1 f3 f4 f5, q⟩
/-! ### list() -/
def listT : List D → Sto → Res D
  | [.ref n], S => match S.objs[n]? with
    | some (.dctT kvs) => newL S (kvs.map (·.1))
    | _ => listN [.ref n] S
  | ds, S => listN ds S
theorem kDs_rd {m : Nat → Addr} {k : Nat} {H : Hp} : ∀ (qs : List Key), RDs m k H (qs.map Sw.kD) (qs.map kV)
  | [] => rfl
  | q :: qs => ⟨_, _, rfl, by cases q <;> rfl, kDs_rd qs⟩
theorem keys_rd {m : Nat → Addr} {k : Nat} {H : Hp} : ∀ {kvs : List (D × D)} {ps : List (List Key × V)} {bs : List Addr}, RKv m k H kT kvs ps → IsKeys H ps bs → RDs m k H (kvs.map (·.1)) (bs.map V.ref)
  | [], ps, bs, h, hk => by
    cases (show ps = [] from h)
    cases hk
    rfl
  | (a, d) :: r, ps, bs, h, hk => by
    obtain ⟨q, v, ps', rfl, rfl, h3, h4⟩ := h
    cases hk with
    | cons h1 h2 => exact ⟨_, _, rfl, ⟨_, _, rfl, h1, kDs_rd q⟩, keys_rd h4 h2⟩
theorem crv_listT (hc : X.calm = true) : CallR X (.type "list") (rdN listT) := by
  intro pins s σ H xs us Q I r h
  obtain ⟨m, S, ds, d, S', R, rr, e, q⟩ := h
  unfold listT at e
  split at e
  · rename_i n
    split at e
    · rename_i kvs ho
      obtain ⟨v, rfl, hn, rfl⟩ := rr.one1
      obtain ⟨ps, h1, h2⟩ := R.obj _ _ ho
      refine call_list_dT hc pins s σ H _ us Q I r ⟨m n, ps, rfl, .inl h1, fun p bs hp hk => ?_⟩
      cases e
      exact goLst R (keys_rd h2 hk) q p hp
    · exact crv_list pins s σ H xs us Q I r ⟨m, S, _, d, S', R, rr, e, q⟩
  · exact crv_list pins s σ H xs us Q I r ⟨m, S, ds, d, S', R, rr, e, q⟩
end
end Sw

/-! Eng12v: l.index(x), x in l; l.clear(). -/
namespace Sw
open PySem PySem.Spec PyProof.Rows L2
def idxM (n : Nat) : List D → Sto → Res D
  | [x], S => match S.list? n with
    | some xs => match resPairs S xs with
      | some ps => match res S x with
        | some p => match Nat.ble p.depth 60 with
          | true => match SeqAt.dataPlace (ps.map (·.1)) p with
            | some j => .ok (.int ((j : Nat) : Int)) S
            | none => .bad
          | false => .bad
        | none => .bad
      | none => .bad
    | none => .bad
  | _, _ => .bad
section
variable {X : Cx}
theorem mtv_index (hu : X.A.units + 64 < cLine) : MtR X "list.index" (rdM idxM) := by
  intro pins s σ H x xs v us Q I rx rv h
  obtain ⟨m, S, n, ds, d, S', R, r, rs, e, q⟩ := h
  unfold idxM at e
  split at e
  · rename_i d0
    obtain ⟨w, rfl, hw⟩ := rs.one1
    split at e
    · rename_i ys hl
      split at e
      · rename_i ps hps
        split at e
        · rename_i p hp
          split at e
          · rename_i hdp
            split at e
            · rename_i j hj
              cases e
              obtain ⟨vs, h1, h2, _⟩ := R.sqL (K := X.K) hl
              obtain ⟨its, rv', pl, hz⟩ := I.list h1
              rw [r.2] at rx
              cases rx
              obtain ⟨u, rfl, ru⟩ := rv.one
              obtain ⟨as, ra, pa⟩ := resPairs_all I R h2 rv' hps
              obtain ⟨d1, p1⟩ := res_dp R hw hp
              obtain ⟨bs, rb⟩ := Dp.reads I p w _ d1 ru
              have hd := Nat.le_of_ble_eq_true hdp
              obtain ⟨⟨cls, dd, data, sl⟩, ho, hc, nn, hd'⟩ := id pl.isList
              simp only at hc hd'
              subst hc hd'
              obtain ⟨hj1, hit, hno⟩ := SeqAt.hit_at ra pa hj
              have hvl := rv'.length
              have hsl := sizeLine_eq
              have hmn : min (PyData.depthAll (ps.map (·.1))) p.depth ≤ p.depth := Nat.min_le_right _ _
              have hjs : j < its.length := by simpa using hj1
              refine call_meets PySem.F.slot_list_index ⟨_, ho, rfl⟩ PySem.F.entry_list_index (PySem.F.args_list_index_2 _ _)
                (SeqAt.list_indexAt _ its.toArray nn dd sl u (fun z => PyData.eqv (SeqAt.readOf s.heap z) p) j hj1 (by omega) hit hno) ⟨ho, SeqAt.items_plain ra rb pa p1 (by omega), ?_⟩
              exact ⟨.int (j : Nat), H, I.tok _, ⟨_, rfl⟩, rdPure R q rfl⟩
            · cases e
          · cases e
        · cases e
      · cases e
    · cases e
  · cases e
end
end Sw

/-! Eng12gN: {k: v} with a k of tuples within tuples. -/
namespace Sw
open PySem PySem.Spec PyProof.Rows L2
def evDispN (fk fv : Ev) : Ev := fun ρ S => match fk ρ (S.add (.dctN [])) with
  | .ok k S1 => match fv ρ S1 with
    | .ok v S2 => match S2.objs[S.len]? with
      | some (.dctN []) => match S2.dput S.len k v with
        | some S3 => .ok (.ref S.len) S3
        | none => .bad
      | _ => .bad
    | .bad => .bad
  | .bad => .bad
section
variable {X : Cx} {k v : Expr} {pos : Pos} {fk fv : Ev}
theorem nd_nil {P : Program} {w : World} {H : Hp} {h : Heap} {a : Addr} {xs : List NE} (ok : HOk P w H h) (n : NAt H a xs) (n0 : NAt H a []) : xs = [] := by
  obtain ⟨ys, r, o, es, ep, h1, h2, h3, h4, _⟩ := nd_of ok n
  obtain ⟨ys', r', o', es', ep', k1, k2, k3, k4, _⟩ := nd_of ok n0
  rw [h1] at k1
  cases k1
  rw [h3] at k3
  cases k3
  cases r'
  rw [h4] at k4
  have : ys = [] := by simpa using k4
  subst this
  cases r
  rfl
theorem pev_dispN (hu : X.A.units + 64 < cLine) (hk : PE X k (rdE fk)) (hv : PE X v (rdE fv)) : PE X (.Dict [some k] [v] pos) (rdE (evDispN fk fv)) := by
  refine ⟨fun pins s σ H Q I h => ?_⟩
  obtain ⟨m, S, ρ, d, S', R, E, e, q⟩ := h
  unfold evDispN at e
  have new : H s.heap.objs.size = none := I.hok.fresh (Nat.le_refl _)
  have I1 := I.laid (a := s.heap.objs.size) (o := NDict s.heap.objs.size []) (h' := s.heap.push { cls := .type "dict", data := .dict #[] }) (t' := s.toks) (fun _ _ z => Heap.get?_push_of_some _ z) (Nat.le_refl _) (nd_empty s.heap)
  have XA : Ext m (withAt m S.len s.heap.objs.size) S (S.add (.dctN [])) H (upd H s.heap.objs.size (NDict s.heap.objs.size [])) := Ext.add R new ⟨[], nat_empty I.big, rfl⟩
  have hml : withAt m S.len s.heap.objs.size S.len = s.heap.objs.size := withAt_same ..
  have hln : S.len < (S.add (.dctN [])).len := by rw [Sto.add_len]; exact Nat.lt_succ_self _
  generalize withAt m S.len s.heap.objs.size = mA at XA hml
  generalize S.add (.dctN []) = SA at e XA hln
  split at e
  · rename_i kd S1 h1
    split at e
    · rename_i vd S2 h2
      split at e
      · rename_i ho
        split at e
        · rename_i S3 h3
          cases e
          have go : rdE fk σ (upd H s.heap.objs.size (NDict s.heap.objs.size [])) fun x H1 => rdE fv σ H1 fun y H2 => NAt H2 s.heap.objs.size [] ∧ ∃ xs q b, NAt H2 s.heap.objs.size xs ∧ x = .ref b ∧ NK H2 q (.ref b) ∧ q.depth ≤ 8 ∧ Q (.ref s.heap.objs.size) (upd H2 s.heap.objs.size (NDict s.heap.objs.size (putN xs q b y))) := by
            refine ⟨mA, SA, ρ, kd, S1, XA.rel, E.ext XA, h1, fun m1 H1 x X1 r1 => ⟨m1, S1, ρ, vd, S2, X1.rel, (E.ext XA).ext X1, h2, fun m2 H2 y X2 r2 => ?_⟩⟩
            obtain ⟨H3, g, X3⟩ := dput_ok X2.rel (RD.ext r1 X2) r2 h3
            have hm2 : m2 S.len = s.heap.objs.size := by rw [X2.ag _ (Nat.lt_of_lt_of_le hln X1.len), X1.ag _ hln]; exact hml
            obtain ⟨xs, g1, g2⟩ := X2.rel.obj _ _ ho
            cases (show xs = [] from g2)
            rw [hm2] at g1 g
            rcases g with (⟨kvs, kk, z, _⟩ | ⟨kvs, kk, b, z, _⟩) | ⟨xs, q', b, z1, z2, z3, z4, z5, z6⟩
            · rw [g1.at_] at z; unfold NDict at z; cases z
            · rw [g1.at_] at z; unfold NDict at z; cases z
            · refine ⟨g1, xs, q', b, z1, z2, z3, z4, ?_⟩
              have XX := XA.trans (X1.trans (X2.trans X3))
              have := q m2 H3 (.ref s.heap.objs.size) XX ⟨Nat.lt_of_lt_of_le hln (Nat.le_trans X1.len (Nat.le_trans X2.len X3.len)), by rw [hm2]⟩
              rw [z6] at this
              exact this
          rw [arm_eval_Dict, zip_pairTrees [some k] [v] X.env pos rfl rfl, dictDisplay_pairs (pairTrees [some k] [v] X.env pos) (by intro z; cases z) (by show (1 : Nat) < 17; omega)]
          refine wpAny_bind (wpAny_standAt (wpAny_bind (wpAny_subDictH (knd := nestedKind X.prog X.w) (by show X.A.units + 8 < cLine; omega) (by show (1 : Nat) ≤ 15; omega) ?_)))
          refine pairTrees_cons_walk (thn (hk.run pins _ σ _ _ I1 go) fun ku sa ⟨x, Ha, Ia, rx, qa⟩ => thn (hv.run pins sa σ Ha _ Ia qa) fun vu sb ⟨y, Hb, Ib, ry, g1, xs, ks, b, gx, ex, eb, ed, qq⟩ => pairTrees_nil_walk ?_)
          subst ex
          have ex := nd_nil Ib.hok gx g1
          subst ex
          cases (show ku = Value.ref b from rx)
          obtain ⟨ys, rel, dd⟩ := nd_of Ib.hok g1
          have hx : ys = [] := by cases rel; rfl
          subst hx
          refine ⟨[(ks, b, vu)], ⟨rfl, rfl, dn_is Ib eb ed, trivial⟩, dd, fun h' tk dd' hs => wpAny_pure ?_⟩
          refine ⟨.ref s.heap.objs.size, _, ?_, rfl, qq⟩
          have he : ∃ z, h'.get? s.heap.objs.size = some z := let ⟨z, _, _, hq, _⟩ := dd'; ⟨z, hq⟩
          exact d_write Ib (by rw [g1.at_]; exact True.intro) hs he (nd_ok (rel.put ks b ry) dd' (g1.put eb ed (by rw [sizeLine_eq]; simp)).keys)
        · cases e
      · cases e
    · cases e
  · cases e
end
end Sw

/-! Eng12x: min(l, default=None) over data. -/
namespace Sw
open PySem PySem.Spec PyProof.Rows L2
def minBy (x : PyData × D) (l : List (PyData × D)) : PyData × D := l.foldl (fun a y => if PySem.W.dataLt y.1 a.1 then y else a) x
def minDfN : List D → Sto → Res D
  | [.ref n], S => match S.list? n with
    | some xs => match resPairs S xs with
      | some ps => match sortOk ps && ps.all fun p => p.2.blw 0 with
        | true => match ps with
          | [] => .ok .non S
          | p :: r => .ok (minBy p r).2 S
        | false => .bad
      | none => .bad
    | none => .bad
  | _, _ => .bad
theorem minBy_mem : ∀ (l : List (PyData × D)) (x : PyData × D), minBy x l ∈ x :: l
  | [], x => by simp [minBy]
  | y :: l, x => by
    have e : minBy x (y :: l) = minBy (if PySem.W.dataLt y.1 x.1 then y else x) l := rfl
    rw [e]
    rcases List.mem_cons.mp (minBy_mem l (if PySem.W.dataLt y.1 x.1 then y else x)) with h | h
    · rw [h]; split <;> simp
    · exact List.mem_cons_of_mem _ (List.mem_cons_of_mem _ h)
theorem minBy_fst : ∀ (l : List (PyData × D)) (x : PyData × D), (minBy x l).1 = PySem.W.minD x.1 (l.map (·.1))
  | [], x => rfl
  | y :: l, x => by
    have e : minBy x (y :: l) = minBy (if PySem.W.dataLt y.1 x.1 then y else x) l := rfl
    rw [e, minBy_fst l]
    unfold PySem.W.minD
    rw [List.map_cons, List.foldl_cons]
    congr 1
    split <;> rfl
mutual
/-- things without places are told by what they read as -/
theorem unres : ∀ (r r' : Nat → Option PyData) (d d' : D) (p : PyData), d.blw 0 = true → d'.blw 0 = true → resW r d = some p → resW r' d' = some p → d = d'
  | r, r', .non, d', p, h, h', e, e' => by
    simp only [resW] at e; cases e
    cases d' <;> simp only [resW] at e' <;> first | rfl | (cases e'; done) | (split at e' <;> cases e') | (simp [D.blw] at h')
  | r, r', .bl b, d', p, h, h', e, e' => by
    simp only [resW] at e; cases e
    cases d' <;> simp only [resW] at e' <;> first | (cases e'; rfl) | (cases e'; done) | (split at e' <;> cases e') | (simp [D.blw] at h')
  | r, r', .int b, d', p, h, h', e, e' => by
    simp only [resW] at e; cases e
    cases d' <;> simp only [resW] at e' <;> first | (cases e'; rfl) | (cases e'; done) | (split at e' <;> cases e') | (simp [D.blw] at h')
  | r, r', .str b, d', p, h, h', e, e' => by
    simp only [resW] at e; cases e
    cases d' <;> simp only [resW] at e' <;> first | (cases e'; rfl) | (cases e'; done) | (split at e' <;> cases e') | (simp [D.blw] at h')
  | r, r', .ref b, d', p, h, h', e, e' => by simp [D.blw] at h
  | r, r', .tup xs, d', p, h, h', e, e' => by
    simp only [resW] at e
    split at e
    · rename_i ds hd
      cases e
      cases d' <;> simp only [resW] at e' <;> first | (cases e'; done) | (simp [D.blw] at h'; done) | skip
      rename_i ys
      split at e'
      · rename_i ds' hd'
        cases e'
        simp only [D.blw] at h h'
        rw [unress r r' xs ys _ h h' hd hd']
      · cases e'
    · cases e
theorem unress : ∀ (r r' : Nat → Option PyData) (ds ds' : List D) (ps : List PyData), D.blws 0 ds = true → D.blws 0 ds' = true → resWs r ds = some ps → resWs r' ds' = some ps → ds = ds'
  | r, r', [], ds', ps, h, h', e, e' => by
    simp only [resWs] at e; cases e
    cases ds' with
    | nil => rfl
    | cons y ys =>
      simp only [resWs] at e'
      split at e'
      · split at e' <;> cases e'
      · cases e'
  | r, r', d :: ds, ds', ps, h, h', e, e' => by
    simp only [resWs] at e
    split at e
    · rename_i q hq
      split at e
      · rename_i qs hqs
        cases e
        cases ds' with
        | nil => simp only [resWs] at e'; cases e'
        | cons y ys =>
          simp only [resWs] at e'
          split at e'
          · rename_i q' hq'
            split at e'
            · rename_i qs' hqs'
              cases e'
              obtain ⟨h1, h2⟩ := Bool.and_eq_true_iff.mp (by simpa only [D.blws] using h : (D.blw 0 d && D.blws 0 ds) = true)
              obtain ⟨h3, h4⟩ := Bool.and_eq_true_iff.mp (by simpa only [D.blws] using h' : (D.blw 0 y && D.blws 0 ys) = true)
              rw [unres r r' d y _ h1 h3 hq hq', unress r r' ds ys _ h2 h4 hqs hqs']
            · cases e'
          · cases e'
      · cases e
    · cases e
end
section
variable {X : Cx}
theorem each_get {α β : Type} {R : α → β → Prop} : ∀ {us : List α} {ps : List β}, PySem.W.EachIs R us ps → ∀ (i : Nat) (u : α), us[i]? = some u → ∃ b, ps[i]? = some b ∧ R u b
  | _, _, .nil, i, u, h => by simp at h
  | _, _, .cons r t, 0, u, h => by
    simp only [List.getElem?_cons_zero, Option.some.injEq] at h
    subst h
    exact ⟨_, rfl, r⟩
  | _, _, .cons r t, i + 1, u, h => by
    simp only [List.getElem?_cons_succ] at h ⊢
    exact each_get t i u h
theorem resPairs_res {S : Sto} : ∀ {xs : List D} {ps : List (PyData × D)}, resPairs S xs = some ps → ∀ b ∈ ps, res S b.2 = some b.1
  | [], ps, h, b, hb => by cases h; simp at hb
  | d :: xs, ps, h, b, hb => by
    unfold resPairs at h
    split at h
    · rename_i p hp
      split at h
      · rename_i ps' hps
        cases h
        rcases List.mem_cons.mp hb with rfl | hb
        · exact hp
        · exact resPairs_res hps b hb
      · cases h
    · cases h
theorem depthAll_le {n : Nat} : ∀ {l : List PyData}, (∀ x ∈ l, x.depth ≤ n) → PyData.depthAll l ≤ n
  | [], _ => by simp only [PyData.depthAll]; omega
  | x :: l, h => by
    have h1 := h x (by simp)
    have h2 := depthAll_le (l := l) fun y hy => h y (by simp [hy])
    simp only [PyData.depthAll]
    omega
theorem crk_min (hc : X.calm = true) (hu : X.A.units + 64 < cLine) : CallRK X (.builtin "min") ["default"] fun xs zs H Q => zs = [V.non] ∧ rdN minDfN xs H Q := by
  intro pins s σ H xs zs us ws Q I r rz ⟨hz, h⟩
  subst hz
  obtain ⟨u0, rfl, ru0⟩ := rz.one
  obtain ⟨m, S, ds, d, S', R, rr, e, q⟩ := h
  unfold minDfN at e
  split at e
  · obtain ⟨v, rfl, hn, rfl⟩ := rr.one1
    split at e
    · rename_i ys hl
      split at e
      · rename_i ps hps
        split at e
        · rename_i hok
          obtain ⟨hok, hfl⟩ := Bool.and_eq_true_iff.mp hok
          obtain ⟨vs, h1, h2, _⟩ := R.sqL (K := X.K) hl
          obtain ⟨its, rv, pl, hz⟩ := I.list h1
          rw [Vals.ref1 r]
          obtain ⟨e1, e2⟩ := resPairs_each I R h2 rv hps
          obtain ⟨as, ra, pa⟩ := resPairs_all I R h2 rv hps
          obtain ⟨o1, o2, o3, o4⟩ := sortOk_ok hok
          have hal : PySem.W.AlikeAll (ps.map (·.1)) := ⟨o1, fun x hx hn => by
            subst hn
            rcases o2 with o2 | o2
            · obtain ⟨_, _, ho⟩ := o2 _ hx
              cases ho
            · exact (o2 _ hx).1 rfl⟩
          have hdp : PyData.depthAll (ps.map (·.1)) ≤ 60 := depthAll_le fun x hx => by
            obtain ⟨b, hb, rfl⟩ := List.mem_map.mp hx
            exact o3 b hb
          have hbl : u0 = .none := by cases ru0; rfl
          subst hbl
          refine PySem.W.min_list_default (I.ok.hd hc) pl.isList ra hal (by omega) (fun h0 h' tk hk => ?_) fun y ys' i v h' tk bs hy hv hr hk => ?_
          · have : ps = [] := by simpa using h0
            subst this
            cases e
            exact ⟨.non, H, I.kept hk, rfl, q m H .non (Ext.refl R) rfl⟩
          · cases ps with
            | nil => simp at hy
            | cons p r0 =>
              cases e
              simp only [List.map_cons, List.cons.injEq] at hy
              obtain ⟨rfl, rfl⟩ := hy
              rw [← minBy_fst] at hr
              obtain ⟨b, hb1, vv, z1, r1⟩ := each_get e1 i v (by simpa using hv)
              obtain ⟨b', hb2, as', r2⟩ := each_get e2 i v (by simpa using hv)
              rw [hb1] at hb2
              cases hb2
              have hd := (PyProof.Rows.reads_det (fun b o h _ => hk b o h) r2 hr).1
              have m1 : b ∈ p :: r0 := List.mem_of_getElem? hb1
              have m2 := minBy_mem r0 p
              have f1 := List.all_eq_true.mp hfl b m1
              have f2 := List.all_eq_true.mp hfl _ m2
              have q1 := resPairs_res hps b m1
              have q2 := resPairs_res hps _ m2
              rw [hd] at q2
              have := unres _ _ b.2 (minBy p r0).2 b.1 f1 f2 q1 q2
              exact ⟨vv, H, I.kept hk, z1, q m H vv (Ext.refl R) (this ▸ r1)⟩
        · cases e
      · cases e
    · cases e
  · cases e
theorem pev_minK {p pos : Pos} {e : Expr} {es : List Expr} {kws : List Keyword} {g h : EvA} (hc : X.calm = true) (hu : X.A.units + 64 < cLine) (hg : Gl X "min") (hm : X.mg "min" = none) (ha : PA X (e :: es) (rdA g)) (hk : PK X kws (rdA h)) (hh : ∀ ρ S, h ρ S = .ok [.non] S)
    (he : starEach (e :: es) X.env = (false, eval e X.env) :: starEach es X.env) (hpl : (backTo pos (starEach es X.env)).any (·.1) = false)
    (hall : (backToKw pos (keywordEach kws X.env)).all (·.1.isSome) = true) (hnone : (backToKw pos (keywordEach kws X.env)).any (·.1.isNone) = false) (hks : (backToKw pos (keywordEach kws X.env)).filterMap (·.1) = [("default" : Str)]) :
    PE X (.Call (.Name "min" p) (e :: es) kws pos) (rdE (evN minDfN g)) := by
  have hb : backTo pos (starEach (e :: es) X.env) = (false, eval e X.env) :: backTo pos (starEach es X.env) := by rw [he]; rfl
  refine PE.of (pe_callBK (crk_min hc hu) hg hm boot_min ha hk (by decide) (by decide) hb (by rw [hb, List.any_cons, hpl]; rfl) hall hnone hks) fun σ H Q h0 => ?_
  obtain ⟨m, S, ρ, d, S', R, E, e1, q⟩ := h0
  unfold evN at e1
  split at e1
  · rename_i ds S1 h1
    exact ⟨m, S, ρ, ds, S1, R, E, h1, fun m1 H1 vs X1 r1 => ⟨m1, S1, ρ, [.non], S1, X1.rel, E.ext X1, hh _ _, fun m2 H2 ws X2 r2 => ⟨by
      obtain ⟨v, rfl, hv⟩ := RDs.one1 r2
      rw [show v = .non from hv], m2, S1, ds, d, S', X2.rel, r1.ext X2, e1, fun m3 H3 v X3 r3 => q m3 H3 v ((X1.trans X2).trans X3) r3⟩⟩⟩
  · cases e1
end
end Sw

/-! Eng13: the small syntax, its evaluator, and the translation of Python's syntax into it. -/
namespace Sw
open PySem PySem.Spec PyProof.Rows L2
inductive Bo where
  | add | sub | mul | fdiv | mod | pow
inductive Co where
  | eq | ne | lt | le | gt | ge | is_in | notIn | is | isNot
inductive Bi where
  | len | int | min | max | all | any | sum | tuple | list | sorted | repr | dict | minN
inductive Me where
  | append | pop | get | count | index
inductive Ao where
  | add | sub
mutual
inductive G where
  | name (i : Nat)
  | tup (n : Nat) (gs : Gs)
  | bad
inductive Gs where
  | nil
  | cons (g : G) (gs : Gs)
end
mutual
inductive E where
  | lit (d : D)
  | var (i : Nat)
  | bin (o : Bo) (a b : E)
  | cmp (o : Co) (a b : E)
  | chain (o p : Co) (a b c : E)
  | neg (a : E)
  | not (a : E)
  | and (a b : E)
  | or (a b : E)
  | ite (c a b : E)
  | tup (es : Es)
  | lst (es : Es)
  | dnew (t : Bool)
  | dnewN
  | ix (a b : E)
  | sl (a : E) (lo hi : Eo)
  | call (f : Nat) (es : Es)
  | callk (f : Nat) (pm : List Nat) (es ks : Es)
  | bi (b : Bi) (es : Es)
  | isi (ts : List Tn) (a : E)
  | meth (m : Me) (o : E) (es : Es)
  | comp (it : I) (vs : List Nat) (g : G) (t e : E)
  | comp2 (it : I) (vs : List Nat) (g : G) (t : E) (it1 : I) (vs1 : List Nat) (g1 : G) (t1 e : E)
  | scl (it : I) (vs : List Nat) (g : G) (t e : E)
  | sct (it : I) (vs : List Nat) (g : G) (t e : E)
  | disp (k v : E)
  | dispN (k v : E)
  | dispk (es : Es)
  | rev (a : E)
  | lenum (es : Es)
  | tenum (es : Es)
  | lset (es : Es)
  | lstT (es : Es)
  | dcomp (tk : Bool) (it : I) (vs : List Nat) (g : G) (t k v : E)
  | dcompN (it : I) (vs : List Nat) (g : G) (t k v : E)
  | bad
inductive Es where
  | nil
  | cons (e : E) (es : Es)
  | star (e : E) (es : Es)
inductive Eo where
  | none
  | some (e : E)
inductive I where
  | e (a : E)
  | range1 (es : Es)
  | range2 (es : Es)
  | enum (es : Es)
  | zip (es : Es)
  | bad
end
mutual
inductive T where
  | expr (e : E)
  | ret (e : E)
  | asg (e : E) (g : G)
  | aug (i : Nat) (o : Ao) (e : E)
  | put (o i v : E)
  | ite (c : E) (a b : Ts)
  | wh (n : Nat) (c : E) (b : Ts)
  | fo (it : I) (g : G) (b : Ts)
  | pass
  | brk
  | cont
  | bad
inductive Ts where
  | nil
  | cons (s : T) (ss : Ts)
end

/-! ### the evaluator -/
def boD : Bo → D → D → Sto → Res D
  | .add => addD
  | .sub => subD
  | .mul => mulD2
  | .fdiv => fdivD
  | .mod => modD
  | .pow => powD
def coD : Co → D → D → Sto → Res D
  | .eq => eqD
  | .ne => neD
  | .lt => ltD
  | .le => leD
  | .gt => gtD
  | .ge => geD
  | .is_in => inD
  | .notIn => notInD
  | .is => isD
  | .isNot => isNotD
def biN : Bi → List D → Sto → Res D
  | .len => lenN
  | .int => intN
  | .min => minN2
  | .minN => minDfN
  | .max => maxN
  | .all => blN fun bs => bs.all id
  | .any => blN fun bs => bs.any id
  | .sum => sumN
  | .tuple => tupleN
  | .list => listN
  | .sorted => sortedN
  | .repr => reprN
  | .dict => dictN
def evMe : Me → Ev → EvA → Ev
  | .append => evM isLst appM
  | .pop => evM isLst popM
  | .get => evM isDct getM
  | .count => evM isLst cntM
  | .index => evM isLst idxM
def aoD : Ao → D → D → Sto → Res D
  | .add => iaddD
  | .sub => isubD
def evBad : Ev := fun _ _ => .bad
mutual
def gv : G → Gv
  | .name i => gvName i
  | .tup n gs => gvTup n (gvs gs)
  | .bad => fun _ _ _ => .bad
def gvs : Gs → Gvs
  | .nil => gvNil
  | .cons g gs => gvCons (gv g) (gvs gs)
end
mutual
def G.slots : G → List Nat
  | .name i => [i]
  | .tup _ gs => gs.slots
  | .bad => []
def Gs.slots : Gs → List Nat
  | .nil => []
  | .cons g gs => g.slots ++ gs.slots
end
mutual
def ev (F : Nat → Fn) : E → Ev
  | .lit d => evC d
  | .var i => evV i
  | .bin o a b => ev2 (boD o) (ev F a) (ev F b)
  | .cmp o a b => ev2 (coD o) (ev F a) (ev F b)
  | .chain o p a b c => evChain (coD o) (coD p) (ev F a) (ev F b) (ev F c)
  | .neg a => ev1 negD (ev F a)
  | .not a => ev1 notD (ev F a)
  | .and a b => evAnd (ev F a) (ev F b)
  | .or a b => evOr (ev F a) (ev F b)
  | .ite c a b => evIf (ev F c) (ev F a) (ev F b)
  | .tup es => evN tupN (evs F es)
  | .lst es => evN lstN (evs F es)
  | .dnew t => match t with
    | true => dNewT
    | false => dNewK
  | .dnewN => dNewN
  | .ix a b => ev2 ixD (ev F a) (ev F b)
  | .sl a lo hi => evSl (ev F a) (evo F lo) (evo F hi)
  | .call f es => evN (F f) (evs F es)
  | .callk f pm es ks => evKw (F f) pm (evs F es) (evs F ks)
  | .bi b es => evN (biN b) (evs F es)
  | .isi ts a => ev1 (isiD ts) (ev F a)
  | .meth m o es => evMe m (ev F o) (evs F es)
  | .comp it vs g t e => evComp (evi F it) vs (gv g) (ev F t) (ev F e)
  | .comp2 it vs g t it1 vs1 g1 t1 e => evComp2 (evi F it) vs (gv g) (ev F t) (evi F it1) vs1 (gv g1) (ev F t1) (ev F e)
  | .sct it vs g t e => evScT (evi F it) vs (gv g) (ev F t) (ev F e)
  | .scl it vs g t e => evN lenSN (evCons (evSc (evi F it) vs (gv g) (ev F t) (ev F e)) evNil)
  | .disp k v => evDisp (ev F k) (ev F v)
  | .dispN k v => evDispN (ev F k) (ev F v)
  | .dispk es => evDispK (evs F es)
  | .rev a => ev1 revD (ev F a)
  | .lenum es => evN lenumN (evs F es)
  | .tenum es => evN tenumN (evs F es)
  | .lset es => evN lsetN (evs F es)
  | .lstT es => evN listT (evs F es)
  | .dcompN it vs g t k v => evDc .n (evi F it) vs (gv g) (ev F t) (ev F k) (ev F v)
  | .dcomp tk it vs g t k v => evDc (.of tk) (evi F it) vs (gv g) (ev F t) (ev F k) (ev F v)
  | .bad => evBad
def evs (F : Nat → Fn) : Es → EvA
  | .nil => evNil
  | .cons e es => evCons (ev F e) (evs F es)
  | .star e es => evStar (ev F e) (evs F es)
def evo (F : Nat → Fn) : Eo → Option Ev
  | .none => Option.none
  | .some e => Option.some (ev F e)
def evi (F : Nat → Fn) : I → Iv
  | .e a => ivE (ev F a)
  | .range1 es => ivR1 (evs F es)
  | .range2 es => ivR2 (evs F es)
  | .enum es => ivEnum (evs F es)
  | .zip es => ivZip (evs F es)
  | .bad => fun _ _ => .bad
end
mutual
def sv (F : Nat → Fn) : T → Sv
  | .expr e => svExpr (ev F e)
  | .ret e => svRet (ev F e)
  | .asg e g => svAsg (ev F e) (gv g)
  | .aug i o e => svAug i (aoD o) (ev F e)
  | .put o i v => svPut (ev F o) (ev F i) (ev F v)
  | .ite c a b => svIf (ev F c) (svs F a) (svs F b)
  | .wh n c b => svWhile (ev F c) (svs F b) n
  | .fo it g b => svForI (evi F it) (gv g) (svs F b)
  | .pass => svNext
  | .brk => fun ρ S => .bk ρ S
  | .cont => fun ρ S => .ct ρ S
  | .bad => fun _ _ => .bad
def svs (F : Nat → Fn) : Ts → Sv
  | .nil => svNext
  | .cons s ss => svSeq (sv F s) (svs F ss)
end

/-! ### the translation -/
structure CC where
  N : List Str
  sc : Scope
  fn : Str → Bool
  fs : List Str
  cs : List (Str × D)
  tk : Bool
  wn : Nat
  pl : List (Str × List Str) := []
  tn : Bool := false
def CC.dk (C : CC) : DKd := match C.tn with
  | true => .n
  | false => .of C.tk
def dcE (C : CC) (it : I) (vs : List Nat) (g : G) (t k v : E) : E := match C.tn with
  | true => .dcompN it vs g t k v
  | false => .dcomp C.tk it vs g t k v
def dnE (C : CC) : E := match C.tn with
  | true => .dnewN
  | false => .dnew C.tk
def isDbg (x : Str) : Bool := (x == ("__debug__" : Str)) || (x == ("__classdict__" : Str)) || (x == ("__name__" : Str))
def cName (C : CC) (x : Str) : E := match isDbg x with
  | true => .bad
  | false => match C.sc.names.lookup x with
    | some .globalImplicit => match C.cs.lookup x with
      | some d => .lit d
      | none => .bad
    | some .globalExplicit => .bad
    | some _ => match C.N.findIdx? (· == x) with
      | some i => .var i
      | none => .bad
    | none => .bad
def cConst : Const → E
  | .none => .lit .non
  | .bool b => .lit (.bl b)
  | .int i => .lit (.int i)
  | .str x => .lit (.str x)
  | _ => .bad
def cBo : Operator → Option Bo
  | .Add => some .add
  | .Sub => some .sub
  | .Mult => some .mul
  | .FloorDiv => some .fdiv
  | .Mod => some .mod
  | .Pow => some .pow
  | _ => none
def cCo : CmpOp → Co
  | .Eq => .eq
  | .NotEq => .ne
  | .Lt => .lt
  | .LtE => .le
  | .Gt => .gt
  | .GtE => .ge
  | .In => .is_in
  | .NotIn => .notIn
  | .Is => .is
  | .IsNot => .isNot
def cEs (f : Expr → E) : List Expr → Es
  | [] => .nil
  | .Starred e _ :: r => .star (f e) (cEs f r)
  | e :: r => .cons (f e) (cEs f r)
def cBs (f : Expr → E) (j : E → E → E) : List Expr → E
  | [] => .bad
  | [a] => f a
  | a :: b :: r => j (f a) (cBs f j (b :: r))
def cEo (f : Expr → E) : Option Expr → Eo
  | none => .none
  | some e => .some (f e)
def cPs (f : Expr → E) : List (Option Expr) → List Expr → Es
  | some k :: ks, v :: vs => .cons (f k) (.cons (f v) (cPs f ks vs))
  | _, _ => .nil
/-- a module's or built-in name -/
def isGl (C : CC) (x : Str) : Bool := (match C.sc.names.lookup x with
  | some .globalImplicit => true
  | _ => false) && !isDbg x
def biOf1 (x : Str) : Option Bi :=
  if x == ("len" : Str) then some .len else if x == ("int" : Str) then some .int else if x == ("min" : Str) then some .min else if x == ("max" : Str) then some .max else
  if x == ("all" : Str) then some .all else if x == ("any" : Str) then some .any else if x == ("sum" : Str) then some .sum else if x == ("tuple" : Str) then some .tuple else if x == ("list" : Str) then some .list else if x == ("sorted" : Str) then some .sorted else if x == ("repr" : Str) then some .repr else none
def biOf2 (x : Str) : Option Bi := if x == ("dict" : Str) then some .dict else none
def biOf (x : Str) : Option Bi := match biOf1 x with
  | some b => some b
  | none => biOf2 x
def tnOf (x : Str) : Option Tn :=
  if x == ("int" : Str) then some .int else if x == ("bool" : Str) then some .bool else if x == ("str" : Str) then some .str else if x == ("tuple" : Str) then some .tuple else if x == ("list" : Str) then some .list else if x == ("dict" : Str) then some .dict else none
def cIsi (C : CC) (f : Expr → E) (a t : Expr) : E := match t with
  | .Name y _ => match isGl C y, tnOf y with
    | true, some T => .isi [T] (f a)
    | _, _ => .bad
  | .Tuple [.Name y _, .Name z _] _ _ => match isGl C y && isGl C z, tnOf y, tnOf z with
    | true, some T, some U => .isi [T, U] (f a)
    | _, _, _ => .bad
  | _ => .bad
def cCall (C : CC) (f : Expr → E) (x : Str) (es : List Expr) : E := match isGl C x && es.all noStar with
  | true => match C.fs.findIdx? (· == x) with
    | some i => .call i (cEs f es)
    | none => match biOf x with
      | some b => match es with
        | [] => .bad
        | _ => .bi b (cEs f es)
      | none => match x == ("isinstance" : Str), es with
        | true, [a, t] => cIsi C f a t
        | _, _ => .bad
  | false => .bad
def kwNames : List Keyword → Option (List Str)
  | [] => some []
  | ⟨some k, e, _⟩ :: r => match noStar e, kwNames r with
    | true, some ks => some (k :: ks)
    | _, _ => none
  | _ => none
def isNonE : E → Bool
  | .lit .non => true
  | _ => false
/-- min(.., default=None) -/
def isMinK (f : Expr → E) (x : Str) (es : List Expr) (kws : List Keyword) : Bool := (x == ("min" : Str)) && (match kwNames kws with
  | some ks => decide (ks = [("default" : Str)])
  | none => false) && (match kws with
  | [k] => isNonE (f k.value)
  | _ => false) && decide (es.length = 1)
def cCallK (C : CC) (f : Expr → E) (x : Str) (es : List Expr) (kws : List Keyword) : E := match isGl C x && es.all noStar with
  | true => match isMinK f x es kws with
   | true => .bi .minN (cEs f es)
   | false => match C.fs.findIdx? (· == x), C.pl.lookup x, kwNames kws with
    | some i, some ps, some ks => match kwChk ps es.length ks with
      | true => .callk i (kwPm ps es.length ks) (cEs f es) (cEs f (kws.map (·.value)))
      | false => .bad
    | _, _, _ => .bad
  | false => .bad
def meOf (x : Str) : Option Me :=
  if x == ("append" : Str) then some .append else if x == ("pop" : Str) then some .pop else if x == ("get" : Str) then some .get else if x == ("count" : Str) then some .count else if x == ("index" : Str) then some .index else none
def cMeth (f : Expr → E) (o : Expr) (name : Str) (apos cpos : Pos) (es : List Expr) : E := match noSuper o && (apos.endLine == cpos.line) && es.all noStar && decide (es.length < 20) with
  | true => match meOf name with
    | some .append => match es with
      | [] => .bad
      | _ => .meth .append (f o) (cEs f es)
    | some .pop => .meth .pop (f o) (cEs f es)
    | some .get => match es with
      | [_] => .meth .get (f o) (cEs f es)
      | [_, _] => .meth .get (f o) (cEs f es)
      | _ => .bad
    | some .count => match es with
      | [] => .bad
      | _ => .meth .count (f o) (cEs f es)
    | some .index => match es with
      | [] => .bad
      | _ => .meth .index (f o) (cEs f es)
    | none => .bad
  | false => .bad
def cI (C : CC) (f : Expr → E) (tg iter : Expr) : I := match noSet iter with
  | true => match iter with
    | .Call (.Name x _) es [] _ => match isGl C x && es.all noStar && (C.fs.findIdx? (· == x)).isNone with
      | true => match x == ("range" : Str), es with
        | true, [_] => .range1 (cEs f es)
        | true, [_, _] => .range2 (cEs f es)
        | true, _ => .bad
        | false, es => match tg with
          | .Tuple _ _ _ => match x == ("enumerate" : Str), x == ("zip" : Str), es with
            | true, _, [_] => .enum (cEs f es)
            | true, _, _ => .bad
            | false, true, [_, _] => .zip (cEs f es)
            | false, true, _ => .bad
            | false, false, _ => .e (f iter)
          | _ => .e (f iter)
      | false => .e (f iter)
    | _ => .e (f iter)
  | false => .bad
mutual
def cG (C : CC) : Nat → Expr → G
  | 0, _ => .bad
  | n + 1, tg => match tg with
    | .Name x _ => match C.sc.names.lookup x, C.fn x with
      | some .local, _ => match C.N.findIdx? (· == x) with
        | some i => .name i
        | none => .bad
      | some .cell, true => match C.N.findIdx? (· == x) with
        | some i => .name i
        | none => .bad
      | _, _ => .bad
    | .Tuple es _ _ => match es.all noStar with
      | true => .tup es.length (cGs C n es)
      | false => .bad
    | _ => .bad
def cGs (C : CC) : Nat → List Expr → Gs
  | 0, _ => .cons .bad .nil
  | n + 1, es => match es with
    | [] => .nil
    | e :: r => .cons (cG C n e) (cGs C n r)
end
def ownOf (N : List Str) (scope : Scope) : List (Str × Nat) := scope.names.filterMap fun y => match y.2 with
  | .local => (N.findIdx? (· == y.1)).map fun i => (y.1, i)
  | .cell => (N.findIdx? (· == y.1)).map fun i => (y.1, i)
  | _ => none
def CC.blk (C : CC) (scope : Scope) : CC := { C with sc := relS scope C.sc, fn := fun x => scope.names.lookup x == some .cell }
def isNm : Expr → Bool
  | .Name _ _ => true
  | _ => false
/-- an expression (t: as a test) -/
def cX : Nat → CC → Bool → Expr → E
  | 0, _, _, _ => .bad
  | n + 1, C, t, e => match e with
    | .Name x _ => cName C x
    | .Constant c _ _ => cConst c
    | .BinOp a o b _ => match cBo o with
      | some o => .bin o (cX n C false a) (cX n C false b)
      | none => .bad
    | .UnaryOp .Not a _ => .not (cX n C t a)
    | .UnaryOp .USub a _ => .neg (cX n C false a)
    | .BoolOp .And vs _ => cBs (cX n C t) .and vs
    | .BoolOp .Or vs _ => cBs (cX n C t) .or vs
    | .IfExp c a b _ => match t with
      | true => .bad
      | false => .ite (cX n C true c) (cX n C false a) (cX n C false b)
    | .Compare a [o] [b] _ => match noSet b with
      | true => .cmp (cCo o) (cX n C false a) (cX n C false b)
      | false => .bad
    | .Compare a [o, p] [b, c] _ => match noSet c with
      | true => .chain (cCo o) (cCo p) (cX n C false a) (cX n C false b) (cX n C false c)
      | false => .bad
    | .Tuple es _ _ => .tup (cEs (cX n C false) es)
    | .List es _ => .lst (cEs (cX n C false) es)
    | .Dict [] [] _ => dnE C
    | .Dict [some k] [v] _ => match C.tn with
      | true => .dispN (cX n C false k) (cX n C false v)
      | false => match C.tk with
        | true => .disp (cX n C false k) (cX n C false v)
        | false => .dispk (cPs (cX n C false) [some k] [v])
    | .Dict (k0 :: ks) vs _ => match (k0 :: ks).all (·.isSome) && Nat.beq (ks.length + 1) vs.length && Nat.ble (ks.length + 1) 15 with
      | true => .dispk (cPs (cX n C false) (k0 :: ks) vs)
      | false => .bad
    | .Subscript a (.Slice none none (some (.UnaryOp .USub (.Constant (.int 1) _ _) _)) _) _ => .rev (cX n C false a)
    | .Subscript a (.Slice lo hi none _) _ => .sl (cX n C false a) (cEo (cX n C false) lo) (cEo (cX n C false) hi)
    | .Subscript a b _ => match noSlice b with
      | true => .ix (cX n C false a) (cX n C false b)
      | false => .bad
    | .Call (.Name x _) [.Call (.Name y p1) [a] [] p2] [] _ => match isGl C x && isGl C y && (C.fs.findIdx? (· == x)).isNone && (C.fs.findIdx? (· == y)).isNone && (x == ("list" : Str)) && (y == ("enumerate" : Str)) && noStar a with
      | true => .lenum (cEs (cX n C false) [a])
      | false => match isGl C x && isGl C y && (C.fs.findIdx? (· == x)).isNone && (C.fs.findIdx? (· == y)).isNone && (x == ("tuple" : Str)) && (y == ("enumerate" : Str)) && noStar a with
        | true => .tenum (cEs (cX n C false) [a])
        | false => match isGl C x && isGl C y && (C.fs.findIdx? (· == x)).isNone && (C.fs.findIdx? (· == y)).isNone && (x == ("len" : Str)) && (y == ("set" : Str)) && noStar a with
          | true => .lset (cEs (cX n C false) [a])
          | false => cCall C (cX n C false) x [.Call (.Name y p1) [a] [] p2]
    | .Call (.Name x _) [.SetComp elt [⟨tg, iter, ifs, 0⟩] scope _] [] _ => match isGl C x && (C.fs.findIdx? (· == x)).isNone && (x == ("len" : Str)) && blkC C.N C.sc scope (ownOf C.N scope) && noSet iter && ((cG (C.blk scope) n tg).slots.all fun i => ((ownOf C.N scope).map (·.2)).contains i) with
      | true => match ifs with
        | [] => match isNm elt with
          | true => .sct (cI C (cX n C false) tg iter) ((ownOf C.N scope).map (·.2)) (cG (C.blk scope) n tg) (.lit (.bl true)) (cX n (C.blk scope) false elt)
          | false => .scl (cI C (cX n C false) tg iter) ((ownOf C.N scope).map (·.2)) (cG (C.blk scope) n tg) (.lit (.bl true)) (cX n (C.blk scope) false elt)
        | [c] => .scl (cI C (cX n C false) tg iter) ((ownOf C.N scope).map (·.2)) (cG (C.blk scope) n tg) (cX n (C.blk scope) true c) (cX n (C.blk scope) false elt)
        | _ => .bad
      | false => .bad
    | .Call (.Name x _) [a] [] _ => match C.tk && isGl C x && (C.fs.findIdx? (· == x)).isNone && (x == ("list" : Str)) && noStar a with
      | true => .lstT (cEs (cX n C false) [a])
      | false => cCall C (cX n C false) x [a]
    | .Call (.Name x _) es [] _ => cCall C (cX n C false) x es
    | .Call (.Name x _) es (kw :: kws) _ => cCallK C (cX n C false) x es (kw :: kws)
    | .Call (.Attribute o name apos) es [] cpos => cMeth (cX n C false) o name apos cpos es
    | .ListComp elt [⟨tg, iter, ifs, 0⟩] scope _ => match blkC C.N C.sc scope (ownOf C.N scope) && noSet iter && ((cG (C.blk scope) n tg).slots.all fun i => ((ownOf C.N scope).map (·.2)).contains i) with
      | true => match ifs with
        | [] => .comp (cI C (cX n C false) tg iter) ((ownOf C.N scope).map (·.2)) (cG (C.blk scope) n tg) (.lit (.bl true)) (cX n (C.blk scope) false elt)
        | [c] => .comp (cI C (cX n C false) tg iter) ((ownOf C.N scope).map (·.2)) (cG (C.blk scope) n tg) (cX n (C.blk scope) true c) (cX n (C.blk scope) false elt)
        | _ => .bad
      | false => .bad
    | .ListComp elt [⟨tg, iter, ifs, 0⟩, ⟨tg1, iter1, ifs1, 0⟩] scope _ => match blkC C.N C.sc scope (ownOf C.N scope) && noSet iter && noSet iter1 && ((cG (C.blk scope) n tg).slots.all fun i => ((ownOf C.N scope).map (·.2)).contains i) && ((cG (C.blk scope) n tg1).slots.all fun i => ((ownOf C.N scope).map (·.2)).contains i) with
      | true => match ifs, ifs1 with
        | [], [] => .comp2 (cI C (cX n C false) tg iter) ((ownOf C.N scope).map (·.2)) (cG (C.blk scope) n tg) (.lit (.bl true)) (cI (C.blk scope) (cX n (C.blk scope) false) tg1 iter1) (cG (C.blk scope) n tg1).slots (cG (C.blk scope) n tg1) (.lit (.bl true)) (cX n (C.blk scope) false elt)
        | [], [c] => .comp2 (cI C (cX n C false) tg iter) ((ownOf C.N scope).map (·.2)) (cG (C.blk scope) n tg) (.lit (.bl true)) (cI (C.blk scope) (cX n (C.blk scope) false) tg1 iter1) (cG (C.blk scope) n tg1).slots (cG (C.blk scope) n tg1) (cX n (C.blk scope) true c) (cX n (C.blk scope) false elt)
        | _, _ => .bad
      | false => .bad
    | .DictComp kx vx [⟨tg, iter, ifs, 0⟩] scope _ => match blkC C.N C.sc scope (ownOf C.N scope) && noSet iter && ((cG (C.blk scope) n tg).slots.all fun i => ((ownOf C.N scope).map (·.2)).contains i) with
      | true => match ifs with
        | [] => dcE C (cI C (cX n C false) tg iter) ((ownOf C.N scope).map (·.2)) (cG (C.blk scope) n tg) (.lit (.bl true)) (cX n (C.blk scope) false kx) (cX n (C.blk scope) false vx)
        | [c] => dcE C (cI C (cX n C false) tg iter) ((ownOf C.N scope).map (·.2)) (cG (C.blk scope) n tg) (cX n (C.blk scope) true c) (cX n (C.blk scope) false kx) (cX n (C.blk scope) false vx)
        | _ => .bad
      | false => .bad
    | _ => .bad
theorem ev_dcE {F : Nat → Fn} {C : CC} {it : I} {vs : List Nat} {g : G} {t k v : E} : ev F (dcE C it vs g t k v) = evDc C.dk (evi F it) vs (gv g) (ev F t) (ev F k) (ev F v) := by
  unfold dcE CC.dk
  cases C.tn <;> simp only [ev]
/-! ### statements -/
def isLoc (C : CC) (x : Str) : Bool := match C.sc.names.lookup x with
  | some .local => true
  | _ => false
/-- does «y = [..]» store at once -/
def swB (C : CC) (y : Str) (py : Pos) (scope : Scope) (pos : Pos) : Bool := isLoc C y && (py.line == pos.line) && !(scope.names.any fun (n, k) => n == y && (k == .local || k == .cell))
/-- the stores of «a, b = x, y»: some none: in their order; some names: from the right -/
def swp (C : CC) (ts vs : List Expr) : Option (Option (List Str)) :=
  if (!(ts.length == 2 || ts.length == 3) || vs.length != ts.length) = true then some none else
  if (vs.any fun | .Starred .. => true | _ => false) = true then some none else
  let line := (ts.head?.map (·.pos.line)).getD 0
  let names := ts.filterMap fun
    | .Name id pos => if C.sc.names.lookup id == some .local && pos.line == line then some id else none
    | _ => none
  if (names.length != ts.length || names.eraseDups.length != names.length) = true then some none else
  if vs.all (foldedForSure 8) = true then some none else
  if vs.all (constantsAlone 8) = true then none else some (some names)
/-- a plain store of a name -/
def cAsgN (C : CC) (x : Str) (v : E) : T := match C.sc.names.lookup x, C.fn x with
  | some .local, _ => match C.N.findIdx? (· == x) with
    | some i => .asg v (.name i)
    | none => .bad
  | some .cell, true => match C.N.findIdx? (· == x) with
    | some i => .asg v (.name i)
    | none => .bad
  | _, _ => .bad
def sameStrs : List Str → List Str → Bool
  | [], [] => true
  | a :: r, b :: s => (a == b) && sameStrs r s
  | _, _ => false
def cPar (C : CC) (n : Nat) (ts vs : List Expr) : T := match swp C ts vs with
  | some none => match ts.all noStar with
    | true => .asg (.tup (cEs (cX n C false) vs)) (.tup ts.length (cGs C n ts))
    | false => .bad
  | some (some names) => match ts, vs with
    | [.Name x _, .Name y _], [a, b] => match sameStrs names [x, y] && isLoc C x && isLoc C y, C.N.findIdx? (· == x), C.N.findIdx? (· == y) with
      | true, some i, some j => match Nat.beq i j with
        | false => .asg (.tup (cEs (cX n C false) [a, b])) (.tup 2 (.cons (.name i) (.cons (.name j) .nil)))
        | true => .bad
      | _, _, _ => .bad
    | [.Name x _, .Name y _, .Name z _], [a, b, c] => match sameStrs names [x, y, z] && isLoc C x && isLoc C y && isLoc C z, C.N.findIdx? (· == x), C.N.findIdx? (· == y), C.N.findIdx? (· == z) with
      | true, some i, some j, some l => match Nat.beq i j || Nat.beq i l || Nat.beq j l with
        | false => .asg (.tup (cEs (cX n C false) [a, b, c])) (.tup 3 (.cons (.name i) (.cons (.name j) (.cons (.name l) .nil))))
        | true => .bad
      | _, _, _, _ => .bad
    | _, _ => .bad
  | none => .bad
def cAsg (C : CC) (n : Nat) (tg v : Expr) : T := match tg with
  | .Name x py => match noComp v with
    | true => cAsgN C x (cX n C false v)
    | false => match v with
      | .ListComp _ [⟨_, _, _, 0⟩] scope pos => match swB C x py scope pos with
        | false => cAsgN C x (cX n C false v)
        | true => match n with
          | 0 => .bad
          | _ + 1 => cAsgN C x (cX n C false v)
      | .ListComp _ [⟨_, _, _, 0⟩, ⟨_, _, _, 0⟩] scope pos => match swB C x py scope pos with
        | false => cAsgN C x (cX n C false v)
        | true => match n with
          | 0 => .bad
          | _ + 1 => cAsgN C x (cX n C false v)
      | .DictComp _ _ [⟨_, _, _, 0⟩] scope pos => match swB C x py scope pos with
        | false => cAsgN C x (cX n C false v)
        | true => match n with
          | 0 => .bad
          | _ + 1 => cAsgN C x (cX n C false v)
      | _ => .bad
  | .Tuple ts _ _ => match v with
    | .Tuple vs _ _ => cPar C n ts vs
    | _ => match ts.all noStar && noComp v with
      | true => .asg (cX n C false v) (.tup ts.length (cGs C n ts))
      | false => .bad
  | .Subscript o i _ => .put (cX n C false o) (cX n C false i) (cX n C false v)
  | _ => .bad
def cAo : Operator → Option Ao
  | .Add => some .add
  | .Sub => some .sub
  | _ => none
mutual
def cT : Nat → CC → Stmt → T
  | 0, _, _ => .bad
  | n + 1, C, st => match st with
    | .Expr e _ => match noComp e with
      | true => .expr (cX n C false e)
      | false => .bad
    | .Return (some e) _ => .ret (cX n C false e)
    | .Return none _ => .ret (.lit .non)
    | .Assign [tg] v _ => cAsg C n tg v
    | .AugAssign (.Name x _) op e _ => match cAo op, C.sc.names.lookup x, C.fn x, C.N.findIdx? (· == x) with
      | some o, some .local, _, some i => .aug i o (cX n C false e)
      | some o, some .cell, true, some i => .aug i o (cX n C false e)
      | _, _, _, _ => .bad
    | .If c a b _ => .ite (cX n C true c) (cTs n C a) (cTs n C b)
    | .While c b [] _ => .wh C.wn (cX n C true c) (cTs n C b)
    | .For tg iter b [] _ => match noSet iter with
      | true => .fo (cI C (cX n C false) tg iter) (cG C n tg) (cTs n C b)
      | false => .bad
    | .Pass _ => .pass
    | .Break _ => .brk
    | .Continue _ => .cont
    | _ => .bad
def cTs : Nat → CC → List Stmt → Ts
  | 0, _, _ => .cons .bad .nil
  | n + 1, C, ss => match ss with
    | [] => .nil
    | s :: r => .cons (cT n C s) (cTs n C r)
end
end Sw

/-! Eng14: the translation of expressions is right. -/
namespace Sw
open PySem PySem.Spec PyProof.Rows L2
def bltNames : List Str := ["len", "int", "min", "max", "all", "any", "sum", "tuple", "list", "isinstance", "bool", "str", "dict", "range", "enumerate", "zip", "sorted", "repr", "set"]
/-- a context of the translation -/
structure Good (C : CC) (X : Cx) (F : Nat → Fn) (k : Nat) : Prop where
  N : X.N = C.N
  nd : C.N.Nodup
  sc : X.env.scope = C.sc
  kind : C.sc.kind = .function
  fn : ∀ x, X.fn x = C.fn x
  calm : X.calm = true
  xe : X.xe = fun _ _ => False
  room : Room k X.A
  nog : NoG X.A
  defs : ∀ i x, C.fs[i]? = some x → ∃ ar, Def X.prog X.w X.K X.mg X.base k x ar (F i)
  con : ∀ x d, C.cs.lookup x = some d → ∃ v u, X.mg x = some u ∧ RelV v u ∧ ∀ m k H, RD m k H d v
  blt : ∀ x ∈ bltNames, X.mg x = none
  pl : ∀ x ps, C.pl.lookup x = some ps → PsOk X.K X.mg x ps
section
variable {C : CC} {X : Cx} {F : Nat → Fn} {k : Nat} {e a b c : Expr} {es : List Expr} {pos : Pos} {x : Str}
theorem Good.hu (G : Good C X F k) : X.A.units + 64 < cLine := by have := G.room.un; omega
theorem Good.hu1 (G : Good C X F k) : X.A.units + 1 < cLine := by have := G.room.un; omega
theorem pev_bad : PE X e (rdE evBad) := ⟨fun _ _ _ _ _ _ h => by obtain ⟨_, _, _, _, _, _, _, e, _⟩ := h; cases e⟩
theorem ptv_bad : PT X e (rdT evBad) := ⟨fun _ _ _ _ _ _ h => by obtain ⟨_, _, _, _, _, _, _, e, _⟩ := h; cases e⟩
theorem pi_bad {tg : Expr} : PI X tg e (rdI fun _ _ => .bad) := ⟨fun _ _ _ _ _ _ h => by obtain ⟨_, _, _, _, _, _, _, e, _⟩ := h; cases e⟩
theorem pg_bad {sl : List Nat} : PG X e (rdG sl fun _ _ _ => .bad) := ⟨fun _ _ _ _ _ _ _ _ _ h => by obtain ⟨_, _, _, _, _, _, _, _, _, e, _⟩ := h; cases e⟩
theorem find_at {N : List Str} {i : Nat} (h : N.findIdx? (· == x) = some i) : N[i]? = some x := by
  obtain ⟨h1, h2, _⟩ := List.findIdx?_eq_some_iff_getElem.mp h
  rw [List.getElem?_eq_getElem h1]
  exact congrArg some (by simpa using h2)
theorem dbg1 (h : isDbg x = false) : (x == ("__debug__" : Str)) = false := by
  unfold isDbg at h
  simp only [Bool.or_eq_false_iff] at h
  exact h.1.1
theorem dbg2 (h : isDbg x = false) : (x == ("__classdict__" : Str)) = false := by
  unfold isDbg at h
  simp only [Bool.or_eq_false_iff] at h
  exact h.1.2
theorem dbg3 (h : isDbg x = false) : x ≠ "__name__" := by
  unfold isDbg at h
  simp only [Bool.or_eq_false_iff] at h
  exact fun z => by rw [z] at h; simp at h
theorem isGl_ok (G : Good C X F k) (h : isGl C x = true) : Gl X x ∧ isDbg x = false := by
  unfold isGl at h
  simp only [Bool.and_eq_true, Bool.not_eq_true'] at h
  refine ⟨?_, h.2⟩
  have h1 := h.1
  split at h1
  · rename_i e
    show X.env.kindOf x = _
    unfold Env.kindOf
    rw [G.sc]; exact e
  · cases h1
theorem cName_ok (G : Good C X F k) : PE X (.Name x pos) (rdE (ev F (cName C x))) := by
  unfold cName
  split
  · simp only [ev]; exact pev_bad
  · rename_i hd
    split
    · rename_i hl
      split
      · rename_i d hc
        simp only [ev]
        obtain ⟨v, u, h1, h2, h3⟩ := G.con x d hc
        exact pev_glob (show X.env.kindOf x = _ by unfold Env.kindOf; rw [G.sc]; exact hl) h1 h2 h3 (dbg1 hd)
      · simp only [ev]; exact pev_bad
    · simp only [ev]; exact pev_bad
    · rename_i kk h1 h2 hl
      split
      · rename_i i hi
        simp only [ev]
        refine pev_var (by rw [G.N]; exact find_at hi) ?_ (dbg1 hd) (dbg2 hd)
        unfold Vis
        rw [G.sc, hl]
        cases kk with
        | «local» => exact .inl rfl
        | cell => exact .inr (.inl rfl)
        | free => exact .inr (.inr rfl)
        | globalExplicit => exact absurd rfl h2
        | globalImplicit => exact absurd rfl h1
      · simp only [ev]; exact pev_bad
    · simp only [ev]; exact pev_bad
theorem cConst_ok {v : Const} {j : Nat} : PE X (.Constant v j pos) (rdE (ev F (cConst v))) := by
  unfold cConst
  split <;> simp only [ev]
  · exact pev_non
  · exact pev_bl
  · exact pev_int
  · exact pev_str
  · exact pev_bad
theorem bo_ok {o : Operator} {b : Bo} (h : cBo o = some b) : OpR X (binaryOp o) (rd2 (boD b)) := by
  cases o <;> simp only [cBo] at h <;> cases h
  · exact opv_add
  · exact opv_sub
  · exact opv_mul2
  · exact opv_mod
  · exact opv_pow
  · exact opv_fdiv
theorem co_ok (G : Good C X F k) (o : CmpOp) : OpR X (compareOp o) (rd2 (coD (cCo o))) := by
  cases o <;> simp only [cCo, coD]
  · exact opv_eq G.hu
  · exact opv_ne G.hu
  · exact opv_ord op_lt (fun a b c d e f => PySem.W.lt_data a b c d e f) G.hu
  · exact opv_ord op_le (fun a b c d e f => PySem.W.le_data a b c d e f) G.hu
  · exact opv_ord op_gt (fun a b c d e f => PySem.W.gt_data a b c d e f) G.hu
  · exact opv_ord op_ge (fun a b c d e f => PySem.W.ge_data a b c d e f) G.hu
  · exact opv_is
  · exact opv_isNot
  · exact opv_in G.hu
  · exact opv_notIn G.hu
theorem cEs_ok {f : Expr → E} (hf : ∀ e, PE X e (rdE (ev F (f e)))) : ∀ es : List Expr, PA X es (rdA (evs F (cEs f es)))
  | [] => by simp only [cEs, evs]; exact pav_nil
  | e :: es => by
    have ih := cEs_ok hf es
    unfold cEs
    split
    · rename_i h; cases h
    · rename_i e' p r h
      cases h
      simp only [evs]
      exact pav_star (hf _) ih
    · rename_i e' r hn h
      cases h
      simp only [evs]
      refine pav_cons (hf _) ih (star_cons ?_)
      cases e <;> first | rfl | exact absurd rfl (hn _ _)
theorem bi_ok (G : Good C X F k) {b : Bi} (h : biOf x = some b) (hg : Gl X x) (hd : isDbg x = false) (ha : PA X (e :: es) (rdA (evs F (.cons (.bad) .nil)))) : True := trivial
theorem biCall1_ok (G : Good C X F k) {b : Bi} {g : EvA} {p : Pos} (h : biOf1 x = some b) (hg : Gl X x) (hd : isDbg x = false) (ha : PA X (e :: es) (rdA g)) (hs : (e :: es).all noStar = true) : PE X (.Call (.Name x p) (e :: es) [] pos) (rdE (evN (biN b) g)) := by
  have hs' : noStar e = true ∧ es.all noStar = true := by simpa using hs
  have s1 : starEach (e :: es) X.env = (false, eval e X.env) :: starEach es X.env := star_cons hs'.1
  have s2 : (backTo pos (starEach es X.env)).any (·.1) = false := star_plain hs'.2
  unfold biOf1 at h
  split at h
  · rename_i hx; cases h; have hx := eq_of_beq hx; subst hx
    exact pev_callB crv_len hg (G.blt _ (by simp [bltNames])) boot_len ha (dbg3 hd) (dbg1 hd) s1 s2
  · split at h
    · rename_i hx; cases h; have hx := eq_of_beq hx; subst hx
      exact pev_callTy crv_int hg (G.blt _ (by simp [bltNames])) PyProof.Rows.boot_int ha (dbg3 hd) (dbg1 hd) s1 s2
    · split at h
      · rename_i hx; cases h; have hx := eq_of_beq hx; subst hx
        exact pev_callB (crv_min2 G.calm) hg (G.blt _ (by simp [bltNames])) boot_min ha (dbg3 hd) (dbg1 hd) s1 s2
      · split at h
        · rename_i hx; cases h; have hx := eq_of_beq hx; subst hx
          exact pev_callB (crv_max G.calm) hg (G.blt _ (by simp [bltNames])) boot_max ha (dbg3 hd) (dbg1 hd) s1 s2
        · split at h
          · rename_i hx; cases h; have hx := eq_of_beq hx; subst hx
            exact pev_callB (crv_all G.calm) hg (G.blt _ (by simp [bltNames])) (by decide +kernel) ha (dbg3 hd) (dbg1 hd) s1 s2
          · split at h
            · rename_i hx; cases h; have hx := eq_of_beq hx; subst hx
              exact pev_callB (crv_any G.calm) hg (G.blt _ (by simp [bltNames])) (by decide +kernel) ha (dbg3 hd) (dbg1 hd) s1 s2
            · split at h
              · rename_i hx; cases h; have hx := eq_of_beq hx; subst hx
                exact pev_callB (crv_sum G.calm) hg (G.blt _ (by simp [bltNames])) boot_sum ha (dbg3 hd) (dbg1 hd) s1 s2
              · split at h
                · rename_i hx; cases h; have hx := eq_of_beq hx; subst hx
                  exact pev_callTy crv_tuple hg (G.blt _ (by simp [bltNames])) PyProof.Rows.boot_tuple ha (dbg3 hd) (dbg1 hd) s1 s2
                · split at h
                  · rename_i hx; cases h; have hx := eq_of_beq hx; subst hx
                    exact pev_callTy crv_list hg (G.blt _ (by simp [bltNames])) PyProof.Rows.boot_list ha (dbg3 hd) (dbg1 hd) s1 s2
                  · split at h
                    · rename_i hx; cases h; have hx := eq_of_beq hx; subst hx
                      exact pev_callB (crv_sorted G.hu) hg (G.blt _ (by simp [bltNames])) (by decide +kernel) ha (dbg3 hd) (dbg1 hd) s1 s2
                    · split at h
                      · rename_i hx; cases h; have hx := eq_of_beq hx; subst hx
                        exact pev_callB (crv_repr G.nog G.hu) hg (G.blt _ (by simp [bltNames])) (by decide +kernel) ha (dbg3 hd) (dbg1 hd) s1 s2
                      · cases h
theorem biCall_ok (G : Good C X F k) {b : Bi} {g : EvA} {p : Pos} (h : biOf x = some b) (hg : Gl X x) (hd : isDbg x = false) (ha : PA X (e :: es) (rdA g)) (hs : (e :: es).all noStar = true) : PE X (.Call (.Name x p) (e :: es) [] pos) (rdE (evN (biN b) g)) := by
  unfold biOf at h
  split at h
  · rename_i b' hb
    cases h
    exact biCall1_ok G hb hg hd ha hs
  · have hs' : noStar e = true ∧ es.all noStar = true := by simpa using hs
    have s1 : starEach (e :: es) X.env = (false, eval e X.env) :: starEach es X.env := star_cons hs'.1
    have s2 : (backTo pos (starEach es X.env)).any (·.1) = false := star_plain hs'.2
    unfold biOf2 at h
    split at h
    · rename_i hx; cases h; have hx := eq_of_beq hx; subst hx
      exact pev_callTy (crv_dict G.calm) hg (G.blt _ (by simp [bltNames])) PyProof.Rows.boot_dict ha (dbg3 hd) (dbg1 hd) s1 s2
    · cases h
theorem tn_ok (G : Good C X F k) {T : Tn} (h : tnOf x = some T) : X.mg x = none ∧ bootBuiltins x = some (.type T.name) := by
  unfold tnOf at h
  split at h
  · rename_i hx; cases h; have hx := eq_of_beq hx; subst hx; exact ⟨G.blt _ (by simp [bltNames]), PyProof.Rows.boot_int⟩
  · split at h
    · rename_i hx; cases h; have hx := eq_of_beq hx; subst hx; exact ⟨G.blt _ (by simp [bltNames]), PyProof.Rows.boot_bool⟩
    · split at h
      · rename_i hx; cases h; have hx := eq_of_beq hx; subst hx; exact ⟨G.blt _ (by simp [bltNames]), PyProof.Rows.boot_str⟩
      · split at h
        · rename_i hx; cases h; have hx := eq_of_beq hx; subst hx; exact ⟨G.blt _ (by simp [bltNames]), PyProof.Rows.boot_tuple⟩
        · split at h
          · rename_i hx; cases h; have hx := eq_of_beq hx; subst hx; exact ⟨G.blt _ (by simp [bltNames]), PyProof.Rows.boot_list⟩
          · split at h
            · rename_i hx; cases h; have hx := eq_of_beq hx; subst hx; exact ⟨G.blt _ (by simp [bltNames]), PyProof.Rows.boot_dict⟩
            · cases h
theorem cCall_ok (G : Good C X F k) {f : Expr → E} {p : Pos} (hf : ∀ e, PE X e (rdE (ev F (f e)))) : PE X (.Call (.Name x p) es [] pos) (rdE (ev F (cCall C f x es))) := by
  unfold cCall
  split
  · rename_i hh
    obtain ⟨h1, h2⟩ := Bool.and_eq_true_iff.mp hh
    obtain ⟨hg, hd⟩ := isGl_ok G h1
    have ha := cEs_ok (F := F) hf es
    split
    · rename_i i hi
      simp only [ev]
      obtain ⟨ar, Df⟩ := G.defs i x (find_at hi)
      cases es with
      | nil => simp only [cEs, evs]; exact pev_call0 Df G.room G.nog hg (dbg1 hd)
      | cons e es =>
        have hs' : noStar e = true ∧ es.all noStar = true := by simpa using h2
        exact pev_call Df G.room G.nog hg ha (dbg1 hd) (star_cons hs'.1) (star_plain hs'.2)
    · split
      · rename_i b hb
        cases es with
        | nil => simp only [ev]; exact pev_bad
        | cons e es => simp only [ev]; exact biCall_ok G hb hg hd ha h2
      · split
        · rename_i a t hx
          have hx := eq_of_beq hx
          subst hx
          have hs' : noStar a = true ∧ noStar t = true := by simpa using h2
          unfold cIsi
          split
          · rename_i y p1
            split
            · rename_i T hy hT
              obtain ⟨hg1, hd1⟩ := isGl_ok G hy
              obtain ⟨m1, b1⟩ := tn_ok G hT
              simp only [ev]
              exact pev_isi (p2 := p1) (hf a) hg (G.blt _ (by simp [bltNames])) hg1 m1 b1 (dbg3 hd1) (dbg1 hd1) (star_cons hs'.1)
            · simp only [ev]; exact pev_bad
          · rename_i y p1 z p2 kk p3
            split
            · rename_i T U hy hT hU
              obtain ⟨hy1, hy2⟩ := Bool.and_eq_true_iff.mp hy
              obtain ⟨hg1, hd1⟩ := isGl_ok G hy1
              obtain ⟨hg2, hd2⟩ := isGl_ok G hy2
              obtain ⟨m1, b1⟩ := tn_ok G hT
              obtain ⟨m2, b2⟩ := tn_ok G hU
              simp only [ev]
              exact pev_isi2 (hf a) hg (G.blt _ (by simp [bltNames])) hg1 m1 b1 (dbg3 hd1) (dbg1 hd1) hg2 m2 b2 (dbg3 hd2) (dbg1 hd2) (fun es => star_cons hs'.1)
            · simp only [ev]; exact pev_bad
          · simp only [ev]; exact pev_bad
        · simp only [ev]; exact pev_bad
  · simp only [ev]; exact pev_bad
theorem few_ok {env : Env} {cpos : Pos} (h : es.all noStar = true) (hl : es.length < 20) : ((backTo cpos (starEach es env)).all (fun x => !x.1) && (backToKw cpos (keywordEach [] env)).all (fun x => x.1.isSome)
      && decide (es.length + ([] : List Keyword).length + (if ([] : List Keyword).isEmpty then 0 else 1) < 30)) = true := by
  rw [star_few h]
  simp [backToKw, keywordEach]
  omega
theorem evs_len {f : Expr → E} : ∀ {es : List Expr}, es.all noStar = true → ∀ ρ S ds S', evs F (cEs f es) ρ S = .ok ds S' → ds.length = es.length
  | [], _, ρ, S, ds, S', h => by
    simp only [cEs, evs, evNil] at h
    cases h; rfl
  | e :: es, hs, ρ, S, ds, S', h => by
    have hs' : noStar e = true ∧ es.all noStar = true := by simpa using hs
    have e1 : cEs f (e :: es) = .cons (f e) (cEs f es) := by cases e <;> first | rfl | cases hs'.1
    rw [e1] at h
    simp only [evs] at h
    exact evCons_len (evs_len hs'.2) _ _ _ _ h
theorem kwNames_vals : ∀ {kws : List Keyword} {ks : List Str}, kwNames kws = some ks → (kws.map (·.value)).all noStar = true ∧ (kws.map (·.value)).length = ks.length
  | [], ks, h => by cases h; exact ⟨rfl, rfl⟩
  | ⟨none, e, p⟩ :: r, ks, h => by cases h
  | ⟨some k, e, p⟩ :: r, ks, h => by
    unfold kwNames at h
    split at h
    · rename_i ks' h1 h2
      cases h
      obtain ⟨a, b⟩ := kwNames_vals h2
      exact ⟨by rw [List.map_cons, List.all_cons, a]; simpa using h1, by simpa using b⟩
    · cases h
theorem kwNames_ok {f : Expr → E} (hf : ∀ e, PE X e (rdE (ev F (f e)))) : ∀ {kws : List Keyword} {ks : List Str}, kwNames kws = some ks →
    PK X kws (rdA (evs F (cEs f (kws.map (·.value))))) ∧ ∀ pos, (backToKw pos (keywordEach kws X.env)).all (·.1.isSome) = true ∧ (backToKw pos (keywordEach kws X.env)).filterMap (·.1) = ks ∧ (backToKw pos (keywordEach kws X.env)).any (·.1.isNone) = false
  | [], ks, h => by
    cases h
    exact ⟨by simp only [List.map_nil, cEs, evs]; exact pkv_nil, fun pos => ⟨rfl, rfl, rfl⟩⟩
  | ⟨none, e, p⟩ :: r, ks, h => by cases h
  | ⟨some k, e, p⟩ :: r, ks, h => by
    unfold kwNames at h
    split at h
    · rename_i ks' h1 h2
      cases h
      obtain ⟨a, b⟩ := kwNames_ok hf h2
      refine ⟨?_, fun pos => ?_⟩
      · have e1 : cEs f (List.map (·.value) (⟨some k, e, p⟩ :: r)) = .cons (f e) (cEs f (r.map (·.value))) := by
          rw [List.map_cons]
          show cEs f (e :: _) = _
          cases e <;> first | rfl | cases h1
        rw [e1]
        simp only [evs]
        exact pkv_cons (hf e) a
      · obtain ⟨b1, b2, b3⟩ := b pos
        have e2 : backToKw pos (keywordEach (⟨some k, e, p⟩ :: r) X.env) = (some k, do let v ← eval e X.env; standAt pos; pure v) :: backToKw pos (keywordEach r X.env) := by
          rw [keywordEach]; rfl
        rw [e2]
        refine ⟨by rw [List.all_cons, b1]; rfl, by rw [List.filterMap_cons, b2], by rw [List.any_cons, b3]; rfl⟩
    · cases h
theorem cCallK_ok (G : Good C X F k) {f : Expr → E} {p : Pos} {kw : Keyword} {kws : List Keyword} (hf : ∀ e, PE X e (rdE (ev F (f e)))) : PE X (.Call (.Name x p) es (kw :: kws) pos) (rdE (ev F (cCallK C f x es (kw :: kws)))) := by
  unfold cCallK
  split
  · rename_i hh
    obtain ⟨h1, h2⟩ := Bool.and_eq_true_iff.mp hh
    obtain ⟨hg, hd⟩ := isGl_ok G h1
    have ha := cEs_ok (F := F) hf es
    split
    · rename_i hmk
      unfold isMinK at hmk
      simp only [Bool.and_eq_true, decide_eq_true_eq] at hmk
      obtain ⟨⟨⟨m1, m2⟩, m3⟩, m4⟩ := hmk
      have hx := eq_of_beq m1
      subst hx
      split at m2
      · rename_i ks hn
        have hks : ks = [("default" : Str)] := by simpa using m2
        subst hks
        obtain ⟨a, b⟩ := kwNames_ok (F := F) hf hn
        obtain ⟨b1, b2, b3⟩ := b pos
        cases es with
        | nil => simp at m4
        | cons e es =>
          have hs' : noStar e = true ∧ es.all noStar = true := by simpa using h2
          simp only [ev]
          refine pev_minK G.calm G.hu hg (G.blt _ (by simp [bltNames])) ha a (fun ρ S => ?_) (star_cons hs'.1) (star_plain hs'.2) b1 b3 b2
          cases kws with
          | cons _ _ => cases m3
          | nil =>
            have m3 : isNonE (f kw.value) = true := m3
            obtain ⟨nm, v, kp⟩ := kw
            cases nm with
            | none => cases hn
            | some k =>
              unfold kwNames at hn
              split at hn
              · rename_i ks' h1 hk2
                have e1 : cEs f [v] = .cons (f v) .nil := by cases v <;> first | rfl | cases h1
                have e2 : f v = .lit .non := by
                  dsimp only at m3
                  cases hfv : f v <;> rw [hfv] at m3 <;> first | (cases m3; done) | skip
                  rename_i d
                  cases d <;> first | rfl | cases m3
                show evs F (cEs f [v]) ρ S = _
                rw [e1, e2]
                rfl
              · cases hn
      · cases m2
    split
    · rename_i i ps ks hi hp hn
      split
      · rename_i hc
        obtain ⟨a, b⟩ := kwNames_ok (F := F) hf hn
        obtain ⟨b1, b2, b3⟩ := b pos
        obtain ⟨ar, Df⟩ := G.defs i x (find_at hi)
        obtain ⟨v1, v2⟩ := kwNames_vals hn
        have lh := fun ρ S ds S' h => (evs_len (F := F) (f := f) v1 ρ S ds S' h).trans v2
        simp only [ev]
        cases es with
        | nil => exact pev_callk0 Df G.room G.nog hg (G.pl x ps hp) hc lh a b1 b2 (dbg1 hd) (by rw [b3]; rfl)
        | cons e es =>
          have hs' : noStar e = true ∧ es.all noStar = true := by simpa using h2
          refine pev_callk Df G.room G.nog hg (G.pl x ps hp) hc (evs_len h2) lh ha a b1 b2 (dbg1 hd) (star_cons hs'.1) ?_
          rw [b3, Bool.or_false]
          exact star_plain h2
      · simp only [ev]; exact pev_bad
    · simp only [ev]; exact pev_bad
  · simp only [ev]; exact pev_bad
theorem cMeth_ok (G : Good C X F k) {f : Expr → E} {o : Expr} {name : Str} {apos cpos : Pos} (hf : ∀ e, PE X e (rdE (ev F (f e)))) : PE X (.Call (.Attribute o name apos) es [] cpos) (rdE (ev F (cMeth f o name apos cpos es))) := by
  unfold cMeth
  split
  · rename_i hh
    simp only [Bool.and_eq_true, decide_eq_true_eq] at hh
    obtain ⟨⟨⟨h1, h2⟩, h3⟩, h4⟩ := hh
    have ha := cEs_ok (F := F) hf es
    split
    · rename_i hn
      unfold meOf at hn
      split at hn
      · rename_i hx
        have hx := eq_of_beq hx
        subst hx
        cases es with
        | nil => simp only [ev]; exact pev_bad
        | cons e es =>
          have hs' : noStar e = true ∧ es.all noStar = true := by simpa using h3
          simp only [ev, evMe]
          exact pev_bm PySem.F.plainAttrs_list PySem.F.slot_list_append PySem.F.type_list_append mtv_app tyV_lst (hf o) ha (base_of h1) (few_ok h3 h4) h2 (star_cons hs'.1) (star_plain hs'.2)
      · split at hn
        · cases hn
        · split at hn
          · cases hn
          · split at hn <;> first | cases hn | (split at hn <;> cases hn)
    · rename_i hn
      unfold meOf at hn
      split at hn
      · cases hn
      · split at hn
        · rename_i hx
          have hx := eq_of_beq hx
          subst hx
          cases es with
          | nil =>
            simp only [ev, evMe, cEs, evs]
            exact pev_bm0 PySem.F.plainAttrs_list PySem.F.slot_list_pop PySem.F.type_list_pop mtv_pop tyV_lst (hf o) (base_of h1) h2
          | cons e es =>
            have hs' : noStar e = true ∧ es.all noStar = true := by simpa using h3
            simp only [ev, evMe]
            exact pev_bm PySem.F.plainAttrs_list PySem.F.slot_list_pop PySem.F.type_list_pop mtv_pop tyV_lst (hf o) ha (base_of h1) (few_ok h3 h4) h2 (star_cons hs'.1) (star_plain hs'.2)
        · split at hn
          · cases hn
          · split at hn <;> first | cases hn | (split at hn <;> cases hn)
    · rename_i hn
      unfold meOf at hn
      split at hn
      · cases hn
      · split at hn
        · cases hn
        · split at hn
          · rename_i hx
            have hx := eq_of_beq hx
            subst hx
            split
            · rename_i e
              have hs' : noStar e = true := by simpa using h3
              have e1 : cEs f [e] = .cons (f e) .nil := by cases e <;> first | rfl | cases hs'
              rw [e1]
              simp only [ev, evMe, evs]
              refine pev_get1 G.hu (hf o) (hf e) ⟨base_of h1, few_ok h3 h4, h2, ?_⟩
              rw [star_cons hs']
              rfl
            · rename_i e e2
              have hs' : noStar e = true ∧ noStar e2 = true := by simpa using h3
              have e1 : cEs f [e, e2] = .cons (f e) (.cons (f e2) .nil) := by
                obtain ⟨z1, z2⟩ := hs'
                have q2 : cEs f [e2] = .cons (f e2) .nil := by cases e2 <;> first | rfl | cases z2
                have q1 : cEs f [e, e2] = .cons (f e) (cEs f [e2]) := by cases e <;> first | rfl | cases z1
                rw [q1, q2]
              rw [e1]
              simp only [ev, evMe, evs]
              refine pev_get2 G.hu (hf o) (hf e) (hf e2) ⟨base_of h1, few_ok h3 h4, h2, ?_⟩
              rw [star_cons hs'.1, star_cons hs'.2]
              rfl
            · simp only [ev]; exact pev_bad
          · split at hn <;> first | cases hn | (split at hn <;> cases hn)
    · rename_i hn
      unfold meOf at hn
      split at hn
      · cases hn
      · split at hn
        · cases hn
        · split at hn
          · cases hn
          · split at hn
            · rename_i hx
              have hx := eq_of_beq hx
              subst hx
              cases es with
              | nil => simp only [ev]; exact pev_bad
              | cons e es =>
                have hs' : noStar e = true ∧ es.all noStar = true := by simpa using h3
                simp only [ev, evMe]
                exact pev_bm PySem.F.plainAttrs_list PySem.F.slot_list_count PySem.F.type_list_count (mtv_count G.hu) tyV_lst (hf o) ha (base_of h1) (few_ok h3 h4) h2 (star_cons hs'.1) (star_plain hs'.2)
            · split at hn <;> cases hn
    · rename_i hn
      unfold meOf at hn
      split at hn
      · cases hn
      · split at hn
        · cases hn
        · split at hn
          · cases hn
          · split at hn
            · cases hn
            · split at hn
              · rename_i hx
                have hx := eq_of_beq hx
                subst hx
                cases es with
                | nil => simp only [ev]; exact pev_bad
                | cons e es =>
                  have hs' : noStar e = true ∧ es.all noStar = true := by simpa using h3
                  simp only [ev, evMe]
                  exact pev_bm PySem.F.plainAttrs_list PySem.F.slot_list_index PySem.F.type_list_index (mtv_index G.hu) tyV_lst (hf o) ha (base_of h1) (few_ok h3 h4) h2 (star_cons hs'.1) (star_plain hs'.2)
              · cases hn
    · simp only [ev]; exact pev_bad
  · simp only [ev]; exact pev_bad
end
end Sw

/-! Eng15: the translation of expressions is right, the whole. -/
namespace Sw
open PySem PySem.Spec PyProof.Rows L2
section
variable {C : CC} {X : Cx} {F : Nat → Fn} {k : Nat} {e a b c : Expr} {es : List Expr} {pos : Pos} {x : Str}
theorem star1 {env : Env} (h : noStar a = true) : starEach [a] env = [(false, eval a env)] := star_cons h
theorem star2 {env : Env} (h : noStar a = true) (h' : noStar b = true) : starEach [a, b] env = [(false, eval a env), (false, eval b env)] := by rw [star_cons h, star1 h']
theorem cI_ok (G : Good C X F k) {f : Expr → E} {tg iter : Expr} (hf : ∀ e, PE X e (rdE (ev F (f e)))) : PI X tg iter (rdI (evi F (cI C f tg iter))) := by
  unfold cI
  split
  · split
    · rename_i x p es pos _
      have ha := cEs_ok (F := F) hf es
      split
      · rename_i hh
        simp only [Bool.and_eq_true] at hh
        obtain ⟨⟨h1, h2⟩, h3⟩ := hh
        obtain ⟨hg, hd⟩ := isGl_ok G h1
        split
        · have hx := eq_of_beq (show (x == ("range" : Str)) = true by assumption)
          subst hx
          simp only [evi]
          exact piv_range1 hg (G.blt _ (by simp [bltNames])) ha (star1 (by simpa using h2))
        · have hx := eq_of_beq (show (x == ("range" : Str)) = true by assumption)
          subst hx
          simp only [List.all_cons, List.all_nil, Bool.and_eq_true, Bool.and_true] at h2
          simp only [evi]
          exact piv_range2 hg (G.blt _ (by simp [bltNames])) ha (star2 h2.1 h2.2) (star1 h2.2)
        · simp only [evi]; exact pi_bad
        · split
          · split
            · have hx := eq_of_beq (show (x == ("enumerate" : Str)) = true by assumption)
              subst hx
              simp only [evi]
              exact piv_enum hg (G.blt _ (by simp [bltNames])) ha (star1 (by simpa using h2))
            · simp only [evi]; exact pi_bad
            · have hx := eq_of_beq (show (x == ("zip" : Str)) = true by assumption)
              subst hx
              simp only [List.all_cons, List.all_nil, Bool.and_eq_true, Bool.and_true] at h2
              simp only [evi]
              exact piv_zip hg (G.blt _ (by simp [bltNames])) ha (star2 h2.1 h2.2) (star1 h2.2)
            · simp only [evi]; exact pi_bad
            · simp only [evi]; exact piv_e (hf _)
          · simp only [evi]; exact piv_e (hf _)
      · simp only [evi]; exact piv_e (hf _)
    · simp only [evi]; exact piv_e (hf _)
  · simp only [evi]; exact pi_bad
theorem asg_cons {env : Env} (h : noStar e = true) : (assignEach (e :: es) env).map (·.2) = assign e env :: (assignEach es env).map (·.2) := by
  cases e <;> first | rfl | cases h
theorem asg_len {env : Env} : ∀ {es : List Expr}, es.all noStar = true → (assignEach es env).length = es.length ∧ (assignEach es env).findIdx? (·.1) = none
  | [], _ => ⟨rfl, rfl⟩
  | e :: es, h => by
    simp only [List.all_cons, Bool.and_eq_true] at h
    obtain ⟨h1, h2⟩ := asg_len (env := env) h.2
    have e1 : assignEach (e :: es) env = (false, assign e env) :: assignEach es env := by
      cases e <;> first | rfl | cases h.1
    rw [e1]
    refine ⟨by simp [h1], ?_⟩
    rw [List.findIdx?_cons]
    simp [h2]
mutual
theorem cG_ok (G : Good C X F k) {sl : List Nat} : ∀ (n : Nat) (tg : Expr), (∀ i ∈ (cG C n tg).slots, i ∈ sl) → PG X tg (rdG sl (gv (cG C n tg)))
  | 0, tg, _ => by simp only [cG, gv]; exact pg_bad
  | n + 1, tg, h => by
    unfold cG at h ⊢
    split
    · rename_i x p
      split
      · rename_i hl
        split
        · rename_i i hi
          simp only [gv]
          refine pgv_name (h i ?_) (by rw [G.N]; exact G.nd) (by rw [G.N]; exact find_at hi) (.inl (by rw [G.sc]; exact hl)) (.inr (by rw [G.sc]; exact hl))
          simp only [hl, hi, Sw.G.slots, List.mem_singleton]
        · simp only [gv]; exact pg_bad
      · rename_i hl hfn
        split
        · rename_i i hi
          simp only [gv]
          refine pgv_name (h i ?_) (by rw [G.N]; exact G.nd) (by rw [G.N]; exact find_at hi) (.inr (by rw [G.sc]; exact hl)) (.inl (by rw [G.fn]; exact hfn))
          simp only [hl, hfn, hi, Sw.G.slots, List.mem_singleton]
        · simp only [gv]; exact pg_bad
      · simp only [gv]; exact pg_bad
    · rename_i es kk p
      split
      · rename_i hs
        simp only [gv]
        refine pgv_tup G.calm (cGs_ok G n es hs fun i hi => h i ?_) (asg_len hs).1 (asg_len hs).2
        simp only [hs, Sw.G.slots]; exact hi
      · simp only [gv]; exact pg_bad
    · simp only [gv]; exact pg_bad
theorem cGs_ok (G : Good C X F k) {sl : List Nat} : ∀ (n : Nat) (es : List Expr), es.all noStar = true → (∀ i ∈ (cGs C n es).slots, i ∈ sl) → PGs X es (rdGs sl (gvs (cGs C n es)))
  | 0, es, _, _ => by
    simp only [cGs, gvs, gv]
    exact ⟨fun _ _ _ _ _ _ _ _ _ h => by
      obtain ⟨_, _, _, ds, _, _, _, _, _, e, _⟩ := h
      unfold gvCons at e
      split at e <;> cases e⟩
  | n + 1, es, hs, h => by
    unfold cGs at h ⊢
    cases es with
    | nil => simp only [gvs]; exact pgvs_nil
    | cons e es =>
      simp only [List.all_cons, Bool.and_eq_true] at hs
      simp only [gvs]
      exact pgvs_cons (cG_ok G n e fun i hi => h i (by simp only [Gs.slots]; exact List.mem_append_left _ hi)) (cGs_ok G n es hs.2 fun i hi => h i (by simp only [Gs.slots]; exact List.mem_append_right _ hi)) (asg_cons hs.1)
end
theorem cBs_and {f : Expr → E} (hf : ∀ e, PE X e (rdE (ev F (f e)))) : ∀ vs : List Expr, PE X (.BoolOp .And vs pos) (rdE (ev F (cBs f .and vs)))
  | [] => by simp only [cBs, ev]; exact pev_bad
  | [a] => by simp only [cBs]; exact pev_one (hf a)
  | a :: b :: r => by
    have ih := cBs_and hf (b :: r)
    simp only [cBs, ev]
    exact pev_and (hf a) ih
theorem cBs_or {f : Expr → E} (hf : ∀ e, PE X e (rdE (ev F (f e)))) : ∀ vs : List Expr, PE X (.BoolOp .Or vs pos) (rdE (ev F (cBs f .or vs)))
  | [] => by simp only [cBs, ev]; exact pev_bad
  | [a] => by simp only [cBs]; exact pev_one (hf a)
  | a :: b :: r => by
    have ih := cBs_or hf (b :: r)
    simp only [cBs, ev]
    exact pev_or (hf a) ih
theorem pwv_bad : PW X e (rdT evBad) := ⟨fun _ _ _ _ _ _ _ h => by obtain ⟨_, _, _, _, _, _, _, e, _⟩ := h; cases e⟩
theorem cBs_andT {f : Expr → E} (hf : ∀ e, PT X e (rdT (ev F (f e)))) : ∀ vs : List Expr, PW X (.BoolOp .And vs pos) (rdT (ev F (cBs f .and vs)))
  | [] => by simp only [cBs, ev]; exact pwv_bad
  | [a] => by simp only [cBs]; exact pwv_and1 (hf a)
  | a :: b :: r => by
    have ih := cBs_andT hf (b :: r)
    simp only [cBs, ev]
    exact pwv_and (hf a) ih
theorem cBs_orT {f : Expr → E} (hf : ∀ e, PT X e (rdT (ev F (f e)))) : ∀ vs : List Expr, PW X (.BoolOp .Or vs pos) (rdT (ev F (cBs f .or vs)))
  | [] => by simp only [cBs, ev]; exact pwv_bad
  | [a] => by simp only [cBs]; exact pwv_or1 (hf a)
  | a :: b :: r => by
    have ih := cBs_orT hf (b :: r)
    simp only [cBs, ev]
    exact pwv_or (hf a) ih
theorem Good.blk (G : Good C X F k) {scope : Scope} (hk : scope.kind = .function) (s : Shared) (H : Hp) (Ca : Addr) (cl : List (Str × Addr)) (fp : List Addr) : Good (C.blk scope) (X.blk s H scope (compEnvC scope cl Ca X.env) fp) F k where
  N := G.N
  nd := G.nd
  sc := by
    show (compEnvC scope cl Ca X.env).scope = relS scope C.sc
    rw [← G.sc]
    rfl
  kind := hk
  fn := fun _ => rfl
  calm := G.calm
  xe := rfl
  room := G.room
  nog := G.nog
  defs := G.defs
  con := G.con
  blt := G.blt
  pl := G.pl
theorem cEo_ok {f : Expr → E} (hf : ∀ e, PE X e (rdE (ev F (f e)))) : ∀ o : Option Expr, PO X o (rdO (evo F (cEo f o)))
  | none => by simp only [cEo, evo]; exact pov_none
  | some e => by simp only [cEo, evo]; exact pov_some (hf e)
def prs (F : Nat → Fn) (f : Expr → E) : List (Option Expr) → List Expr → List (Ev × Ev)
  | some k :: ks, v :: vs => (ev F (f k), ev F (f v)) :: prs F f ks vs
  | _, _ => []
theorem cPs_alt {f : Expr → E} : ∀ (ks : List (Option Expr)) (vs : List Expr), evs F (cPs f ks vs) = altE (prs F f ks vs)
  | [], vs => by simp only [cPs, prs, evs, altE]
  | none :: ks, vs => by simp only [cPs, prs, evs, altE]
  | some k :: ks, [] => by simp only [cPs, prs, evs, altE]
  | some k :: ks, v :: vs => by simp only [cPs, prs, evs, altE, cPs_alt ks vs]
theorem cPs_ok {f : Expr → E} (hf : ∀ e, PE X e (rdE (ev F (f e)))) : ∀ (ks : List (Option Expr)) (vs : List Expr), ks.all (·.isSome) = true → ks.length = vs.length → PPs X pos ks vs ((prs F f ks vs).map fun p => (rdE p.1, rdE p.2))
  | [], [], _, _ => pps_nil
  | [], _ :: _, _, h => by cases h
  | _ :: _, [], _, h => by cases h
  | none :: ks, v :: vs, h, _ => by simp at h
  | some k :: ks, v :: vs, h, hl => pps_cons (hf k) (hf v) (cPs_ok hf ks vs (by simpa using h) (by simpa using hl))
/-- what a comprehension needs -/
theorem blk_ok (G : Good C X F k) {scope : Scope} {n : Nat} {tg iter : Expr} (h : (blkC C.N C.sc scope (ownOf C.N scope) && noSet iter && ((cG (C.blk scope) n tg).slots.all fun i => ((ownOf C.N scope).map (·.2)).contains i)) = true) :
    BlkOk X.N X.env.scope scope (ownOf C.N scope) ∧ scope.kind = .function ∧ noSet iter = true ∧ ∀ i ∈ (cG (C.blk scope) n tg).slots, i ∈ (ownOf C.N scope).map (·.2) := by
  simp only [Bool.and_eq_true] at h
  have hb := blkOk_by h.1.1
  refine ⟨by rw [G.N, G.sc]; exact hb, hb.kind, h.1.2, fun i hi => ?_⟩
  have := List.all_eq_true.mp h.2 i hi
  simpa using this
theorem plain_eq {n : Nat} (h : plainT e = true) : cX (n + 1) C true e = cX (n + 1) C false e := by
  unfold cX
  split <;> first | rfl | cases h | (split <;> first | rfl | simp_all)
theorem cX_ok : ∀ (n : Nat) (C : CC) (X : Cx), Good C X F k → (∀ e, PE X e (rdE (ev F (cX n C false e)))) ∧ ∀ e, PT X e (rdT (ev F (cX n C true e)))
  | 0, C, X, G => ⟨fun e => by simp only [cX, ev]; exact pev_bad, fun e => by simp only [cX, ev]; exact ptv_bad⟩
  | n + 1, C, X, G => by
    obtain ⟨ihE, ihT⟩ := cX_ok n C X G
    have pe : ∀ e, PE X e (rdE (ev F (cX (n + 1) C false e))) := fun e => by
      unfold cX
      split
      · exact cName_ok G
      · exact cConst_ok
      · split
        · rename_i o ho; simp only [ev]; exact pev_bin (bo_ok ho) (ihE _) (ihE _)
        · simp only [ev]; exact pev_bad
      · simp only [ev]; exact pev_not (ihE _)
      · simp only [ev]; exact pev_neg (ihE _)
      · exact cBs_and ihE _
      · exact cBs_or ihE _
      · simp only [ev]; exact pev_if (ihT _) (ihE _) (ihE _)
      · split
        · rename_i hs; simp only [ev]; exact pev_cmp (co_ok G _) (ihE _) (ihE _) (behind_of hs)
        · simp only [ev]; exact pev_bad
      · split
        · rename_i hs; simp only [ev]; exact pev_chain (co_ok G _) (co_ok G _) (ihE _) (ihE _) (ihE _) (last_of hs)
        · simp only [ev]; exact pev_bad
      · simp only [ev]; exact pev_tup (cEs_ok ihE _)
      · simp only [ev]; exact pev_lst (cEs_ok ihE _)
      · unfold dnE
        cases htn : C.tn
        · cases htk : C.tk <;> simp only [ev]
          · exact pev_dnewK
          · exact pev_dnewT
        · simp only [ev]
          exact pev_dnewN
      · split
        · simp only [ev]; exact pev_dispN G.hu (ihE _) (ihE _)
        · split
          · simp only [ev]; exact pev_disp G.hu1 (ihE _) (ihE _)
          · simp only [ev]
            rw [cPs_alt]
            exact pev_dispK (cPs_ok ihE _ _ rfl rfl) rfl rfl (by simp) (by simp)
      · split
        · rename_i hh
          simp only [Bool.and_eq_true] at hh
          have hl := Nat.eq_of_beq_eq_true hh.1.2
          have h15 := Nat.le_of_ble_eq_true hh.2
          simp only [ev]
          rw [cPs_alt]
          exact pev_dispK (cPs_ok ihE _ _ hh.1.1 (by simpa using hl)) hh.1.1 (by simpa using hl) (by simp) (by simpa using h15)
        · simp only [ev]; exact pev_bad
      · simp only [ev]; exact pev_rev (ihE _)
      · simp only [ev]; exact pev_slice (ihE _) (cEo_ok ihE _) (cEo_ok ihE _)
      · split
        · rename_i hs; simp only [ev]; exact pev_ix G.hu (ihE _) (ihE _) (plainIx_of hs)
        · simp only [ev]; exact pev_bad
      · rename_i x p0 y p1 a p2 p3
        split
        · rename_i hh
          simp only [Bool.and_eq_true] at hh
          obtain ⟨⟨⟨⟨⟨⟨h1, h2⟩, h3⟩, h4⟩, h5⟩, h6⟩, h7⟩ := hh
          have h5 := eq_of_beq h5
          have h6 := eq_of_beq h6
          subst h5 h6
          simp only [ev]
          exact pev_lenum G.calm (isGl_ok G h1).1 (G.blt _ (by simp [bltNames])) (isGl_ok G h2).1 (G.blt _ (by simp [bltNames])) (cEs_ok ihE [a]) (star1 h7)
        · split
          · rename_i hh
            simp only [Bool.and_eq_true] at hh
            obtain ⟨⟨⟨⟨⟨⟨h1, h2⟩, h3⟩, h4⟩, h5⟩, h6⟩, h7⟩ := hh
            have h5 := eq_of_beq h5
            have h6 := eq_of_beq h6
            subst h5 h6
            simp only [ev]
            exact pev_tenum G.calm (isGl_ok G h1).1 (G.blt _ (by simp [bltNames])) (isGl_ok G h2).1 (G.blt _ (by simp [bltNames])) (cEs_ok ihE [a]) (star1 h7)
          · split
            · rename_i hh
              simp only [Bool.and_eq_true] at hh
              obtain ⟨⟨⟨⟨⟨⟨h1, h2⟩, h3⟩, h4⟩, h5⟩, h6⟩, h7⟩ := hh
              have h5 := eq_of_beq h5
              have h6 := eq_of_beq h6
              subst h5 h6
              simp only [ev]
              exact pev_lset G.hu G.calm (isGl_ok G h1).1 (G.blt _ (by simp [bltNames])) (isGl_ok G h2).1 (G.blt _ (by simp [bltNames])) (cEs_ok ihE [a]) (star1 h7)
            · exact cCall_ok G ihE
      · rename_i x p0 elt tg iter ifs scope p1 p2
        split
        · rename_i hh
          simp only [Bool.and_eq_true] at hh
          obtain ⟨⟨⟨⟨⟨h1, h2⟩, h3⟩, h4⟩, h5⟩, h6⟩ := hh
          have h3 := eq_of_beq h3
          subst h3
          obtain ⟨hg, hd⟩ := isGl_ok G h1
          obtain ⟨b1, b2, b3, b4⟩ := blk_ok (n := n) (tg := tg) (iter := iter) (scope := scope) G (by simp only [Bool.and_eq_true]; exact ⟨⟨h4, h5⟩, h6⟩)
          split
          · split
            · simp only [ev]
              exact pev_sct G.hu G.calm (by rw [G.N]; exact G.nd) (cI_ok G ihE) b1 (fun s H Ca cl fp => cG_ok (G.blk b2 s H Ca cl fp) n tg b4) (fun _ _ _ _ _ => ptsv_nil) (fun s H Ca cl fp => (cX_ok n _ _ (G.blk b2 s H Ca cl fp)).1 _) (folded_of b3) hg (G.blt _ (by simp [bltNames])) rfl
            simp only [ev]
            exact pev_callB crv_lenS hg (G.blt _ (by simp [bltNames])) boot_len (pav_cons (pev_sc G.calm (by rw [G.N]; exact G.nd) (cI_ok G ihE) b1 (fun s H Ca cl fp => cG_ok (G.blk b2 s H Ca cl fp) n tg b4) (fun _ _ _ _ _ => ptsv_nil) (fun s H Ca cl fp => (cX_ok n _ _ (G.blk b2 s H Ca cl fp)).1 _) (folded_of b3)) pav_nil rfl) (dbg3 hd) (dbg1 hd) rfl rfl
          · simp only [ev]
            exact pev_callB crv_lenS hg (G.blt _ (by simp [bltNames])) boot_len (pav_cons (pev_sc G.calm (by rw [G.N]; exact G.nd) (cI_ok G ihE) b1 (fun s H Ca cl fp => cG_ok (G.blk b2 s H Ca cl fp) n tg b4) (fun s H Ca cl fp => ptsv_one ((cX_ok n _ _ (G.blk b2 s H Ca cl fp)).2 _)) (fun s H Ca cl fp => (cX_ok n _ _ (G.blk b2 s H Ca cl fp)).1 _) (folded_of b3)) pav_nil rfl) (dbg3 hd) (dbg1 hd) rfl rfl
          · simp only [ev]; exact pev_bad
        · simp only [ev]; exact pev_bad
      · rename_i x p0 a p1 _ _
        split
        · rename_i hh
          simp only [Bool.and_eq_true] at hh
          obtain ⟨⟨⟨⟨h1, h2⟩, h3⟩, h4⟩, h5⟩ := hh
          have h4 := eq_of_beq h4
          subst h4
          obtain ⟨hg, hd⟩ := isGl_ok G h2
          simp only [ev]
          exact pev_callTy (crv_listT G.calm) hg (G.blt _ (by simp [bltNames])) PyProof.Rows.boot_list (cEs_ok ihE [a]) (dbg3 hd) (dbg1 hd) (star_cons h5) rfl
        · exact cCall_ok G ihE
      · exact cCall_ok G ihE
      · exact cCallK_ok G ihE
      · exact cMeth_ok G ihE
      · rename_i elt tg iter ifs scope p
        split
        · rename_i hh
          obtain ⟨b1, b2, b3, b4⟩ := blk_ok G hh
          split
          · simp only [ev]
            exact pev_comp G.calm (by rw [G.N]; exact G.nd) (cI_ok G ihE) b1 (fun s H Ca cl fp => cG_ok (G.blk b2 s H Ca cl fp) n tg b4) (fun _ _ _ _ _ => ptsv_nil) (fun s H Ca cl fp => (cX_ok n _ _ (G.blk b2 s H Ca cl fp)).1 _) (folded_of b3)
          · simp only [ev]
            exact pev_comp G.calm (by rw [G.N]; exact G.nd) (cI_ok G ihE) b1 (fun s H Ca cl fp => cG_ok (G.blk b2 s H Ca cl fp) n tg b4) (fun s H Ca cl fp => ptsv_one ((cX_ok n _ _ (G.blk b2 s H Ca cl fp)).2 _)) (fun s H Ca cl fp => (cX_ok n _ _ (G.blk b2 s H Ca cl fp)).1 _) (folded_of b3)
          · simp only [ev]; exact pev_bad
        · simp only [ev]; exact pev_bad
      · rename_i elt tg iter ifs tg1 iter1 ifs1 scope p
        split
        · rename_i hh
          simp only [Bool.and_eq_true] at hh
          obtain ⟨⟨⟨⟨h1, h2⟩, h3⟩, h4⟩, h5⟩ := hh
          obtain ⟨b1, b2, b3, b4⟩ := blk_ok (n := n) (tg := tg) (iter := iter) (scope := scope) G (by simp only [Bool.and_eq_true]; exact ⟨⟨h1, h2⟩, h4⟩)
          have hv : ∀ i ∈ (cG (C.blk scope) n tg1).slots, i ∈ (ownOf C.N scope).map (·.2) := fun i hi => by
            have := List.all_eq_true.mp h5 i hi
            simpa using this
          split
          · simp only [ev]
            exact pev_comp2 G.calm (by rw [G.N]; exact G.nd) (cI_ok G ihE) b1 hv (fun s H Ca cl fp => cG_ok (G.blk b2 s H Ca cl fp) n tg b4) (fun _ _ _ _ _ => ptsv_nil) (fun s H Ca cl fp => cI_ok (G.blk b2 s H Ca cl fp) (cX_ok n _ _ (G.blk b2 s H Ca cl fp)).1) (fun s H Ca cl fp => cG_ok (G.blk b2 s H Ca cl fp) n tg1 fun _ z => z) (fun _ _ _ _ _ => ptsv_nil) (fun s H Ca cl fp => (cX_ok n _ _ (G.blk b2 s H Ca cl fp)).1 _) (folded_of b3) (fun env x => folded_of h3 x)
          · simp only [ev]
            exact pev_comp2 G.calm (by rw [G.N]; exact G.nd) (cI_ok G ihE) b1 hv (fun s H Ca cl fp => cG_ok (G.blk b2 s H Ca cl fp) n tg b4) (fun _ _ _ _ _ => ptsv_nil) (fun s H Ca cl fp => cI_ok (G.blk b2 s H Ca cl fp) (cX_ok n _ _ (G.blk b2 s H Ca cl fp)).1) (fun s H Ca cl fp => cG_ok (G.blk b2 s H Ca cl fp) n tg1 fun _ z => z) (fun s H Ca cl fp => ptsv_one ((cX_ok n _ _ (G.blk b2 s H Ca cl fp)).2 _)) (fun s H Ca cl fp => (cX_ok n _ _ (G.blk b2 s H Ca cl fp)).1 _) (folded_of b3) (fun env x => folded_of h3 x)
          · simp only [ev]; exact pev_bad
        · simp only [ev]; exact pev_bad
      · rename_i kx vx tg iter ifs scope p
        split
        · rename_i hh
          obtain ⟨b1, b2, b3, b4⟩ := blk_ok G hh
          split
          · rw [ev_dcE]
            exact pev_dc C.dk G.hu G.calm (by rw [G.N]; exact G.nd) (cI_ok G ihE) b1 (fun s H Ca cl fp => cG_ok (G.blk b2 s H Ca cl fp) n tg b4) (fun _ _ _ _ _ => ptsv_nil) (fun s H Ca cl fp => (cX_ok n _ _ (G.blk b2 s H Ca cl fp)).1 _) (fun s H Ca cl fp => (cX_ok n _ _ (G.blk b2 s H Ca cl fp)).1 _) (folded_of b3)
          · rw [ev_dcE]
            exact pev_dc C.dk G.hu G.calm (by rw [G.N]; exact G.nd) (cI_ok G ihE) b1 (fun s H Ca cl fp => cG_ok (G.blk b2 s H Ca cl fp) n tg b4) (fun s H Ca cl fp => ptsv_one ((cX_ok n _ _ (G.blk b2 s H Ca cl fp)).2 _)) (fun s H Ca cl fp => (cX_ok n _ _ (G.blk b2 s H Ca cl fp)).1 _) (fun s H Ca cl fp => (cX_ok n _ _ (G.blk b2 s H Ca cl fp)).1 _) (folded_of b3)
          · simp only [ev]; exact pev_bad
        · simp only [ev]; exact pev_bad
      · simp only [ev]; exact pev_bad
    refine ⟨pe, fun e => ?_⟩
    have plain : plainT e = true → PT X e (rdT (ev F (cX (n + 1) C true e))) := fun h1 => by
      rw [plain_eq h1]
      exact ptv_val (pe e) (true_of h1)
    cases e with
    | UnaryOp op x p =>
      cases op with
      | Not => unfold cX; simp only [ev]; exact ptv_not (ihT _)
      | USub => exact plain rfl
      | UAdd => exact plain rfl
      | Invert => exact plain rfl
    | BoolOp op vs p =>
      cases op with
      | And => unfold cX; exact (cBs_andT ihT _).pt
      | Or => unfold cX; exact (cBs_orT ihT _).pt
    | IfExp c a b p => unfold cX; simp only [ev]; exact ptv_bad
    | Compare a ops cs p =>
      unfold cX
      split <;> try (rename_i h; cases h; done)
      all_goals try (simp only [ev]; exact ptv_bad)
      · rename_i h; cases h
        split
        · rename_i hs; simp only [ev]; exact ptv_cmp (co_ok G _) (ihE _) (ihE _) (behind_of hs)
        · simp only [ev]; exact ptv_bad
      · rename_i h; cases h
        split
        · rename_i hs; simp only [ev]; exact ptv_chain (co_ok G _) (co_ok G _) (ihE _) (ihE _) (ihE _) (last_of hs)
        · simp only [ev]; exact ptv_bad
    | _ => exact plain rfl
end
end Sw

/-! Eng16: the translation of statements and defs. -/
namespace Sw
open PySem PySem.Spec PyProof.Rows L2
section
variable {C : CC} {X : Cx} {F : Nat → Fn} {k : Nat} {e a b c : Expr} {es : List Expr} {pos : Pos} {x : Str}
theorem Good.blockKind (G : Good C X F k) : X.env.blockKind = .function := by
  unfold Env.blockKind
  rw [G.sc, G.kind]; rfl
theorem swp_ok (G : Good C X F k) {ts vs : List Expr} {r : Option (List Str)} {k1 k2 : Nat} {p1 p2 : Pos} (h : swp C ts vs = some r) : swappedStores [.Tuple ts k1 p1] (.Tuple vs k2 p2) X.env = pure r := by
  unfold swp at h
  unfold swappedStores
  have hk : ∀ id, X.env.kindOf id = C.sc.names.lookup id := fun id => by unfold Env.kindOf; rw [G.sc]
  have hb : (X.env.blockKind != .function) = false := by rw [G.blockKind]; rfl
  simp only [hb, Bool.or_false, hk]
  split at h
  · rename_i h1
    cases h
    exact if_pos h1
  · rename_i h1
    refine (if_neg h1).trans ?_
    split at h
    · rename_i h2
      cases h
      exact if_pos h2
    · rename_i h2
      refine (if_neg ?_).trans ?_
      · exact h2
      dsimp only at h
      split at h
      · rename_i h3
        cases h
        exact if_pos h3
      · rename_i h3
        refine (if_neg ?_).trans ?_
        · exact h3
        split at h
        · rename_i h4
          cases h
          exact if_pos h4
        · rename_i h4
          refine (if_neg h4).trans ?_
          split at h
          · cases h
          · rename_i h5
            cases h
            exact if_neg h5
theorem swB_ok (G : Good C X F k) {y : Str} {py : Pos} {elt : Expr} {gs : List Comprehension} {scope : Scope} {l : Nat} : swapsWith (.ListComp elt gs scope pos) (some (.Name y py)) l X.env = pure (swB C y py scope pos) := by
  unfold swapsWith swB isLoc
  have hk : X.env.kindOf y = C.sc.names.lookup y := by unfold Env.kindOf; rw [G.sc]
  simp only [G.blockKind, hk, Expr.pos]
  cases h : C.sc.names.lookup y with
  | none => simp
  | some kk => cases kk <;> first | rfl | (simp; done)
theorem swB_okD (G : Good C X F k) {y : Str} {py : Pos} {kx vx : Expr} {gs : List Comprehension} {scope : Scope} {l : Nat} : swapsWith (.DictComp kx vx gs scope pos) (some (.Name y py)) l X.env = pure (swB C y py scope pos) := by
  unfold swapsWith swB isLoc
  have hk : X.env.kindOf y = C.sc.names.lookup y := by unfold Env.kindOf; rw [G.sc]
  simp only [G.blockKind, hk, Expr.pos]
  cases h : C.sc.names.lookup y with
  | none => simp
  | some kk => cases kk <;> first | rfl | (simp; done)
end
section
variable {C : CC} {X : Cx} {F : Nat → Fn} {k : Nat} {e a b c : Expr} {es : List Expr} {pos : Pos} {x : Str}
theorem sameStrs_ok : ∀ {a b : List Str}, sameStrs a b = true → a = b
  | [], [], _ => rfl
  | x :: r, y :: s, h => by
    simp only [sameStrs, Bool.and_eq_true] at h
    rw [eq_of_beq h.1, sameStrs_ok h.2]
  | [], _ :: _, h => by cases h
  | _ :: _, [], h => by cases h
theorem isLoc_ok (G : Good C X F k) (h : isLoc C x = true) : X.env.scope.names.lookup x = some .local := by
  unfold isLoc at h
  rw [G.sc]
  split at h
  · assumption
  · cases h
theorem cAsgN_ok (G : Good C X F k) {v : E} {py : Pos} (he : PE X e (rdE (ev F v))) (hs : swapsWith e (some (.Name x py)) pos.line X.env = pure false) : PS X (.Assign [.Name x py] e pos) (rdS (sv F (cAsgN C x v))) := by
  unfold cAsgN
  split
  · rename_i hl
    split
    · rename_i i hi
      simp only [sv, gv]
      exact psv_set (by rw [G.N]; exact G.nd) (by rw [G.N]; exact find_at hi) (.inl (by rw [G.sc]; exact hl)) he hs (.inr (by rw [G.sc]; exact hl))
    · simp only [sv]; exact psv_bad
  · rename_i hl hfn
    split
    · rename_i i hi
      simp only [sv, gv]
      exact psv_set (by rw [G.N]; exact G.nd) (by rw [G.N]; exact find_at hi) (.inr (by rw [G.sc]; exact hl)) he hs (.inl (by rw [G.fn]; exact hfn))
    · simp only [sv]; exact psv_bad
  · simp only [sv]; exact psv_bad
theorem cEs2 {f : Expr → E} (hf : ∀ e, PE X e (rdE (ev F (f e)))) (es : List Expr) : PA X es (rdA (evs F (cEs f es))) := cEs_ok hf es
theorem cPar_ok (G : Good C X F k) {n : Nat} {ts vs : List Expr} {k1 k2 : Nat} {p1 p2 : Pos} : PS X (.Assign [.Tuple ts k1 p1] (.Tuple vs k2 p2) pos) (rdS (sv F (cPar C n ts vs))) := by
  have ihE := (cX_ok (F := F) n C X G).1
  unfold cPar
  split
  · rename_i hw
    split
    · rename_i hs
      simp only [sv, gv, ev]
      exact psv_asg (sl := (cGs C n ts).slots) (pev_tup (cEs_ok ihE vs)) (pgv_tup G.calm (cGs_ok G n ts hs fun _ h => h) (asg_len hs).1 (asg_len hs).2) rfl (swp_ok G hw) rfl
    · simp only [sv]; exact psv_bad
  · rename_i names hw
    split
    · rename_i x px y py a b
      split
      · rename_i i j hh hi hj
        simp only [Bool.and_eq_true] at hh
        have hnm := sameStrs_ok hh.1.1
        split
        · rename_i hij
          simp only [sv, gv, gvs, ev]
          refine psv_par G.calm (by rw [G.N]; exact G.nd) (by rw [G.N]; exact find_at hi) (by rw [G.N]; exact find_at hj) (fun z => ?_) (isLoc_ok G hh.1.2) (isLoc_ok G hh.2) (cEs_ok ihE _) (by rw [swp_ok G hw, hnm])
          rw [z, Nat.beq_refl] at hij; cases hij
        · simp only [sv]; exact psv_bad
      · simp only [sv]; exact psv_bad
    · rename_i x px y py z pz a b c
      split
      · rename_i i j l hh hi hj hl
        simp only [Bool.and_eq_true] at hh
        have hnm := sameStrs_ok hh.1.1.1
        split
        · rename_i hij
          simp only [Bool.or_eq_false_iff] at hij
          simp only [sv, gv, gvs, ev]
          refine psv_par3 G.calm (by rw [G.N]; exact G.nd) (by rw [G.N]; exact find_at hi) (by rw [G.N]; exact find_at hj) (by rw [G.N]; exact find_at hl) (fun z => ?_) (fun z => ?_) (fun z => ?_) (isLoc_ok G hh.1.1.2) (isLoc_ok G hh.1.2) (isLoc_ok G hh.2) (cEs_ok ihE _) (by rw [swp_ok G hw, hnm])
          · have := hij.1.1; rw [z, Nat.beq_refl] at this; cases this
          · have := hij.1.2; rw [z, Nat.beq_refl] at this; cases this
          · have := hij.2; rw [z, Nat.beq_refl] at this; cases this
        · simp only [sv]; exact psv_bad
      · simp only [sv]; exact psv_bad
    · simp only [sv]; exact psv_bad
  · simp only [sv]; exact psv_bad
/-- «y = [..]» that stores at once -/
theorem cAsgC_ok (G : Good C X F k) {n : Nat} {y : Str} {py spos : Pos} {elt tg iter : Expr} {ifs : List Expr} {scope : Scope} (hsw : swB C y py scope pos = true) :
    PS X (.Assign [.Name y py] (.ListComp elt [⟨tg, iter, ifs, 0⟩] scope pos) spos) (rdS (sv F (cAsgN C y (cX (n + 1) C false (.ListComp elt [⟨tg, iter, ifs, 0⟩] scope pos))))) := by
  have ihE := (cX_ok (F := F) n C X G).1
  have hl : isLoc C y = true := by unfold swB at hsw; simp only [Bool.and_eq_true] at hsw; exact hsw.1.1
  have hl' : C.sc.names.lookup y = some .local := by rw [← G.sc]; exact isLoc_ok G hl
  have hs := swB_ok (pos := pos) (py := py) (y := y) (scope := scope) (elt := elt) (gs := [⟨tg, iter, ifs, 0⟩]) (l := spos.line) G
  rw [hsw] at hs
  unfold cAsgN
  rw [hl']
  dsimp only
  split
  · rename_i i hi
    simp only [sv, gv, cX]
    split
    · rename_i hh
      obtain ⟨b1, b2, b3, b4⟩ := blk_ok G hh
      split
      · simp only [ev]
        exact psv_setComp G.calm (by rw [G.N]; exact G.nd) (by rw [G.N]; exact find_at hi) (by rw [G.sc]; exact hl') hs (cI_ok G ihE) b1 (fun s H Ca cl fp => cG_ok (G.blk b2 s H Ca cl fp) n tg b4) (fun _ _ _ _ _ => ptsv_nil) (fun s H Ca cl fp => (cX_ok n _ _ (G.blk b2 s H Ca cl fp)).1 _) (folded_of b3)
      · simp only [ev]
        exact psv_setComp G.calm (by rw [G.N]; exact G.nd) (by rw [G.N]; exact find_at hi) (by rw [G.sc]; exact hl') hs (cI_ok G ihE) b1 (fun s H Ca cl fp => cG_ok (G.blk b2 s H Ca cl fp) n tg b4) (fun s H Ca cl fp => ptsv_one ((cX_ok n _ _ (G.blk b2 s H Ca cl fp)).2 _)) (fun s H Ca cl fp => (cX_ok n _ _ (G.blk b2 s H Ca cl fp)).1 _) (folded_of b3)
      · simp only [ev]
        exact PS.of psv_bad fun D σ H h => by obtain ⟨m, S, ρ, R, E, q⟩ := h; exact ⟨m, S, ρ, R, E, q⟩
    · simp only [ev]
      exact PS.of psv_bad fun D σ H h => by obtain ⟨m, S, ρ, R, E, q⟩ := h; exact ⟨m, S, ρ, R, E, q⟩
  · simp only [sv]; exact psv_bad
/-- «y = {..}» that stores at once -/
theorem cAsgD_ok (G : Good C X F k) {n : Nat} {y : Str} {py spos : Pos} {kx vx tg iter : Expr} {ifs : List Expr} {scope : Scope} (hsw : swB C y py scope pos = true) :
    PS X (.Assign [.Name y py] (.DictComp kx vx [⟨tg, iter, ifs, 0⟩] scope pos) spos) (rdS (sv F (cAsgN C y (cX (n + 1) C false (.DictComp kx vx [⟨tg, iter, ifs, 0⟩] scope pos))))) := by
  have ihE := (cX_ok (F := F) n C X G).1
  have hl : isLoc C y = true := by unfold swB at hsw; simp only [Bool.and_eq_true] at hsw; exact hsw.1.1
  have hl' : C.sc.names.lookup y = some .local := by rw [← G.sc]; exact isLoc_ok G hl
  have hs := swB_okD (pos := pos) (py := py) (y := y) (scope := scope) (kx := kx) (vx := vx) (gs := [⟨tg, iter, ifs, 0⟩]) (l := spos.line) G
  rw [hsw] at hs
  unfold cAsgN
  rw [hl']
  dsimp only
  split
  · rename_i i hi
    simp only [sv, gv, cX]
    split
    · rename_i hh
      obtain ⟨b1, b2, b3, b4⟩ := blk_ok G hh
      split
      · rw [ev_dcE]
        exact psv_setDc C.dk G.hu G.calm (by rw [G.N]; exact G.nd) (by rw [G.N]; exact find_at hi) (by rw [G.sc]; exact hl') hs (cI_ok G ihE) b1 (fun s H Ca cl fp => cG_ok (G.blk b2 s H Ca cl fp) n tg b4) (fun _ _ _ _ _ => ptsv_nil) (fun s H Ca cl fp => (cX_ok n _ _ (G.blk b2 s H Ca cl fp)).1 _) (fun s H Ca cl fp => (cX_ok n _ _ (G.blk b2 s H Ca cl fp)).1 _) (folded_of b3)
      · rw [ev_dcE]
        exact psv_setDc C.dk G.hu G.calm (by rw [G.N]; exact G.nd) (by rw [G.N]; exact find_at hi) (by rw [G.sc]; exact hl') hs (cI_ok G ihE) b1 (fun s H Ca cl fp => cG_ok (G.blk b2 s H Ca cl fp) n tg b4) (fun s H Ca cl fp => ptsv_one ((cX_ok n _ _ (G.blk b2 s H Ca cl fp)).2 _)) (fun s H Ca cl fp => (cX_ok n _ _ (G.blk b2 s H Ca cl fp)).1 _) (fun s H Ca cl fp => (cX_ok n _ _ (G.blk b2 s H Ca cl fp)).1 _) (folded_of b3)
      · simp only [ev]
        exact PS.of psv_bad fun D σ H h => by obtain ⟨m, S, ρ, R, E, q⟩ := h; exact ⟨m, S, ρ, R, E, q⟩
    · simp only [ev]
      exact PS.of psv_bad fun D σ H h => by obtain ⟨m, S, ρ, R, E, q⟩ := h; exact ⟨m, S, ρ, R, E, q⟩
  · simp only [sv]; exact psv_bad
/-- «y = [..]» of two loops that stores at once -/
theorem cAsgC2_ok (G : Good C X F k) {n : Nat} {y : Str} {py spos : Pos} {elt tg iter tg1 iter1 : Expr} {ifs ifs1 : List Expr} {scope : Scope} (hsw : swB C y py scope pos = true) :
    PS X (.Assign [.Name y py] (.ListComp elt [⟨tg, iter, ifs, 0⟩, ⟨tg1, iter1, ifs1, 0⟩] scope pos) spos) (rdS (sv F (cAsgN C y (cX (n + 1) C false (.ListComp elt [⟨tg, iter, ifs, 0⟩, ⟨tg1, iter1, ifs1, 0⟩] scope pos))))) := by
  have ihE := (cX_ok (F := F) n C X G).1
  have hl : isLoc C y = true := by unfold swB at hsw; simp only [Bool.and_eq_true] at hsw; exact hsw.1.1
  have hl' : C.sc.names.lookup y = some .local := by rw [← G.sc]; exact isLoc_ok G hl
  have hs := swB_ok (pos := pos) (py := py) (y := y) (scope := scope) (elt := elt) (gs := [⟨tg, iter, ifs, 0⟩, ⟨tg1, iter1, ifs1, 0⟩]) (l := spos.line) G
  rw [hsw] at hs
  unfold cAsgN
  rw [hl']
  dsimp only
  split
  · rename_i i hi
    simp only [sv, gv, cX]
    split
    · rename_i hh
      simp only [Bool.and_eq_true] at hh
      obtain ⟨⟨⟨⟨h1, h2⟩, h3⟩, h4⟩, h5⟩ := hh
      obtain ⟨b1, b2, b3, b4⟩ := blk_ok (n := n) (tg := tg) (iter := iter) (scope := scope) G (by simp only [Bool.and_eq_true]; exact ⟨⟨h1, h2⟩, h4⟩)
      have hv : ∀ i ∈ (cG (C.blk scope) n tg1).slots, i ∈ (ownOf C.N scope).map (·.2) := fun i hi => by
        have := List.all_eq_true.mp h5 i hi
        simpa using this
      split
      · simp only [ev]
        exact psv_setComp2 G.calm (by rw [G.N]; exact G.nd) (by rw [G.N]; exact find_at hi) (by rw [G.sc]; exact hl') hs (cI_ok G ihE) b1 hv (fun s H Ca cl fp => cG_ok (G.blk b2 s H Ca cl fp) n tg b4) (fun _ _ _ _ _ => ptsv_nil) (fun s H Ca cl fp => cI_ok (G.blk b2 s H Ca cl fp) (cX_ok n _ _ (G.blk b2 s H Ca cl fp)).1) (fun s H Ca cl fp => cG_ok (G.blk b2 s H Ca cl fp) n tg1 fun _ z => z) (fun _ _ _ _ _ => ptsv_nil) (fun s H Ca cl fp => (cX_ok n _ _ (G.blk b2 s H Ca cl fp)).1 _) (folded_of b3) (fun env x => folded_of h3 x)
      · simp only [ev]
        exact psv_setComp2 G.calm (by rw [G.N]; exact G.nd) (by rw [G.N]; exact find_at hi) (by rw [G.sc]; exact hl') hs (cI_ok G ihE) b1 hv (fun s H Ca cl fp => cG_ok (G.blk b2 s H Ca cl fp) n tg b4) (fun _ _ _ _ _ => ptsv_nil) (fun s H Ca cl fp => cI_ok (G.blk b2 s H Ca cl fp) (cX_ok n _ _ (G.blk b2 s H Ca cl fp)).1) (fun s H Ca cl fp => cG_ok (G.blk b2 s H Ca cl fp) n tg1 fun _ z => z) (fun s H Ca cl fp => ptsv_one ((cX_ok n _ _ (G.blk b2 s H Ca cl fp)).2 _)) (fun s H Ca cl fp => (cX_ok n _ _ (G.blk b2 s H Ca cl fp)).1 _) (folded_of b3) (fun env x => folded_of h3 x)
      · simp only [ev]
        exact PS.of psv_bad fun D σ H h => by obtain ⟨m, S, ρ, R, E, q⟩ := h; exact ⟨m, S, ρ, R, E, q⟩
    · simp only [ev]
      exact PS.of psv_bad fun D σ H h => by obtain ⟨m, S, ρ, R, E, q⟩ := h; exact ⟨m, S, ρ, R, E, q⟩
  · simp only [sv]; exact psv_bad
theorem cAsg_ok (G : Good C X F k) {n : Nat} {tg v : Expr} : PS X (.Assign [tg] v pos) (rdS (sv F (cAsg C n tg v))) := by
  have ihE := (cX_ok (F := F) n C X G).1
  unfold cAsg
  split
  · rename_i x py
    split
    · rename_i hn; exact cAsgN_ok G (ihE _) (swap_of hn)
    · split
      · rename_i elt tg iter ifs scope pos' hn
        split
        · rename_i hsw
          refine cAsgN_ok G (ihE _) ?_
          rw [swB_ok G, hsw]
        · rename_i hsw
          cases n with
          | zero => simp only [sv]; exact psv_bad
          | succ n => exact cAsgC_ok G hsw
      · rename_i hn
        split
        · rename_i hsw
          refine cAsgN_ok G (ihE _) ?_
          rw [swB_ok G, hsw]
        · rename_i hsw
          cases n with
          | zero => simp only [sv]; exact psv_bad
          | succ n => exact cAsgC2_ok G hsw
      · rename_i hn
        split
        · rename_i hsw
          refine cAsgN_ok G (ihE _) ?_
          rw [swB_okD G, hsw]
        · rename_i hsw
          cases n with
          | zero => simp only [sv]; exact psv_bad
          | succ n => exact cAsgD_ok G hsw
      · simp only [sv]; exact psv_bad
  · rename_i ts k1 p1
    split
    · exact cPar_ok G
    · rename_i hv
      split
      · rename_i hh
        obtain ⟨hs, hn⟩ := Bool.and_eq_true_iff.mp hh
        simp only [sv, gv]
        refine psv_asg (sl := (cGs C n ts).slots) (ihE _) (pgv_tup G.calm (cGs_ok G n ts hs fun _ h => h) (asg_len hs).1 (asg_len hs).2) (show swapsWithSole [.Tuple ts k1 p1] v pos.line X.env = pure false from swap_of (t := some (.Tuple ts k1 p1)) (l := pos.line) (env := X.env) hn) (sws_of ?_) rfl
        cases v <;> first | rfl | exact absurd rfl (hv _ _ _)
      · simp only [sv]; exact psv_bad
  · simp only [sv]; exact psv_put G.hu (ihE _) (ihE _) (ihE _) swap_sub
  · simp only [sv]; exact psv_bad
theorem psv_retN : PS X (.Return none pos) (rdS (svRet (evC .non))) := PS.of ps_retN fun D σ H h => by
  obtain ⟨m, S, ρ, R, E, q⟩ := h
  exact q m H .non (Ext.refl R) rfl
theorem ao_ok {o : Operator} {b : Ao} (h : cAo o = some b) : OpR X (inplaceOp o) (rd2 (aoD b)) := by
  cases o <;> simp only [cAo] at h <;> cases h
  · exact opv_iadd
  · exact opv_isub
mutual
theorem cT_ok (G : Good C X F k) : ∀ (n : Nat) (st : Stmt), PS X st (rdS (sv F (cT n C st)))
  | 0, st => by simp only [cT, sv]; exact psv_bad
  | n + 1, st => by
    have ih := cX_ok (F := F) n C X G
    have po : PassesOwn (model X.prog X.w) X.A X.env X.xe := by rw [G.xe]; exact PassesOwn.never
    unfold cT
    split
    · split
      · rename_i hn; simp only [sv]; exact psv_expr (ih.1 _) (swap_of hn)
      · simp only [sv]; exact psv_bad
    · simp only [sv]; exact psv_ret (ih.1 _)
    · simp only [sv, ev]; exact psv_retN
    · exact cAsg_ok G
    · split
      · rename_i o i ho hl hi
        simp only [sv]
        exact psv_aug (by rw [G.N]; exact G.nd) (by rw [G.N]; exact find_at hi) (.inl (by rw [G.sc]; exact hl)) (ih.1 _) (ao_ok ho) (.inr (by rw [G.sc]; exact hl))
      · rename_i o i ho hl hfn hi
        simp only [sv]
        exact psv_aug (by rw [G.N]; exact G.nd) (by rw [G.N]; exact find_at hi) (.inr (by rw [G.sc]; exact hl)) (ih.1 _) (ao_ok ho) (.inl (by rw [G.fn]; exact hfn))
      · simp only [sv]; exact psv_bad
    · simp only [sv]; exact psv_if (ih.2 _) (cTs_ok G n _) (cTs_ok G n _)
    · simp only [sv]; exact psv_while po (ih.2 _) (cTs_ok G n _)
    · split
      · rename_i hs
        simp only [sv]
        exact psv_for (sl := (cG C n _).slots) po G.calm (cI_ok G ih.1) (cG_ok G n _ fun _ h => h) (cTs_ok G n _) (folded_of hs)
      · simp only [sv]; exact psv_bad
    · simp only [sv]; exact psv_pass
    · simp only [sv]; exact psv_break
    · simp only [sv]; exact psv_cont
    · simp only [sv]; exact psv_bad
theorem cTs_ok (G : Good C X F k) : ∀ (n : Nat) (ss : List Stmt), PSs X ss (rdS (svs F (cTs n C ss)))
  | 0, ss => by
    simp only [cTs, svs, sv]
    exact PSs.of pss_never fun D σ H h => by
      obtain ⟨m, S, ρ, R, E, q⟩ := h
      exact q
  | n + 1, ss => by
    unfold cTs
    cases ss with
    | nil => simp only [svs]; exact psv_nil
    | cons s r => simp only [svs]; exact psv_cons (cT_ok G n s) (cTs_ok G n r)
end
end
end Sw

/-! Eng17: the defs of a module, all at once, by depth of calls. -/
namespace Sw
open PySem PySem.Spec PyProof.Rows L2
/-- a def: its name, its text, its parameters, its names, its dicts' keys are tuples, fuel of its while loops -/
structure Df where
  x : Str
  st : Stmt
  ps : List Str
  N : List Str
  tk : Bool
  wn : Nat
  pl : List (Str × List Str) := []
  tn : Bool := false
def Df.cc (fs : List Str) (cs : List (Str × D)) (d : Df) : CC := ⟨d.N, defScope d.st, fun _ => true, fs, cs, d.tk, d.wn, d.pl, d.tn⟩
structure Bd where
  n : Nat
  ar : Nat
  b : Ts
def badFn : Fn := fun _ _ => .bad
/-- the defs that may call k deep -/
def tabF (bs : List Bd) : Nat → Nat → Fn
  | 0, _ => badFn
  | k + 1, i => match bs[i]? with
    | some b => fnSem b.n b.ar (svs (tabF bs k) b.b)
    | none => badFn
/-- what must hold of one def -/
structure DfOk (K : Frg) (mg : Str → Option Value) (fs : List Str) (cs : List (Str × D)) (fu : Nat) (d : Df) (b : Bd) : Prop where
  fn : ∃ f fd, FunD K d.x d.x (defArgs d.st) (defBody d.st) (defScope d.st) [] [] f fd ∧ mg d.x = some (.ref f)
  sc : FnScope d.N d.ps (defScope d.st)
  bd : ∀ (kV doc pm : Value) (an : Option Addr) (cdv ct : Value) (us : List Value), us.length = d.ps.length → bindArgs (PySem.W.fnOf d.x d.x (defArgs d.st) (defBody d.st) (defScope d.st) .none kV doc pm an cdv ct) ⟨us, []⟩ = pure (d.ps.zip us)
  tx : cTs fu (d.cc fs cs) (defBody d.st) = b.b
  n : d.N.length = b.n
  ar : d.ps.length = b.ar
  pp : plainA (defArgs d.st) d.ps := by exact ⟨rfl, rfl, rfl, rfl, rfl⟩
  pk : ∀ x ps, d.pl.lookup x = some ps → PsOk K mg x ps := by exact fun x ps h => nomatch (show (none : Option (List Str)) = some ps from h)
inductive AllOk (K : Frg) (mg : Str → Option Value) (fs : List Str) (cs : List (Str × D)) (fu : Nat) : List Str → List Bd → Prop where
  | nil : AllOk K mg fs cs fu [] []
  | cons {d : Df} {b : Bd} {xs : List Str} {bs : List Bd} (h : DfOk K mg fs cs fu d b) (r : AllOk K mg fs cs fu xs bs) : AllOk K mg fs cs fu (d.x :: xs) (b :: bs)
theorem AllOk.get {K : Frg} {mg : Str → Option Value} {fs : List Str} {cs : List (Str × D)} {fu : Nat} : ∀ {xs : List Str} {bs : List Bd}, AllOk K mg fs cs fu xs bs → ∀ (i : Nat) (x : Str), xs[i]? = some x → ∃ d b, DfOk K mg fs cs fu d b ∧ d.x = x ∧ bs[i]? = some b
  | _, _, .nil, i, x, h => by simp at h
  | _, _, .cons h r, 0, x, e => ⟨_, _, h, by simpa using e, rfl⟩
  | _, _, .cons h r, i + 1, x, e => r.get i x (by simpa using e)
structure Home (mg : Str → Option Value) (cs : List (Str × D)) : Prop where
  con : ∀ x d, cs.lookup x = some d → ∃ v u, mg x = some u ∧ RelV v u ∧ ∀ m k H, RD m k H d v
  blt : ∀ x ∈ bltNames, mg x = none
section
variable {P : Program} {w : World} {K : Frg} {mg : Str → Option Value} {base : Heap} {fs : List Str} {cs : List (Str × D)} {fu : Nat} {bs : List Bd}
theorem def_bad {d : Df} {b : Bd} (h : DfOk K mg fs cs fu d b) {k : Nat} : Def P w K mg base k d.x b.ar badFn := by
  obtain ⟨f, fd, F, hm⟩ := h.fn
  refine ⟨⟨f, fd, d.ps, ⟨fun vs H Q E q => q.1.trans h.ar.symm, fun A outer s H args us vs Q E _ _ _ _ _ q => ?_⟩, hm, F.kp, F.bindsN h.bd, FunD.look F h.pp⟩, fun _ _ _ _ e => by cases e⟩
  obtain ⟨_, _, _, _, _, _, _, _, e, _⟩ := q
  cases e
theorem defs_ok (hA : AllOk K mg fs cs fu fs bs) (hH : Home mg cs) : ∀ (k i : Nat) (x : Str), fs[i]? = some x → ∃ ar, Def P w K mg base k x ar (tabF bs k i)
  | 0, i, x, e => by
    obtain ⟨d, b, h, rfl, _⟩ := hA.get i x e
    exact ⟨b.ar, def_bad h⟩
  | k + 1, i, x, e => by
    obtain ⟨d, b, h, rfl, eb⟩ := hA.get i x e
    refine ⟨b.ar, ?_⟩
    unfold tabF
    rw [eb]
    dsimp only
    obtain ⟨f, fd, F, hm⟩ := h.fn
    refine ⟨⟨f, fd, d.ps, fnG_of F h.sc (fun vs H Q E q => q.1.trans h.ar.symm) (fun cdv A outer s H vs Q E hr hn q => ?_), hm, F.kp, F.bindsN h.bd, FunD.look F h.pp⟩, fun ds S r S' e => fn_len e⟩
    have G : Good (d.cc fs cs) (cxOf CX0 P w K mg base d.N d.x (defScope d.st) f cdv A outer s H E).nox (tabF bs k) k :=
      { N := rfl, nd := h.sc.nd, sc := rfl, kind := h.sc.kind, fn := fun _ => rfl, calm := rfl, xe := rfl, room := hr, nog := hn, defs := fun i x e => defs_ok hA hH k i x e, con := hH.con, blt := hH.blt, pl := h.pk }
    have T := cTs_ok G fu (defBody d.st)
    rw [h.tx] at T
    exact ⟨_, PSs.nox T, rd_fn h.n q.2⟩
end
end Sw

/-! Eng18: results that are known; laws that look at nothing. -/
namespace Sw
open PySem PySem.Spec PyProof.Rows L2
def beqS (a b : Str) : Bool := decide (a = b)
mutual
def beqD : D → D → Bool
  | .non, .non => true
  | .bl a, .bl b => a == b
  | .int i, .int j => decide (i = j)
  | .str a, .str b => beqS a b
  | .tup xs, .tup ys => beqDs xs ys
  | .ref n, .ref k => Nat.beq n k
  | _, _ => false
def beqDs : List D → List D → Bool
  | [], [] => true
  | x :: xs, y :: ys => beqD x y && beqDs xs ys
  | _, _ => false
end
mutual
theorem beqD_ok : ∀ {x y : D}, beqD x y = true → x = y
  | .non, .non, _ => rfl
  | .bl a, .bl b, h => by simp only [beqD] at h; rw [eq_of_beq h]
  | .int a, .int b, h => by simp only [beqD] at h; rw [of_decide_eq_true h]
  | .str a, .str b, h => by simp only [beqD, beqS] at h; rw [of_decide_eq_true h]
  | .tup xs, .tup ys, h => by simp only [beqD] at h; rw [beqDs_ok h]
  | .ref a, .ref b, h => by simp only [beqD] at h; rw [Nat.eq_of_beq_eq_true h]
  | .non, .bl _, h | .non, .int _, h | .non, .str _, h | .non, .tup _, h | .non, .ref _, h => by simp [beqD] at h
  | .bl _, .non, h | .bl _, .int _, h | .bl _, .str _, h | .bl _, .tup _, h | .bl _, .ref _, h => by simp [beqD] at h
  | .int _, .non, h | .int _, .bl _, h | .int _, .str _, h | .int _, .tup _, h | .int _, .ref _, h => by simp [beqD] at h
  | .str _, .non, h | .str _, .bl _, h | .str _, .int _, h | .str _, .tup _, h | .str _, .ref _, h => by simp [beqD] at h
  | .tup _, .non, h | .tup _, .bl _, h | .tup _, .int _, h | .tup _, .str _, h | .tup _, .ref _, h => by simp [beqD] at h
  | .ref _, .non, h | .ref _, .bl _, h | .ref _, .int _, h | .ref _, .str _, h | .ref _, .tup _, h => by simp [beqD] at h
theorem beqDs_ok : ∀ {xs ys : List D}, beqDs xs ys = true → xs = ys
  | [], [], _ => rfl
  | x :: xs, y :: ys, h => by simp only [beqDs, Bool.and_eq_true] at h; rw [beqD_ok h.1, beqDs_ok h.2]
  | [], _ :: _, h => by simp [beqDs] at h
  | _ :: _, [], h => by simp [beqDs] at h
end
def beqO : O → O → Bool
  | .lst xs, .lst ys => beqDs xs ys
  | .frz xs, .frz ys => beqDs xs ys
  | _, _ => false
theorem beqO_ok {x y : O} (h : beqO x y = true) : x = y := by
  unfold beqO at h
  split at h
  · rw [beqDs_ok h]
  · rw [beqDs_ok h]
  · cases h
def beqOs : List O → List O → Bool
  | [], [] => true
  | x :: xs, y :: ys => beqO x y && beqOs xs ys
  | _, _ => false
theorem beqOs_ok : ∀ {xs ys : List O}, beqOs xs ys = true → xs = ys
  | [], [], _ => rfl
  | x :: xs, y :: ys, h => by simp only [beqOs, Bool.and_eq_true] at h; rw [beqO_ok h.1, beqOs_ok h.2]
  | [], _ :: _, h => by simp [beqOs] at h
  | _ :: _, [], h => by simp [beqOs] at h
def beqNs : List Nat → List Nat → Bool
  | [], [] => true
  | x :: xs, y :: ys => Nat.beq x y && beqNs xs ys
  | _, _ => false
theorem beqNs_ok : ∀ {xs ys : List Nat}, beqNs xs ys = true → xs = ys
  | [], [], _ => rfl
  | x :: xs, y :: ys, h => by simp only [beqNs, Bool.and_eq_true] at h; rw [Nat.eq_of_beq_eq_true h.1, beqNs_ok h.2]
  | [], _ :: _, h => by simp [beqNs] at h
  | _ :: _, [], h => by simp [beqNs] at h
def beqSto (S T : Sto) : Bool := beqOs S.objs T.objs && beqNs S.bs T.bs && (S.dirty == T.dirty)
theorem beqSto_ok {S T : Sto} (h : beqSto S T = true) : S = T := by
  unfold beqSto at h
  simp only [Bool.and_eq_true] at h
  cases S; cases T
  simp only at h
  rw [beqOs_ok h.1.1, beqNs_ok h.1.2, eq_of_beq h.2]
/-- a known result -/
structure Mo where
  i : Nat
  ds : List D
  S : Sto
  d : D
  T : Sto
def Mo.hit (e : Mo) (i : Nat) (ds : List D) (S : Sto) : Bool := Nat.beq e.i i && beqDs e.ds ds && beqSto e.S S
def memoF (F : Nat → Fn) : List Mo → Nat → Fn
  | [], i, ds, S => F i ds S
  | e :: r, i, ds, S => match e.hit i ds S with
    | true => .ok e.d e.T
    | false => memoF F r i ds S
def Mo.Ok (F : Nat → Fn) (e : Mo) : Prop := F e.i e.ds e.S = .ok e.d e.T
theorem memoF_eq {F : Nat → Fn} : ∀ {es : List Mo}, (∀ e ∈ es, e.Ok F) → memoF F es = F
  | [], _ => rfl
  | e :: r, h => by
    have ih := memoF_eq (F := F) (es := r) fun e he => h e (List.mem_cons_of_mem _ he)
    have h0 := h e List.mem_cons_self
    funext i ds S
    simp only [memoF]
    split
    · rename_i hh
      unfold Mo.hit at hh
      simp only [Bool.and_eq_true] at hh
      rw [← Nat.eq_of_beq_eq_true hh.1.1, ← beqDs_ok hh.1.2, ← beqSto_ok hh.2]
      exact h0.symm
    · rw [ih]
theorem tab_at {bs : List Bd} {k i : Nat} {b : Bd} (h : bs[i]? = some b) : tabF bs (k + 1) i = fnSem b.n b.ar (svs (tabF bs k) b.b) := by
  rw [tabF, h]
theorem mo_nil {F : Nat → Fn} : ∀ e ∈ ([] : List Mo), e.Ok F := fun _ h => nomatch h
theorem mo_cons {F : Nat → Fn} {e : Mo} {r : List Mo} (h : e.Ok F) (t : ∀ e ∈ r, e.Ok F) : ∀ x ∈ e :: r, x.Ok F := fun x hx => (List.mem_cons.mp hx).elim (fun z => z ▸ h) fun z => t x z
/-! ### a law that looks at nothing -/
def isRT : SR → Bool
  | .rt (.bl true) _ => true
  | _ => false
def spG : Sp := fun vs _ Q _ => vs.length = 1 ∧ ∀ H', Q (.bl true) H'
theorem law_ground {P : Program} {w : World} {K : Frg} {mg : Str → Option Value} {base : Heap} {fs : List Str} {cs : List (Str × D)} {fu k : Nat} {bs : List Bd} {d : Df} {b : Bd} {f : Addr} {fd : FuncData}
    (hA : AllOk K mg fs cs fu fs bs) (hH : Home mg cs) (h : DfOk K mg fs cs fu d b) (h1 : d.ps.length = 1) (F : FunD K d.x d.x (defArgs d.st) (defBody d.st) (defScope d.st) [] [] f fd)
    (ev : isRT (svs (tabF bs k) b.b (List.replicate d.N.length none) ⟨[], [], false⟩) = true) (hN : 1 ≤ d.N.length) : FnG P w K mg base (k + 1) f fd d.ps spG := by
  refine fnG_of F h.sc (fun vs H Q E q => q.1.trans h1.symm) (fun cdv A outer s H vs Q E hr hn q => ?_)
  have G : Good (d.cc fs cs) (cxOf CX0 P w K mg base d.N d.x (defScope d.st) f cdv A outer s H E).nox (tabF bs k) k :=
    { N := rfl, nd := h.sc.nd, sc := rfl, kind := h.sc.kind, fn := fun _ => rfl, calm := rfl, xe := rfl, room := hr, nog := hn, defs := fun i x e => defs_ok hA hH k i x e, con := hH.con, blt := hH.blt, pl := h.pk }
  have T := cTs_ok G fu (defBody d.st)
  rw [h.tx] at T
  refine ⟨_, PSs.nox T, fun _ => 0, ⟨[], [], false⟩, List.replicate d.N.length none, ⟨fun n o e => by simp at e, fun i j hi => absurd hi (by simp [Sto.len]), fun _ b hb => by simp at hb, fun b hb => by simp at hb, fun b hb => by simp at hb⟩, ⟨?_, fun i d e => ?_⟩, ?_⟩
  · simp only [List.length_replicate, L2.start, List.length_append, List.length_map, q.1]
    omega
  · rw [List.getElem?_replicate] at e
    split at e <;> cases e
  · unfold isRT at ev
    split at ev
    · rename_i S' hS
      rw [hS]
      intro m' H' v X r
      rw [show v = .bl true from r]
      exact q.2 H'
    · cases ev
theorem con_nil {mg : Str → Option Value} : ∀ x d, ([] : List (Str × D)).lookup x = some d → ∃ v u, mg x = some u ∧ RelV v u ∧ ∀ m k H, RD m k H d v := fun _ _ h => nomatch h
theorem con_cons {mg : Str → Option Value} {x : Str} {d : D} {cs : List (Str × D)} (h : ∃ v u, mg x = some u ∧ RelV v u ∧ ∀ m k H, RD m k H d v) (r : ∀ y e, cs.lookup y = some e → ∃ v u, mg y = some u ∧ RelV v u ∧ ∀ m k H, RD m k H e v) :
    ∀ y e, ((x, d) :: cs).lookup y = some e → ∃ v u, mg y = some u ∧ RelV v u ∧ ∀ m k H, RD m k H e v := fun y e hl => by
  rw [List.lookup_cons] at hl
  split at hl
  · rename_i hb
    cases hl
    rw [eq_of_beq hb]
    exact h
  · exact r y e hl
theorem con_int {mg : Str → Option Value} {x : Str} {i : Int} (h : ∃ t, mg x = some (.int i t)) : ∃ v u, mg x = some u ∧ RelV v u ∧ ∀ m k H, RD m k H (.int i) v := by
  obtain ⟨t, ht⟩ := h
  exact ⟨.int i, _, ht, ⟨t, rfl⟩, fun _ _ _ => rfl⟩
theorem con_str {mg : Str → Option Value} {x z : Str} (h : ∃ t, mg x = some (.str z t)) : ∃ v u, mg x = some u ∧ RelV v u ∧ ∀ m k H, RD m k H (.str z) v := by
  obtain ⟨t, ht⟩ := h
  exact ⟨.str z, _, ht, ⟨t, rfl⟩, fun _ _ _ => rfl⟩
end Sw

/-! Eng19: a def that is called on things without numbers runs as if the store were empty. -/
namespace Sw
open PySem PySem.Spec PyProof.Rows L2
def emp : Sto := ⟨[], [], false⟩
def liftF (f : Fn) : Fn := fun ds S => match D.blws 0 ds with
  | true => match f ds emp with
    | .ok d S' => match d.blw 0 with
      | true => .ok d S
      | false => match d with
        | .ref n => match S'.objs[n]? with
          | some o => match o.blw 0 with
            | true => .ok (.ref S.len) (S.add o)
            | false => f ds S
          | none => f ds S
        | _ => f ds S
    | .bad => .bad
  | false => f ds S
theorem rel_emp (m : Nat → Addr) (H : Hp) : Rel m emp H := ⟨fun n o e => by simp [emp] at e, fun i j hi => absurd hi (by simp [emp, Sto.len]), fun _ b hb => by simp [emp] at hb, fun b hb => by simp [emp] at hb, fun b hb => by simp [emp] at hb⟩
theorem rdN_lift {f : Fn} {vs : List V} {H : Hp} {Q : VK} (h : rdN (liftF f) vs H Q) : rdN f vs H Q := by
  obtain ⟨m, S, ds, d, S2, R, r, e, q⟩ := h
  unfold liftF at e
  split at e
  · rename_i hb
    have r0 : RDs m emp.len H ds vs := RDs.cutk ds vs r hb
    split at e
    · rename_i d0 S0 h0
      have base : (∀ m' H' v, Ext m m' emp S0 H H' → (∀ b o, H b = some o → H' b = some o) → RD m' S0.len H' d0 v → Q v H') → rdN f vs H Q := fun q' =>
        ⟨m, emp, ds, d0, S0, rel_emp m H, r0, h0, fun m' H' v X' r' => q' m' H' v X' (fun b o z => X'.oth b o z fun n hn => absurd hn (by simp [emp, Sto.len])) r'⟩
      split at e
      · rename_i hd
        cases e
        exact base fun m' H' v X' up r' => q m H' v (Ext.more R up) (RD.mono' (Nat.zero_le _) (fun n hn => absurd hn (Nat.not_lt_zero n)) (Keep.refl _) _ _ (RD.cut _ _ r' hd))
      · split at e
        · rename_i n hn0
          split at e
          · rename_i o ho
            split at e
            · rename_i hob
              cases e
              refine base fun m' H' v X' up r' => ?_
              have hnl : n < S0.len := (List.getElem?_eq_some_iff.mp ho).1
              have hno : H (m' n) = none := X'.new n (Nat.zero_le _) hnl
              obtain ⟨u, hu⟩ := X'.rel.alive hnl
              have ok1 : OOk m S.len H' (m' n) o := ((X'.rel.obj n o ho).cutk hob).mono' (Nat.zero_le _) (fun j hj => absurd hj (Nat.not_lt_zero j)) (Keep.refl _) rfl
              have X1 : Ext m m S S H (fun b => if b = m' n then none else H' b) := Ext.more R fun b o' z => by
                have nb : b ≠ m' n := fun w => by rw [w, hno] at z; cases z
                show (if b = m' n then none else H' b) = some o'
                rw [if_neg nb]
                exact up b o' z
              have eH : upd (fun b => if b = m' n then none else H' b) (m' n) u = H' := by
                funext b
                by_cases nb : b = m' n
                · rw [nb, upd_same]; exact hu.symm
                · rw [upd_ne nb, if_neg nb]
              have X2 := Ext.add (p := m' n) (o := o) (ho := u) X1.rel (by rw [if_pos rfl]) (by rw [eH]; exact ok1)
              rw [eH] at X2
              have hv : v = .ref (m' n) := r'.2
              exact q _ H' v (X1.trans X2) ⟨by rw [Sto.add_len]; exact Nat.lt_succ_self _, by rw [withAt_same]; exact hv⟩
            · exact ⟨m, S, ds, d, S2, R, r, e, q⟩
          · exact ⟨m, S, ds, d, S2, R, r, e, q⟩
        · exact ⟨m, S, ds, d, S2, R, r, e, q⟩
    · cases e
  · exact ⟨m, S, ds, d, S2, R, r, e, q⟩
theorem liftF_len {f : Fn} {ar : Nat} (h : ∀ ds S d S', f ds S = .ok d S' → ds.length = ar) : ∀ ds S d S', liftF f ds S = .ok d S' → ds.length = ar := fun ds S d S' e => by
  unfold liftF at e
  split at e
  · split at e
    · rename_i h0; exact h _ _ _ _ h0
    · cases e
  · exact h _ _ _ _ e
theorem Def.lift {P : Program} {w : World} {K : Frg} {mg : Str → Option Value} {base : Heap} {k : Nat} {x : Str} {ar : Nat} {f : Fn} (h : Def P w K mg base k x ar f) : Def P w K mg base k x ar (liftF f) := by
  obtain ⟨⟨a, fd, ps, F, hm, hk, hb⟩, hl⟩ := h
  exact ⟨⟨a, fd, ps, F.imp fun vs H Q E q => ⟨q.1, rdN_lift q.2⟩, hm, hk, hb⟩, liftF_len hl⟩
/-- the defs that may call k deep, lifted -/
def tabL (bs : List Bd) : Nat → Nat → Fn
  | 0, _ => badFn
  | k + 1, i => match bs[i]? with
    | some b => liftF (fnSem b.n b.ar (svs (tabL bs k) b.b))
    | none => badFn
section
variable {P : Program} {w : World} {K : Frg} {mg : Str → Option Value} {base : Heap} {fs : List Str} {cs : List (Str × D)} {fu : Nat} {bs : List Bd}
theorem defs_okL (hA : AllOk K mg fs cs fu fs bs) (hH : Home mg cs) : ∀ (k i : Nat) (x : Str), fs[i]? = some x → ∃ ar, Def P w K mg base k x ar (tabL bs k i)
  | 0, i, x, e => by
    obtain ⟨d, b, h, rfl, _⟩ := hA.get i x e
    exact ⟨b.ar, def_bad h⟩
  | k + 1, i, x, e => by
    obtain ⟨d, b, h, rfl, eb⟩ := hA.get i x e
    refine ⟨b.ar, ?_⟩
    unfold tabL
    rw [eb]
    refine Def.lift ?_
    obtain ⟨f, fd, F, hm⟩ := h.fn
    refine ⟨⟨f, fd, d.ps, fnG_of F h.sc (fun vs H Q E q => q.1.trans h.ar.symm) (fun cdv A outer s H vs Q E hr hn q => ?_), hm, F.kp, F.bindsN h.bd, FunD.look F h.pp⟩, fun ds S r S' e => fn_len e⟩
    have G : Good (d.cc fs cs) (cxOf CX0 P w K mg base d.N d.x (defScope d.st) f cdv A outer s H E).nox (tabL bs k) k :=
      { N := rfl, nd := h.sc.nd, sc := rfl, kind := h.sc.kind, fn := fun _ => rfl, calm := rfl, xe := rfl, room := hr, nog := hn, defs := fun i x e => defs_okL hA hH k i x e, con := hH.con, blt := hH.blt, pl := h.pk }
    have T := cTs_ok G fu (defBody d.st)
    rw [h.tx] at T
    exact ⟨_, PSs.nox T, rd_fn h.n q.2⟩
end
end Sw

/-! Eng20: the law's call, its promise asked where no repr is under way. -/
namespace Sw
open PySem PySem.Spec PyProof.Rows L2
theorem law_callG {P : Program} {w : World} {K : Frg} {mg mb : Str → Option Value} {k : Nat} {fa a : Addr} {fd : FuncData} {x : Str} {sp : Sp} {s1 : Shared} {vs : List Value} {ns : List Int}
    (KX : K.In s1.heap) (g0 : s1.heap.Ns mainGlobals mg) (gb : s1.heap.Ns builtinsNs mb) (bb : ∀ x : Str, x ≠ "__name__" → mb x = bootBuiltins x) (nolim : s1.heap.NoLimit) (gens : s1.gens = #[])
    (ha : s1.heap.get? a = some { cls := .type "list", data := .seq vs.toArray }) (hi : IntsAre vs ns) (hl : ns.length ≤ sizeLine) (hr : Room k callerA)
    (F : ∀ base : Heap, K.In base → base.Ns mainGlobals mg → FnG P w K mg base k fa fd [x] sp) (bind : ∀ (s : Shared) (u : Value), BindsTo s fd ⟨[u], []⟩ [(x, u)])
    (hsp : ∀ H : Hp, Only H → SqL K H a (ns.map V.int) → sp [.ref a] H (fun v _ => v = .bl true) fun _ _ _ => False) :
    codeAny (model P w) callerA (.call (.ref fa) ⟨[.ref a], []⟩) (fun r s' => r = .ok (.ret (.bool true)) ∧ OldK s1.heap s'.heap ∧ s'.os = s1.os ∧ AllBare s'.gens) s1 := by
  have rv := vals_ints hi
  have core : ∀ H : Hp, Only H → SqL K H a (ns.map V.int) → HOk P w H s1.heap → (∀ b, H b ≠ none → b = a) → (H a ≠ none → K.lookup a = none) →
      codeAny (model P w) callerA (.call (.ref fa) ⟨[.ref a], []⟩) (fun r s' => r = .ok (.ret (.bool true)) ∧ OldK s1.heap s'.heap ∧ s'.os = s1.os ∧ AllBare s'.gens) s1 := fun H only sq hok onlyA offK => by
    have free : ∀ {b : Addr} {o : Obj} {es : Array DictEntry} {ep : Nat}, s1.heap.get? b = some o → o.data = .dict es ep → H b = none := fun {b o es ep} z d => by
      cases hq : H b with
      | none => rfl
      | some u =>
        have eb : b = a := onlyA b (by rw [hq]; simp)
        rw [eb, ha] at z
        cases z
        exact nomatch (show Data.seq vs.toArray _ = Data.dict es ep from d)
    have nsH : ∀ {b : Addr} {m : Str → Option Value}, s1.heap.Ns b m → (hidT s1.heap H).Ns b m := fun {b m} ⟨o, es, ep, z, d, r⟩ => ⟨o, es, ep, hidT_get z (free z d), d, r⟩
    have kH : K.In (hidT s1.heap H) := fun b o z => hidT_get (KX b o z) (by
      cases hq : H b with
      | none => rfl
      | some u =>
        have eb : b = a := onlyA b (by rw [hq]; simp)
        have no := offK (by rw [← eb, hq]; simp)
        rw [eb, no] at z
        cases z)
    have md : Mod K mg (hidT s1.heap H) := ⟨kH, nsH g0, ⟨mb, nsH gb, bb⟩, let ⟨mc, z1, z2⟩ := nolim; ⟨mc, nsH z1, z2⟩⟩
    have e0 : Env0 P w K mg (hidT s1.heap H) callerA [] s1 H := ⟨rfl, md, fun b o z => of_hidT z, Nat.le_of_eq (hidT_size _ _), trivial, fun b hb => absurd (show b ∈ ([] : List Addr) from hb) (by simp), hok, .of_eq gens⟩
    refine codeAny_mono ((F _ kH (nsH g0)).run callerA [] s1 H ⟨[.ref a], []⟩ [.ref a] [.ref a] _ _ hr rfl e0 (bind s1 (.ref a)) (.cons rfl .nil) (hsp H only sq)) fun r s' h => ?_
    cases r with
    | error e => exact (show False from h).elim
    | ok fl => cases fl with
      | next => exact (show False from h).elim
      | brk => exact (show False from h).elim
      | cont => exact (show False from h).elim
      | ret u =>
        obtain ⟨v, H', os, bare, un, hok', r', q⟩ := h
        have q : v = .bl true := q
        subst q
        obtain rfl : u = Value.bool true := r'
        refine ⟨rfl, OldK.of_keep fun b o z => ?_, os, bare⟩
        rcases only b with n | ⟨ob, xs, n⟩
        · exact un.keep b o z n (by intro y; exact absurd (show b ∈ ([] : List Addr) from y) (by simp)) (by simp)
        · obtain ⟨e1, _⟩ := hok b _ n
          obtain ⟨e2, _⟩ := hok' b _ (un.frzs b ob _ n)
          rw [z] at e1
          cases e1
          exact e2
  cases hk : K.lookup a with
  | some o =>
    have z := KX a o hk
    rw [ha] at z
    cases z
    exact core (fun _ => none) (fun _ => .inl rfl) (.inr ⟨_, vs.toArray, _, hk, rfl, rfl, rfl, by rw [List.size_toArray, hi.length]; exact hl, by simpa using rv⟩) (fun b u y => nomatch (show (none : Option HO) = some u from y)) (fun b y => absurd rfl y) fun y => absurd rfl y
  | none =>
    refine core (upd (fun _ => none) a (.frz { cls := .type "list", data := .seq vs.toArray } (.lst (ns.map V.int)))) (fun b => ?_) (.inl (.inr ⟨_, upd_same⟩)) (fun b u y => ?_) (fun b y => ?_) fun _ => hk
    · by_cases hb : b = a
      · rw [hb]; exact .inr ⟨_, _, upd_same⟩
      · exact .inl (upd_ne hb)
    · by_cases hb : b = a
      · rw [hb, upd_same] at y
        cases y
        rw [hb]
        exact ⟨ha, by rw [List.length_map]; exact hl, vs, _, rv, ha⟩
      · rw [upd_ne hb] at y
        cases y
    · by_cases hb : b = a
      · exact hb
      · exact absurd (upd_ne hb) y
theorem walk_ofG {l : PySem.W.OpenLaw} {n k : Nat} {q : Program} {loose : List Str} {XP : (Str → Option Value) → Heap → Prop} {YP : World → Heap → Prop} {d : DefRec} {x : Str}
    (hn : l.most = some n) (hn2 : n ≤ sizeLine) (hdf : d.params.defaults = []) (hr : Room k callerA)
    (F : ∀ (w : World) (mg : Str → Option Value) (fa : Addr) (h : Heap), YP w h → h.Ns mainGlobals mg → mg d.name = some (.ref fa) →
      ∃ (K : Frg) (fd : FuncData) (sp : Sp), K.In h ∧ (∀ (s : Shared) (u : Value), BindsTo s fd ⟨[u], []⟩ [(x, u)]) ∧
        (∀ (H : Hp) (a : Addr) (ns : List Int), ns.length ≤ n → Only H → SqL K H a (ns.map V.int) → sp [.ref a] H (fun v _ => v = .bl true) fun _ _ _ => False) ∧
        ∀ base : Heap, K.In base → base.Ns mainGlobals mg → FnG l.prog w K mg base k fa fd [x] sp) :
    PySem.W.WalkO q loose XP YP l.row.toRowW d [] (fun f vs => PySem.call f vs) := by
  refine Att.attach_call hn hdf fun w s0 s1 mg mb fa o pm cd doc a vs ns G Y ho hd hcd hmg hobj hints hlen hg => ?_
  obtain ⟨K, fd, sp, KX, hb, hsp, hF⟩ := F w mg fa _ Y G.T.g hmg
  exact law_callG KX G.T.g G.T.b G.T.builtins G.T.nolimit hg hobj hints (Nat.le_trans hlen hn2) hr hF hb (fun H hO hS => hsp H a ns hlen hO hS)
end Sw

/-! B1: what may raise, read; tables of code objects beside the store. -/
namespace Sw
open PySem PySem.Spec PyProof.Rows L2

section
variable {m m' m2 : Nat → Addr} {S S' S2 : Sto} {H H' H2 : Hp} {k : Nat}
/-- H1 is H but for its tables, and what is new -/
theorem extX_of (R : Rel m S H) (e : LamX.ExtN H H2) : ExtX m m S S H H2 := by
  have k : Keep H H2 := ⟨fun a xs z => e a _ z (fun ps y => by cases y), fun a o u z => e a _ z (fun ps y => by cases y)⟩
  refine ⟨Nat.le_refl _, fun _ _ => rfl, ⟨fun a xs z => k.tup a xs (noT_of z).1, fun a o u z => k.frz a o u (noT_of z).1⟩, rfl, ⟨fun n o z => ?_, R.inj, R.low, R.top, R.lens⟩, fun a o z _ => e a o (noT_of z).1 (noT_of z).2, fun n h1 h2 => absurd h2 (Nat.not_lt_of_le h1)⟩
  have ok := R.obj n o z
  obtain ⟨u, hu⟩ := ok.alive
  refine ok.mono' (Nat.le_refl _) (fun _ _ => rfl) k ?_
  rw [hu]
  exact e _ u hu fun ps y => ok.notTbl ps (by rw [hu, y])

/-! ### tables stand beside the store -/
theorem ndict_code {a c : Addr} {xs : List NE} {q : Str} : NDict a xs ≠ LamX.CodeO c q := fun z => by
  unfold NDict LamX.CodeO at z
  injection z with z
  have key : ∀ i o, Heap.get? ({ objs := Array.replicate (c + 1) ({ cls := .none, data := .fields #[.none, .str q 0] } : Obj) } : Heap) i = some o → o = ({ cls := .none, data := .fields #[.none, .str q 0] } : Obj) := fun i o e => by
    unfold Heap.get? at e
    by_cases hi : i < c + 1
    · simp [Array.getElem?_replicate, hi] at e
      exact e.symm
    · simp [Array.getElem?_replicate, hi] at e
  have h2 : Heap.get? ({ objs := Array.replicate (c + 1) ({ cls := .none, data := .fields #[.none, .str q 0] } : Obj) } : Heap) c = some ({ cls := .none, data := .fields #[.none, .str q 0] } : Obj) := by
    unfold Heap.get?
    simp [Array.getElem?_replicate]
  have h3 := congrFun z ({ objs := Array.replicate (c + 1) ({ cls := .none, data := .fields #[.none, .str q 0] } : Obj) } : Heap)
  have h4 : NPhi a xs ({ objs := Array.replicate (c + 1) ({ cls := .none, data := .fields #[.none, .str q 0] } : Obj) } : Heap) := by
    rw [h3]
    exact ⟨_, _, _, h2, rfl, rfl⟩
  obtain ⟨ys, _, o, es, ep, e1, _, e2, _⟩ := h4
  rw [key a o e1] at e2
  cases e2
theorem OOk.notCode {a c : Addr} {o : O} {q : Str} (h : OOk m k H a o) : H a ≠ some (LamX.CodeO c q) := fun z => by
  cases o with
  | lst xs => obtain ⟨vs, e, _⟩ := h; rw [z] at e; unfold LamX.CodeO at e; cases e
  | frz xs => obtain ⟨vs, _, e, _⟩ := h; rw [z] at e; unfold LamX.CodeO at e; cases e
  | dct kvs => obtain ⟨vs, e, _⟩ := h; rw [z] at e; unfold LamX.CodeO at e; cases e
  | dctT kvs => obtain ⟨vs, e, _⟩ := h; rw [z] at e; unfold LamX.CodeO at e; cases e
  | dctN kvs =>
    obtain ⟨xs, e, _⟩ := h
    have e := e.at_
    rw [z] at e
    exact ndict_code (Option.some.inj e).symm
  | set xs =>
    have e : H a = some (.set _ _) := h
    rw [z] at e
    unfold LamX.CodeO at e
    cases e
theorem tabs_ext {T : List (Addr × Str)} (R : Rel m S H) (t : LamX.Tabs T H) (X : Ext m m' S S' H H') : LamX.Tabs T H' := fun p hp => by
  obtain ⟨ps, h1, h2, h3⟩ := t p hp
  have far : ∀ (a : Addr) (u : HO), H a = some u → (∀ n < S.len, H (m n) ≠ some u) → ∀ n < S.len, m n ≠ a := fun a u e f n hn z => f n hn (by rw [z]; exact e)
  refine ⟨ps, X.oth _ _ h1 (far _ _ h1 fun n hn => (R.obj n _ (List.getElem?_eq_getElem hn)).notTbl ps), h2, fun pos cv hc => ?_⟩
  obtain ⟨c, e1, e2⟩ := h3 pos cv hc
  exact ⟨c, e1, X.oth _ _ e2 (far _ _ e2 fun n hn => (R.obj n _ (List.getElem?_eq_getElem hn)).notCode)⟩

/-! ### an exception's fields -/
def RFs (m : Nat → Addr) (k : Nat) (H : Hp) : List (Str × D) → List (Str × V) → Prop
  | [], vs => vs = []
  | (f, d) :: r, vs => ∃ v rs, vs = (f, v) :: rs ∧ RD m k H d v ∧ RFs m k H r rs
/-- dd: the exception's dict -/
def XfOk (m : Nat → Addr) (k : Nat) (H : Hp) (fs : List (Str × D)) (dd : Option Addr) : Prop := match fs with
  | [] => dd = none
  | fs => ∃ dx vs, dd = some dx ∧ H dx = some (.xd vs) ∧ RFs m k H fs vs
theorem RFs.mono' {k' : Nat} (hk : k ≤ k') (ha : ∀ n, n < k → m' n = m n) (e : Keep H H') : ∀ (fs : List (Str × D)) (vs : List (Str × V)), RFs m k H fs vs → RFs m' k' H' fs vs
  | [], vs, h => h
  | (f, d) :: r, vs, h => by
    obtain ⟨v, rs, h1, h2, h3⟩ := h
    exact ⟨v, rs, h1, RD.mono' hk ha e d v h2, RFs.mono' hk ha e r rs h3⟩
theorem RFs.look {f : Str} {d : D} : ∀ {fs : List (Str × D)} {vs : List (Str × V)}, RFs m k H fs vs → fs.lookup f = some d → ∃ v, vs.lookup f = some v ∧ RD m k H d v
  | [], vs, h, e => by cases e
  | (g, d') :: r, vs, h, e => by
    obtain ⟨v, rs, rfl, h2, h3⟩ := h
    rw [List.lookup_cons] at e ⊢
    split at e
    · cases e
      exact ⟨v, rfl, h2⟩
    · exact RFs.look h3 e
end

/-! ### results -/
inductive RX (α : Type) where
  | ok (a : α) (S : Sto)
  | ex (c : Str) (fs : List (Str × D)) (S : Sto)
  | bad
inductive SX where
  | nx (ρ : En) (S : Sto)
  | rt (d : D) (S : Sto)
  | bk (ρ : En) (S : Sto)
  | ct (ρ : En) (S : Sto)
  | ex (c : Str) (fs : List (Str × D)) (ρ : En) (S : Sto)
  | bad
def Res.x {α : Type} : Res α → RX α
  | .ok a S => .ok a S
  | .bad => .bad
def SR.x : SR → SX
  | .nx ρ S => .nx ρ S
  | .rt d S => .rt d S
  | .bk ρ S => .bk ρ S
  | .ct ρ S => .ct ρ S
  | .bad => .bad
abbrev XV := En → Sto → RX D
abbrev XVA := En → Sto → RX (List D)
abbrev XS := En → Sto → SX
/-- the tables; the classes by their names; what else is wished of the slots -/
structure XP where
  T : List (Addr × Str)
  cn : Str → Value
  J : (Nat → Addr) → Sto → Hp → L2.St → Prop
  pin : List Nat
  hJ : ∀ (sl : List Nat) (m : Nat → Addr) (S : Sto) (H : Hp) (σ σ' : L2.St), (∀ i ∈ pin, i ∉ sl) → Chg sl σ σ' → J m S H σ → J m S H σ'
  hX : ∀ (m m' : Nat → Addr) (S S' : Sto) (H H' : Hp) (σ : L2.St), ExtX m m' S S' H H' → J m S H σ → J m' S' H' σ
  J0 : Prop
  hJ0 : J0 → ∀ m S H σ, J m S H σ
/-- a state -/
structure Stt (p : XP) (m : Nat → Addr) (S : Sto) (H : Hp) (ρ : En) (σ : L2.St) : Prop where
  rel : Rel m S H
  tab : LamX.Tabs p.T H
  env : REnv m S.len H ρ σ
  j : p.J m S H σ
def XPost {α β : Type} (p : XP) (W : WX) (rl : (Nat → Addr) → Nat → Hp → α → β → Prop) (m : Nat → Addr) (S : Sto) (H : Hp) (σ : L2.St) (Q : β → Hp → Prop) : RX α → Prop
  | .ok d S' => ∀ m' H' v, ExtX m m' S S' H H' → LamX.Tabs p.T H' → rl m' S'.len H' d v → Q v H'
  | .ex c fs S' => ∀ m' H' dd, ExtX m m' S S' H H' → LamX.Tabs p.T H' → XfOk m' S'.len H' fs dd → W (p.cn c) dd σ H'
  | .bad => False
abbrev XPE (p : XP) (W : WX) := XPost (α := D) (β := V) p W (fun m k H d v => RD m k H d v)
abbrev XPA (p : XP) (W : WX) := XPost (α := List D) (β := List V) p W (fun m k H d v => RDs m k H d v)
def SXPost (p : XP) (W : WX) (m : Nat → Addr) (S : Sto) (H : Hp) (D : Ends) : SX → Prop
  | .nx ρ' S' => ∀ m' H' σ', ExtX m m' S S' H H' → Stt p m' S' H' ρ' σ' → D.nx σ' H'
  | .rt d S' => ∀ m' H' v, ExtX m m' S S' H H' → LamX.Tabs p.T H' → RD m' S'.len H' d v → D.rt v H'
  | .bk ρ' S' => ∀ m' H' σ', ExtX m m' S S' H H' → Stt p m' S' H' ρ' σ' → D.bk σ' H'
  | .ct ρ' S' => ∀ m' H' σ', ExtX m m' S S' H H' → Stt p m' S' H' ρ' σ' → D.ct σ' H'
  | .ex c fs ρ' S' => ∀ m' H' σ' dd, ExtX m m' S S' H H' → Stt p m' S' H' ρ' σ' → XfOk m' S'.len H' fs dd → W (p.cn c) dd σ' H'
  | .bad => False
def rdXE (p : XP) (W : WX) (f : XV) : TE := fun σ H Q => ∃ m S ρ, Stt p m S H ρ σ ∧ XPE p W m S H σ Q (f ρ S)
def rdXA (p : XP) (W : WX) (f : XVA) : TA := fun σ H Q => ∃ m S ρ, Stt p m S H ρ σ ∧ XPA p W m S H σ Q (f ρ S)
def TXPost (p : XP) (W : WX) (m : Nat → Addr) (S : Sto) (H : Hp) (σ : L2.St) (Q : Bool → Hp → Prop) : RX D → Prop
  | .ok (.bl b) S' => ∀ m' H', ExtX m m' S S' H H' → LamX.Tabs p.T H' → Q b H'
  | .ex c fs S' => ∀ m' H' dd, ExtX m m' S S' H H' → LamX.Tabs p.T H' → XfOk m' S'.len H' fs dd → W (p.cn c) dd σ H'
  | _ => False
def rdXT (p : XP) (W : WX) (f : XV) : TT := fun σ H Q => ∃ m S ρ, Stt p m S H ρ σ ∧ TXPost p W m S H σ Q (f ρ S)
def rdXS (p : XP) (W : WX) (f : XS) : TS := fun D σ H => ∃ m S ρ, Stt p m S H ρ σ ∧ SXPost p W m S H D (f ρ S)
section
variable {p : XP} {W : WX} {m m1 : Nat → Addr} {S S1 : Sto} {H H1 : Hp} {ρ : En} {σ : L2.St}
theorem Stt.ext (s : Stt p m S H ρ σ) (X : ExtX m m1 S S1 H H1) (t : LamX.Tabs p.T H1) : Stt p m1 S1 H1 ρ σ := ⟨Ext.rel X, t, s.env.extX X, p.hX _ _ _ _ _ _ _ X s.j⟩
theorem Stt.old (s : Stt p m S H ρ σ) (X : Ext m m1 S S1 H H1) : LamX.Tabs p.T H1 := tabs_ext s.rel s.tab X
section
variable {α β : Type} {rl : (Nat → Addr) → Nat → Hp → α → β → Prop} {Q Q' : β → Hp → Prop} {r : RX α}
theorem XPost.ext (X : ExtX m m1 S S1 H H1) : ∀ {r : RX α}, XPost p W rl m S H σ Q r → XPost p W rl m1 S1 H1 σ Q r
  | .ok d S', h => fun m' H' v X' t r => h m' H' v (ExtX.trans X X') t r
  | .ex c fs S', h => fun m' H' dd X' t r => h m' H' dd (ExtX.trans X X') t r
  | .bad, h => h
theorem XPost.mono (i : ∀ v H', Q v H' → Q' v H') : ∀ {r : RX α}, XPost p W rl m S H σ Q r → XPost p W rl m S H σ Q' r
  | .ok d S', h => fun m' H' v X' t r => i v H' (h m' H' v X' t r)
  | .ex c fs S', h => h
  | .bad, h => h
end
theorem TXPost.ext {Q : Bool → Hp → Prop} (X : ExtX m m1 S S1 H H1) {r : RX D} (h : TXPost p W m S H σ Q r) : TXPost p W m1 S1 H1 σ Q r := by
  cases r with
  | bad => exact h
  | ex c fs S' => exact fun m' H' dd X' t r => h m' H' dd (ExtX.trans X X') t r
  | ok d S' =>
    cases d with
    | bl b => exact fun m' H' X' t => h m' H' (ExtX.trans X X') t
    | _ => exact h
theorem SXPost.ext {D : Ends} (X : ExtX m m1 S S1 H H1) : ∀ {r : SX}, SXPost p W m S H D r → SXPost p W m1 S1 H1 D r
  | .nx _ _, h => fun m' H' v X' t => h m' H' v (ExtX.trans X X') t
  | .rt _ _, h => fun m' H' v X' t r => h m' H' v (ExtX.trans X X') t r
  | .bk _ _, h => fun m' H' v X' t => h m' H' v (ExtX.trans X X') t
  | .ct _ _, h => fun m' H' v X' t => h m' H' v (ExtX.trans X X') t
  | .ex _ _ _ _, h => fun m' H' v dd X' t r => h m' H' v dd (ExtX.trans X X') t r
  | .bad, h => h
/-- what leads on by the elder evaluator -/
theorem post_res {α β : Type} {rl : (Nat → Addr) → Nat → Hp → α → β → Prop} {Q : β → Hp → Prop} (s : Stt p m S H ρ σ) {r : Res α} (h : XPost p W rl m S H σ Q r.x) :
    ∃ d S', r = .ok d S' ∧ ∀ m' H' v, Ext m m' S S' H H' → rl m' S'.len H' d v → Q v H' := by
  cases r with
  | bad => exact h.elim
  | ok d S' => exact ⟨d, S', rfl, fun m' H' v X r => h m' H' v X.x (s.old X) r⟩
theorem rdX_old {f : Ev} {Q : VK} (h : rdXE p W (fun ρ S => (f ρ S).x) σ H Q) : rdE f σ H Q := by
  obtain ⟨m, S, ρ, s, q⟩ := h
  obtain ⟨d, S', e, q⟩ := post_res s q
  exact ⟨m, S, ρ, d, S', s.rel, s.env, e, q⟩
theorem rdX_oldA {f : EvA} {Q : List V → Hp → Prop} (h : rdXA p W (fun ρ S => (f ρ S).x) σ H Q) : rdA f σ H Q := by
  obtain ⟨m, S, ρ, s, q⟩ := h
  obtain ⟨d, S', e, q⟩ := post_res s q
  exact ⟨m, S, ρ, d, S', s.rel, s.env, e, q⟩
theorem rdX_oldS {f : Sv} {D : Ends} (j : p.J0) (h : rdXS p W (fun ρ S => (f ρ S).x) D σ H) : rdS f D σ H := by
  obtain ⟨m, S, ρ, s, q⟩ := h
  refine ⟨m, S, ρ, s.rel, s.env, ?_⟩
  replace q : SXPost p W m S H D (f ρ S).x := q
  cases e : f ρ S with
  | bad => rw [e] at q; exact q
  | nx ρ' S' => rw [e] at q; exact fun m' H' σ' X E => q m' H' σ' X.x ⟨X.rel, s.old X, E, p.hJ0 j _ _ _ σ'⟩
  | bk ρ' S' => rw [e] at q; exact fun m' H' σ' X E => q m' H' σ' X.x ⟨X.rel, s.old X, E, p.hJ0 j _ _ _ σ'⟩
  | ct ρ' S' => rw [e] at q; exact fun m' H' σ' X E => q m' H' σ' X.x ⟨X.rel, s.old X, E, p.hJ0 j _ _ _ σ'⟩
  | rt d S' => rw [e] at q; exact fun m' H' v X r => q m' H' v X.x (s.old X) r
theorem rdX_oldT {f : Ev} {Q : Bool → Hp → Prop} (h : rdXT p W (fun ρ S => (f ρ S).x) σ H Q) : rdT f σ H Q := by
  obtain ⟨m, S, ρ, s, q⟩ := h
  replace q : TXPost p W m S H σ Q (f ρ S).x := q
  cases e : f ρ S with
  | bad => rw [e] at q; exact q.elim
  | ok d S' =>
    rw [e] at q
    cases d with
    | bl b => exact ⟨m, S, ρ, b, S', s.rel, s.env, e, fun m' H' X => q m' H' X.x (s.old X)⟩
    | _ => exact q.elim
theorem rdXT_of {f : XV} {Q : Bool → Hp → Prop} (h : rdXT p W f σ H Q) : rdXE p W f σ H fun x H1 => ∃ c, x = .bl c ∧ Q c H1 := by
  obtain ⟨m, S, ρ, s, q⟩ := h
  refine ⟨m, S, ρ, s, ?_⟩
  cases e : f ρ S with
  | bad => rw [e] at q; exact q
  | ex c fs S' => rw [e] at q; exact q
  | ok d S' =>
    rw [e] at q
    cases d with
    | bl b => exact fun m' H' v X t r => ⟨b, r, q m' H' X t⟩
    | _ => exact q.elim
end

/-! ### one behind the other -/
def xbind {α β : Type} (f : En → Sto → RX α) (k : α → En → Sto → RX β) : En → Sto → RX β := fun ρ S => match f ρ S with
  | .ok x S1 => k x ρ S1
  | .ex c fs S1 => .ex c fs S1
  | .bad => .bad
def sbind {α : Type} (f : En → Sto → RX α) (k : α → XS) : XS := fun ρ S => match f ρ S with
  | .ok x S1 => k x ρ S1
  | .ex c fs S1 => .ex c fs ρ S1
  | .bad => .bad
section
variable {p : XP} {W : WX} {m : Nat → Addr} {S : Sto} {H : Hp} {ρ : En} {σ : L2.St}
theorem post_bind {α : Type} {γ : Type} {rl : (Nat → Addr) → Nat → Hp → α → γ → Prop} {Q : γ → Hp → Prop} {f : XV} {k : D → En → Sto → RX α} (s : Stt p m S H ρ σ) (h : XPost p W rl m S H σ Q (xbind f k ρ S)) :
    rdXE p W f σ H fun v H1 => ∃ m1 S1 d, Stt p m1 S1 H1 ρ σ ∧ ExtX m m1 S S1 H H1 ∧ RD m1 S1.len H1 d v ∧ XPost p W rl m1 S1 H1 σ Q (k d ρ S1) := by
  refine ⟨m, S, ρ, s, ?_⟩
  unfold xbind at h
  cases e : f ρ S with
  | bad => rw [e] at h; exact h.elim
  | ex c fs S1 => rw [e] at h; exact h
  | ok x S1 => rw [e] at h; exact fun m' H' v X t r => ⟨m', S1, x, s.ext X t, X, r, h.ext X⟩
theorem post_bindA {α : Type} {γ : Type} {rl : (Nat → Addr) → Nat → Hp → α → γ → Prop} {Q : γ → Hp → Prop} {f : XVA} {k : List D → En → Sto → RX α} (s : Stt p m S H ρ σ) (h : XPost p W rl m S H σ Q (xbind f k ρ S)) :
    rdXA p W f σ H fun v H1 => ∃ m1 S1 d, Stt p m1 S1 H1 ρ σ ∧ ExtX m m1 S S1 H H1 ∧ RDs m1 S1.len H1 d v ∧ XPost p W rl m1 S1 H1 σ Q (k d ρ S1) := by
  refine ⟨m, S, ρ, s, ?_⟩
  unfold xbind at h
  cases e : f ρ S with
  | bad => rw [e] at h; exact h.elim
  | ex c fs S1 => rw [e] at h; exact h
  | ok x S1 => rw [e] at h; exact fun m' H' v X t r => ⟨m', S1, x, s.ext X t, X, r, h.ext X⟩
theorem post_sbind {D : Ends} {f : XV} {k : Sw.D → XS} (s : Stt p m S H ρ σ) (h : SXPost p W m S H D (sbind f k ρ S)) :
    rdXE p W f σ H fun v H1 => ∃ m1 S1 d, Stt p m1 S1 H1 ρ σ ∧ ExtX m m1 S S1 H H1 ∧ RD m1 S1.len H1 d v ∧ SXPost p W m1 S1 H1 D (k d ρ S1) := by
  refine ⟨m, S, ρ, s, ?_⟩
  unfold sbind at h
  cases e : f ρ S with
  | bad => rw [e] at h; exact h.elim
  | ex c fs S1 => rw [e] at h; exact fun m' H' dd X t r => h m' H' σ dd X (s.ext X t) r
  | ok x S1 => rw [e] at h; exact fun m' H' v X t r => ⟨m', S1, x, s.ext X t, X, r, h.ext X⟩
theorem post_bindT {Q : Bool → Hp → Prop} {f : XV} {k : D → En → Sto → RX D} (s : Stt p m S H ρ σ) (h : TXPost p W m S H σ Q (xbind f k ρ S)) :
    rdXE p W f σ H fun v H1 => ∃ m1 S1 d, Stt p m1 S1 H1 ρ σ ∧ ExtX m m1 S S1 H H1 ∧ RD m1 S1.len H1 d v ∧ TXPost p W m1 S1 H1 σ Q (k d ρ S1) := by
  refine ⟨m, S, ρ, s, ?_⟩
  unfold xbind at h
  cases e : f ρ S with
  | bad => rw [e] at h; exact h.elim
  | ex c fs S1 => rw [e] at h; exact h
  | ok x S1 => rw [e] at h; exact fun m' H' v X t r => ⟨m', S1, x, s.ext X t, X, r, h.ext X⟩
theorem rdXE.mono {f : XV} {Q Q' : VK} (i : ∀ v H', Q v H' → Q' v H') (h : rdXE p W f σ H Q) : rdXE p W f σ H Q' := by
  obtain ⟨m, S, ρ, s, q⟩ := h
  exact ⟨m, S, ρ, s, XPost.mono i q⟩
theorem rdXT.mono {f : XV} {Q Q' : Bool → Hp → Prop} (i : ∀ v H', Q v H' → Q' v H') (h : rdXT p W f σ H Q) : rdXT p W f σ H Q' := by
  obtain ⟨m, S, ρ, s, q⟩ := h
  refine ⟨m, S, ρ, s, ?_⟩
  cases e : f ρ S with
  | bad => rw [e] at q; exact q
  | ex c fs S' => rw [e] at q; exact q
  | ok d S' =>
    rw [e] at q
    cases d with
    | bl b => exact fun m' H' X t => i _ _ (q m' H' X t)
    | _ => exact q.elim
theorem rdXA.mono {f : XVA} {Q Q' : List V → Hp → Prop} (i : ∀ v H', Q v H' → Q' v H') (h : rdXA p W f σ H Q) : rdXA p W f σ H Q' := by
  obtain ⟨m, S, ρ, s, q⟩ := h
  exact ⟨m, S, ρ, s, XPost.mono i q⟩
end
end Sw

/-! B2: expressions that may raise. -/
namespace Sw
open PySem PySem.Spec PyProof.Rows L2
def xop1 (g : D → Sto → Res D) (fa : XV) : XV := xbind fa fun x _ S => (g x S).x
def xop2 (g : D → D → Sto → Res D) (fa fb : XV) : XV := xbind fa fun x => xbind fb fun y _ S => (g x y S).x
def xnil : XVA := fun _ S => .ok [] S
def xcons (f : XV) (g : XVA) : XVA := xbind f fun x => xbind g fun xs _ S => .ok (x :: xs) S
def xN (g : List D → Sto → Res D) (fa : XVA) : XV := xbind fa fun xs _ S => (g xs S).x
def xB (f : XV) (k : Bool → XV) : XV := xbind f fun x ρ S => match x with
  | .bl b => k b ρ S
  | _ => .bad
def xC (d : D) : XV := fun _ S => .ok d S
def xnot (f : XV) : XV := xB f fun b => xC (.bl (!b))
def xand (fa fb : XV) : XV := xB fa fun b => match b with
  | true => fb
  | false => xC (.bl false)
def xor (fa fb : XV) : XV := xB fa fun b => match b with
  | true => xC (.bl true)
  | false => fb
def xif (fc fa fb : XV) : XV := xB fc fun b => match b with
  | true => fa
  | false => fb
def xM (k : O → Bool) (gg : Nat → List D → Sto → Res D) (fo : XV) (fa : XVA) : XV := xbind fo fun x ρ S => match x with
  | .ref n => match S.objs[n]? with
    | some ob => match k ob with
      | true => xbind fa (fun xs _ S2 => (gg n xs S2).x) ρ S
      | false => .bad
    | none => .bad
  | _ => .bad
section
variable {p : XP} {W : WX} {σ : L2.St} {H : Hp} {Q : VK} {fa fb fc fo : XV} {g : XVA}
theorem rdX_op1 {gg : D → Sto → Res D} (h : rdXE p W (xop1 gg fa) σ H Q) : rdXE p W fa σ H fun x H1 => rd1 gg x H1 Q := by
  obtain ⟨m, S, ρ, s, q⟩ := h
  refine (post_bind s q).mono fun v H1 ⟨m1, S1, d, s1, X1, r1, q1⟩ => ?_
  obtain ⟨dd, S3, e3, q3⟩ := post_res s1 q1
  exact ⟨m1, S1, d, dd, S3, s1.rel, r1, e3, q3⟩
theorem rdX_op2 {gg : D → D → Sto → Res D} (h : rdXE p W (xop2 gg fa fb) σ H Q) : rdXE p W fa σ H fun x H1 => rdXE p W fb σ H1 fun y H2 => rd2 gg x y H2 Q := by
  obtain ⟨m, S, ρ, s, q⟩ := h
  refine (post_bind s q).mono fun v H1 ⟨m1, S1, d, s1, X1, r1, q1⟩ => (post_bind s1 q1).mono fun w H2 ⟨m2, S2, e, s2, X2, r2, q2⟩ => ?_
  obtain ⟨dd, S3, e3, q3⟩ := post_res s2 q2
  exact ⟨m2, S2, d, e, dd, S3, s2.rel, r1.extX X2, r2, e3, q3⟩
theorem rdX_N {gg : List D → Sto → Res D} (h : rdXE p W (xN gg g) σ H Q) : rdXA p W g σ H fun xs H1 => rdN gg xs H1 Q := by
  obtain ⟨m, S, ρ, s, q⟩ := h
  refine (post_bindA s q).mono fun v H1 ⟨m1, S1, d, s1, X1, r1, q1⟩ => ?_
  obtain ⟨dd, S3, e3, q3⟩ := post_res s1 q1
  exact ⟨m1, S1, d, dd, S3, s1.rel, r1, e3, q3⟩
theorem rdX_B {k : Bool → XV} (h : rdXE p W (xB fa k) σ H Q) : rdXT p W fa σ H fun b H1 => rdXE p W (k b) σ H1 Q := by
  obtain ⟨m, S, ρ, s, q⟩ := h
  refine ⟨m, S, ρ, s, ?_⟩
  unfold xB xbind at q
  cases e : fa ρ S with
  | bad => rw [e] at q; exact q
  | ex c fs S' => rw [e] at q; exact q
  | ok d S' =>
    rw [e] at q
    cases d with
    | bl b => exact fun m' H' X t => ⟨m', S', ρ, s.ext X t, XPost.ext X q⟩
    | _ => exact q.elim
theorem rdX_BT {k : Bool → XV} {Q : Bool → Hp → Prop} (h : rdXT p W (xB fa k) σ H Q) : rdXT p W fa σ H fun b H1 => rdXT p W (k b) σ H1 Q := by
  obtain ⟨m, S, ρ, s, q⟩ := h
  refine ⟨m, S, ρ, s, ?_⟩
  unfold xB xbind at q
  cases e : fa ρ S with
  | bad => rw [e] at q; exact q
  | ex c fs S' => rw [e] at q; exact q
  | ok d S' =>
    rw [e] at q
    cases d with
    | bl b => exact fun m' H' X t => ⟨m', S', ρ, s.ext X t, TXPost.ext X q⟩
    | _ => exact q.elim
theorem rdX_CT {b : Bool} {Q : Bool → Hp → Prop} (h : rdXT p W (xC (.bl b)) σ H Q) : Q b H := by
  obtain ⟨m, S, ρ, s, q⟩ := h
  exact q m H (ExtX.refl s.rel) s.tab
theorem rdX_C {d : D} {v : V} (h : rdXE p W (xC d) σ H Q) (hv : ∀ m k H, RD m k H d v) : Q v H := by
  obtain ⟨m, S, ρ, s, q⟩ := h
  exact q m H v (ExtX.refl s.rel) s.tab (hv _ _ _)
theorem rdX_M {K : Frg} {k : O → Bool} {T : String} {gm : Nat → List D → Sto → Res D} (hT : ∀ m S H n ob, Rel m S H → S.objs[n]? = some ob → k ob = true → tyV K T (.ref (m n)) H) (h : rdXE p W (xM k gm fo g) σ H Q) :
    rdXE p W fo σ H fun x H1 => tyV K T x H1 ∧ rdXA p W g σ H1 fun xs H2 => rdM gm x xs H2 Q := by
  obtain ⟨m, S, ρ, s, q⟩ := h
  refine (post_bind s q).mono fun v H1 ⟨m1, S1, d, s1, X1, r1, q1⟩ => ?_
  cases d with
  | ref n =>
    dsimp only at q1
    cases e1 : S1.objs[n]? with
    | none => rw [e1] at q1; exact q1.elim
    | some ob =>
      rw [e1] at q1
      dsimp only at q1
      cases e2 : k ob with
      | false => rw [e2] at q1; exact q1.elim
      | true =>
        rw [e2] at q1
        refine ⟨by rw [r1.2]; exact hT m1 S1 H1 n ob s1.rel e1 e2, (post_bindA s1 q1).mono fun w H2 ⟨m2, S2, e, s2, X2, r2, q2⟩ => ?_⟩
        obtain ⟨dd, S3, e3, q3⟩ := post_res s2 q2
        exact ⟨m2, S2, n, e, dd, S3, s2.rel, RD.extX r1 X2, r2, e3, q3⟩
  | _ => exact q1.elim
theorem rdN_tup {vs : List V} (h : rdN tupN vs H Q) : vs.length ≤ sizeLine ∧ ∀ a, H a = none → Q (.ref a) (upd H a (.tup vs)) := by
  obtain ⟨m2, S2, ds, d2, S3, R2, r2, e2, q2⟩ := h
  unfold tupN at e2
  split at e2
  · rename_i hf
    cases e2
    exact ⟨by rw [← r2.length]; exact fits_le hf, goTup R2 r2 q2⟩
  · cases e2
theorem rdN_lst {vs : List V} (h : rdN lstN vs H Q) : vs.length ≤ sizeLine ∧ ∀ a, H a = none → Q (.ref a) (upd H a (.lst vs)) := by
  obtain ⟨m2, S2, ds, d2, S3, R2, r2, e2, q2⟩ := h
  unfold lstN at e2
  split at e2
  · rename_i hf
    cases e2
    exact ⟨by rw [← r2.length]; exact fits_le hf, goLst R2 r2 q2⟩
  · cases e2
end
section
variable {X : Cx} {p : XP} {W : WX} {a b c e o : Expr} {es : List Expr} {pos : Pos} {fa fb fc fo : XV} {g : XVA}
theorem pxv_old {f : Ev} (h : PE X e (rdE f)) : PE X e (rdXE p W fun ρ S => (f ρ S).x) := PE.of h fun _ _ _ q => rdX_old q
theorem pxt_old {f : Ev} (h : PT X e (rdT f)) : PT X e (rdXT p W fun ρ S => (f ρ S).x) := PT.of h fun _ _ _ q => rdX_oldT q
theorem pxa_old {f : EvA} (h : PA X es (rdA f)) : PA X es (rdXA p W fun ρ S => (f ρ S).x) := PA.of h fun _ _ _ q => rdX_oldA q
theorem pxt_val (h : PE X e (rdXE p W fa)) (he : ∀ whole, isTrue e X.env whole = (do let v ← whole; standAt e.pos; holding [v] (truthy v))) : PT X e (rdXT p W fa) := PT.of (pt_val h he) fun _ _ _ h => rdXT_of h
theorem pxv_bad : PE X e (rdXE p W fun _ _ => .bad) := ⟨fun _ _ _ _ _ _ h => by obtain ⟨_, _, _, _, q⟩ := h; exact q.elim⟩
theorem pxt_bad : PT X e (rdXT p W fun _ _ => .bad) := ⟨fun _ _ _ _ _ _ h => by obtain ⟨_, _, _, _, q⟩ := h; exact q.elim⟩
theorem pxv_bin {op : Operator} {gg : D → D → Sto → Res D} (ho : OpR X (binaryOp op) (rd2 gg)) (ha : PE X a (rdXE p W fa)) (hb : PE X b (rdXE p W fb)) : PE X (.BinOp a op b pos) (rdXE p W (xop2 gg fa fb)) := PE.of (pe_op ho ha hb) fun _ _ _ h => rdX_op2 h
theorem pxv_cmp {op : CmpOp} {gg : D → D → Sto → Res D} (ho : OpR X (compareOp op) (rd2 gg)) (ha : PE X a (rdXE p W fa)) (hb : PE X b (rdXE p W fb)) (hm : behindInMarks op b = false) : PE X (.Compare a [op] [b] pos) (rdXE p W (xop2 gg fa fb)) := PE.of (pe_cmpR ho ha hb hm) fun _ _ _ h => rdX_op2 h
theorem pxt_cmp {op : CmpOp} {gg : D → D → Sto → Res D} (ho : OpR X (compareOp op) (rd2 gg)) (ha : PE X a (rdXE p W fa)) (hb : PE X b (rdXE p W fb)) (hm : behindInMarks op b = false) : PT X (.Compare a [op] [b] pos) (rdXT p W (xop2 gg fa fb)) := PT.of (pt_cmpR ho ha hb hm) fun _ _ _ h => rdX_op2 (rdXT_of h)
theorem pxa_nil : PA X [] (rdXA p W xnil) := PA.of pa_nil fun σ H Q h => by
  obtain ⟨m, S, ρ, s, q⟩ := h
  exact q m H [] (ExtX.refl s.rel) s.tab rfl
theorem pxa_cons (he : PE X e (rdXE p W fa)) (hes : PA X es (rdXA p W g)) (hs : starEach (e :: es) X.env = (false, eval e X.env) :: starEach es X.env) : PA X (e :: es) (rdXA p W (xcons fa g)) := PA.of (pa_cons he hes hs) fun σ H Q h => by
  obtain ⟨m, S, ρ, s, q⟩ := h
  refine (post_bind s q).mono fun v H1 ⟨m1, S1, d, s1, X1, r1, q1⟩ => (post_bindA s1 q1).mono fun w H2 ⟨m2, S2, ds, s2, X2, r2, q2⟩ => ?_
  exact q2 m2 H2 _ (ExtX.refl s2.rel) s2.tab ⟨v, w, rfl, r1.extX X2, r2⟩
theorem pxv_tup {k : Nat} (h : PA X es (rdXA p W g)) : PE X (.Tuple es k pos) (rdXE p W (xN tupN g)) := PE.of (pe_tup h) fun σ H Q h => (rdX_N h).mono fun v H1 r => rdN_tup r
theorem pxv_lst (h : PA X es (rdXA p W g)) : PE X (.List es pos) (rdXE p W (xN lstN g)) := PE.of (pe_lst h) fun σ H Q h => (rdX_N h).mono fun v H1 r => rdN_lst r
theorem pxv_callB {id : String} {x : Str} {p1 : Pos} {gg : List D → Sto → Res D} (hc : CallR X (.builtin id) (rdN gg)) (hg : Gl X x) (hm : X.mg x = none) (hv : bootBuiltins x = some (.builtin id)) (ha : PA X (e :: es) (rdXA p W g)) (hn : x ≠ "__name__") (hdb : (x == ("__debug__" : Str)) = false)
    (he : starEach (e :: es) X.env = (false, eval e X.env) :: starEach es X.env) (hpl : (backTo pos (starEach es X.env)).any (·.1) = false) : PE X (.Call (.Name x p1) (e :: es) [] pos) (rdXE p W (xN gg g)) :=
  PE.of (pe_callB hc hg hm hv ha hn hdb he hpl) fun _ _ _ h => rdX_N h
theorem pxv_not (ha : PE X a (rdXE p W fa)) : PE X (.UnaryOp .Not a pos) (rdXE p W (xnot fa)) := PE.of (pe_not ha) fun σ H Q h => (rdXT_of (rdX_B h)).mono fun x H1 ⟨b, e, q⟩ => ⟨b, e, rdX_C q fun _ _ _ => rfl⟩
theorem pxt_not (ha : PT X a (rdXT p W fa)) : PT X (.UnaryOp .Not a pos) (rdXT p W (xnot fa)) := PT.of (pt_not ha) fun σ H Q h => (rdX_BT h).mono fun b H1 q => rdX_CT q
variable {rest : List Expr}
theorem pxw_and1 (h : PT X a (rdXT p W fa)) : PW X (.BoolOp .And [a] pos) (rdXT p W fa) := pw_and1 h
theorem pxw_or1 (h : PT X a (rdXT p W fa)) : PW X (.BoolOp .Or [a] pos) (rdXT p W fa) := pw_or1 h
theorem pxw_and (ha : PT X a (rdXT p W fa)) (hb : PW X (.BoolOp .And (b :: rest) pos) (rdXT p W fb)) : PW X (.BoolOp .And (a :: b :: rest) pos) (rdXT p W (xand fa fb)) := PW.of (pw_and ha hb) fun σ H Q h => (rdX_BT h).mono fun c H1 q => by
  cases c with
  | true => exact q
  | false => exact rdX_CT q
theorem pxw_or (ha : PT X a (rdXT p W fa)) (hb : PW X (.BoolOp .Or (b :: rest) pos) (rdXT p W fb)) : PW X (.BoolOp .Or (a :: b :: rest) pos) (rdXT p W (xor fa fb)) := PW.of (pw_or ha hb) fun σ H Q h => (rdX_BT h).mono fun c H1 q => by
  cases c with
  | true => exact rdX_CT q
  | false => exact q
theorem pxv_one {op : BoolOp} (h : PE X a (rdXE p W fa)) : PE X (.BoolOp op [a] pos) (rdXE p W fa) := pe_one h
theorem pxv_and (ha : PE X a (rdXE p W fa)) (hb : PE X (.BoolOp .And (b :: rest) pos) (rdXE p W fb)) : PE X (.BoolOp .And (a :: b :: rest) pos) (rdXE p W (xand fa fb)) := PE.of (pe_and ha hb) fun σ H Q h => (rdXT_of (rdX_B h)).mono fun x H1 ⟨c, e, q⟩ => ⟨c, e, by
  cases c with
  | true => exact q
  | false => exact rdX_C q fun _ _ _ => rfl⟩
theorem pxv_or (ha : PE X a (rdXE p W fa)) (hb : PE X (.BoolOp .Or (b :: rest) pos) (rdXE p W fb)) : PE X (.BoolOp .Or (a :: b :: rest) pos) (rdXE p W (xor fa fb)) := PE.of (pe_or ha hb) fun σ H Q h => (rdXT_of (rdX_B h)).mono fun x H1 ⟨c, e, q⟩ => ⟨c, e, by
  cases c with
  | true => exact rdX_C q fun _ _ _ => rfl
  | false => exact q⟩
theorem pxv_if (hc : PT X c (rdXT p W fc)) (ha : PE X a (rdXE p W fa)) (hb : PE X b (rdXE p W fb)) : PE X (.IfExp c a b pos) (rdXE p W (xif fc fa fb)) := PE.of (pe_ifExp hc ha hb) fun σ H Q h => (rdX_B h).mono fun c H1 q => by
  cases c with
  | true => exact q
  | false => exact q
end
end Sw

/-! B3: statements that may raise. -/
namespace Sw
open PySem PySem.Spec PyProof.Rows L2
def xsNext : XS := fun ρ S => .nx ρ S
def xsSeq (f g : XS) : XS := fun ρ S => match f ρ S with
  | .nx ρ1 S1 => g ρ1 S1
  | r => r
def xsExpr (f : XV) : XS := sbind f fun _ => xsNext
def xsRet (f : XV) : XS := sbind f fun d _ S => .rt d S
def xsSet (f : XV) (i : Nat) : XS := sbind f fun d ρ S => .nx (ρ.set i (some d)) S
def xsAsg (f : XV) (g : Gv) : XS := sbind f fun d ρ S => match g d ρ S with
  | .ok ρ1 S1 => .nx ρ1 S1
  | .bad => .bad
def xsIf (c : XV) (f g : XS) : XS := sbind c fun d ρ S => match d with
  | .bl b => match b with
    | true => f ρ S
    | false => g ρ S
  | _ => .bad
def xsFor (src : Src) (g : Gv) (f : XS) : Nat → Nat → XS
  | 0, _, _, _ => .bad
  | k + 1, i, ρ, S => match src.next S i with
    | some (some d) => match g d ρ S with
      | .ok ρ1 S1 => match f ρ1 S1 with
        | .nx ρ2 S2 => xsFor src g f k (i + 1) ρ2 S2
        | .ct ρ2 S2 => xsFor src g f k (i + 1) ρ2 S2
        | .bk ρ2 S2 => .nx ρ2 S2
        | .rt d S2 => .rt d S2
        | .ex c fs ρ2 S2 => .ex c fs ρ2 S2
        | .bad => .bad
      | .bad => .bad
    | some none => .nx ρ S
    | none => .bad
def xsForI (fi : Iv) (g : Gv) (f : XS) : XS := fun ρ S => match fi ρ S with
  | .ok src S1 => xsFor src g f (src.turns S1 + 1) 0 ρ S1
  | .bad => .bad
section
variable {X : Cx} {p : XP} {W : WX} {st : Stmt} {rest A B body : List Stmt} {f g : XS} {e c tg iter : Expr} {fe fc : XV} {pos : Pos}
theorem psx_nil : PSs X [] (rdXS p W xsNext) := PSs.of pss_nil fun D σ H h => by
  obtain ⟨m, S, ρ, s, q⟩ := h
  exact q m H σ (ExtX.refl s.rel) s
theorem psx_cons (h1 : PS X st (rdXS p W f)) (h2 : PSs X rest (rdXS p W g)) : PSs X (st :: rest) (rdXS p W (xsSeq f g)) := PSs.of (pss_cons h1 h2) fun D σ H h => by
  obtain ⟨m, S, ρ, s, q⟩ := h
  refine ⟨m, S, ρ, s, ?_⟩
  unfold xsSeq at q
  cases e : f ρ S with
  | nx ρ1 S1 =>
    rw [e] at q
    exact fun m1 H1 σ1 X1 s1 => ⟨m1, S1, ρ1, s1, SXPost.ext X1 q⟩
  | rt d S1 => rw [e] at q; exact q
  | bk ρ1 S1 => rw [e] at q; exact q
  | ct ρ1 S1 => rw [e] at q; exact q
  | ex c fs ρ1 S1 => rw [e] at q; exact q
  | bad => rw [e] at q; exact q
theorem psx_bad : PS X st (rdXS p W fun _ _ => .bad) := PS.of ps_never fun D σ H h => by
  obtain ⟨m, S, ρ, s, q⟩ := h
  exact q
theorem psx_old {f : Sv} (j : p.J0) (h : PS X st (rdS f)) : PS X st (rdXS p W fun ρ S => (f ρ S).x) := PS.of h fun _ _ _ q => rdX_oldS j q
theorem psx_expr (he : PE X e (rdXE p W fe)) (hs : swapsWith e none pos.line X.env = pure false) : PS X (.Expr e pos) (rdXS p W (xsExpr fe)) := PS.of (ps_expr he hs) fun D σ H h => by
  obtain ⟨m, S, ρ, s, q⟩ := h
  exact (post_sbind s q).mono fun v H1 ⟨m1, S1, d, s1, X1, r1, q1⟩ => q1 m1 H1 σ (ExtX.refl s1.rel) s1
theorem psx_ret (he : PE X e (rdXE p W fe)) : PS X (.Return (some e) pos) (rdXS p W (xsRet fe)) := PS.of (ps_ret he) fun D σ H h => by
  obtain ⟨m, S, ρ, s, q⟩ := h
  exact (post_sbind s q).mono fun v H1 ⟨m1, S1, d, s1, X1, r1, q1⟩ => q1 m1 H1 v (ExtX.refl s1.rel) s1.tab r1
theorem Stt.set {m : Nat → Addr} {S : Sto} {H : Hp} {ρ : En} {σ : L2.St} {i : Nat} {d : D} {v : V} (s : Stt p m S H ρ σ) (hi : i ∉ p.pin ∨ p.J0) (r : RD m S.len H d v) : Stt p m S H (ρ.set i (some d)) (σ.set i (some v)) :=
  ⟨s.rel, s.tab, s.env.set i r, hi.elim (fun h => p.hJ [i] _ _ _ σ _ (fun j hj z => h (List.mem_singleton.mp z ▸ hj)) (Chg.set (List.mem_singleton.mpr rfl) _) s.j) fun j => p.hJ0 j _ _ _ _⟩
theorem Stt.unset {m : Nat → Addr} {S : Sto} {H : Hp} {ρ : En} {σ : L2.St} {i : Nat} {o : Option V} (s : Stt p m S H ρ σ) (hi : i ∉ p.pin ∨ p.J0) : Stt p m S H (ρ.set i none) (σ.set i o) :=
  ⟨s.rel, s.tab, ⟨by simp [s.env.len], fun j d e => by
    by_cases hj : j = i
    · subst hj
      by_cases hl : j < ρ.length
      · rw [List.getElem?_set_self hl] at e; cases e
      · rw [List.getElem?_eq_none (by simpa using hl)] at e; cases e
    · rw [List.getElem?_set_ne (Ne.symm hj)] at e
      obtain ⟨v, a, b⟩ := s.env.get j d e
      exact ⟨v, by rw [List.getElem?_set_ne (Ne.symm hj)]; exact a, b⟩⟩, hi.elim (fun h => p.hJ [i] _ _ _ σ _ (fun j hj z => h (List.mem_singleton.mp z ▸ hj)) (Chg.set (List.mem_singleton.mpr rfl) _) s.j) fun j => p.hJ0 j _ _ _ _⟩
theorem psx_set {i : Nat} {x : Str} {pos' : Pos} (h0 : i ∉ p.pin ∨ p.J0) (hN : X.N.Nodup) (hi : X.N[i]? = some x) (hx : Loc X.env.scope x) (he : PE X e (rdXE p W fe)) (hs : swapsWith e (some (.Name x pos')) pos.line X.env = pure false) (hf : X.fn x = true ∨ X.env.scope.names.lookup x = some .local) :
    PS X (.Assign [.Name x pos'] e pos) (rdXS p W (xsSet fe i)) := PS.of (ps_set hN hi hx he hs hf) fun D σ H h => by
  obtain ⟨m, S, ρ, s, q⟩ := h
  exact (post_sbind s q).mono fun v H1 ⟨m1, S1, d, s1, X1, r1, q1⟩ => q1 m1 H1 _ (ExtX.refl s1.rel) (s1.set h0 r1)
theorem Stt.chg {sl : List Nat} {m : Nat → Addr} {S : Sto} {H : Hp} {ρ ρ' : En} {σ σ' : L2.St} {m1 : Nat → Addr} {S1 : Sto} {H1 : Hp} (s : Stt p m S H ρ σ) (h0 : (∀ i ∈ p.pin, i ∉ sl) ∨ p.J0) (X : Ext m m1 S S1 H H1) (E : REnv m1 S1.len H1 ρ' σ') (C : Chg sl σ σ') : Stt p m1 S1 H1 ρ' σ' :=
  ⟨X.rel, s.old X, E, h0.elim (fun h => p.hJ sl _ _ _ σ σ' h C (p.hX _ _ _ _ _ _ _ X.x s.j)) fun j => p.hJ0 j _ _ _ _⟩
theorem psx_asg {sl : List Nat} {gv : Gv} (h0 : (∀ i ∈ p.pin, i ∉ sl) ∨ p.J0) (he : PE X e (rdXE p W fe)) (hg : PG X tg (rdG sl gv)) (hs : swapsWithSole [tg] e pos.line X.env = pure false) (hw : swappedStores [tg] e X.env = pure none) (h1 : (assignEach [tg] X.env).map (·.2) = [assign tg X.env]) :
    PS X (.Assign [tg] e pos) (rdXS p W (xsAsg fe gv)) := PS.of (ps_asg he hg hs hw h1) fun D σ H h => by
  obtain ⟨m, S, ρ, s, q⟩ := h
  refine (post_sbind s q).mono fun v H1 ⟨m1, S1, d, s1, X1, r1, q1⟩ => ?_
  cases e2 : gv d ρ S1 with
  | bad => rw [e2] at q1; exact q1.elim
  | ok ρ2 S2 =>
    rw [e2] at q1
    exact ⟨m1, S1, ρ, d, ρ2, S2, s1.rel, s1.env, r1, e2, fun m2 H2 σ2 X2 E2 C2 => q1 m2 H2 σ2 X2.x (s1.chg h0 X2 E2 C2)⟩
theorem psx_if (hc : PT X c (rdXT p W fc)) (ha : PSs X A (rdXS p W f)) (hb : PSs X B (rdXS p W g)) : PS X (.If c A B pos) (rdXS p W (xsIf fc f g)) := PS.of (ps_if hc ha hb) fun D σ H h => by
  obtain ⟨m, S, ρ, s, q⟩ := h
  refine ⟨m, S, ρ, s, ?_⟩
  unfold xsIf sbind at q
  cases e : fc ρ S with
  | bad => rw [e] at q; exact q
  | ex c fs S1 => rw [e] at q; exact fun m' H' dd X t r => q m' H' σ dd X (s.ext X t) r
  | ok d S1 =>
    rw [e] at q
    cases d with
    | bl b =>
      refine fun m' H' X t => ?_
      cases b with
      | true => exact ⟨m', S1, ρ, s.ext X t, SXPost.ext X q⟩
      | false => exact ⟨m', S1, ρ, s.ext X t, SXPost.ext X q⟩
    | _ => exact q.elim
theorem psx_for {sl : List Nat} {fi : Iv} {gv : Gv} (h0 : (∀ i ∈ p.pin, i ∉ sl) ∨ p.J0) (hp : PassesOwn (model X.prog X.w) X.A X.env X.xe) (hc : X.calm = true) (hi : PI X tg iter (rdI fi)) (hg : PG X tg (rdG sl gv)) (hb : PSs X body (rdXS p W f)) (hs : ∀ x, foldedSetIterable iter X.env x = pure x) :
    PS X (.For tg iter body [] pos) (rdXS p W (xsForI fi gv f)) := PS.of (ps_for hp hc hi hg hb hs) fun D σ H h => by
  obtain ⟨m, S, ρ, s, q⟩ := h
  unfold xsForI at q
  cases e0 : fi ρ S with
  | bad => rw [e0] at q; exact q.elim
  | ok src S0 =>
    rw [e0] at q
    dsimp only at q
    refine ⟨m, S, ρ, src, S0, s.rel, s.env, e0, fun m0 H0 J X0 OK => ?_⟩
    refine ⟨fun i k σ H => ∃ m S ρ, ExtX m0 m S0 S H0 H ∧ Stt p m S H ρ σ ∧ SXPost p W m S H D (xsFor src gv f k i ρ S), ⟨_, m0, S0, ρ, ExtX.refl X0.rel, s.ext X0.x (s.old X0), SXPost.ext X0.x q⟩, ?_⟩
    rintro i k σ H ⟨m, S, ρ, X1, s1, q⟩
    cases k with
    | zero => exact q.elim
    | succ k =>
      simp only [xsFor] at q
      obtain ⟨ok1, ok2⟩ := OK m S H i X1
      split at q
      · rename_i d hd
        obtain ⟨go, yl⟩ := ok1 d hd
        refine .inr ⟨go, fun σ H => ∃ m S ρ, ExtX m0 m S0 S H0 H ∧ Stt p m S H ρ σ ∧ SXPost p W m S H D (xsFor src gv f k (i + 1) ρ S), fun σ' H' z => ⟨k, Nat.lt_succ_self k, z⟩, fun x H' y => ?_⟩
        obtain ⟨X2, rx⟩ := yl x H' y
        split at q
        · rename_i ρ1 S1 hg1
          refine ⟨m, S, ρ, d, ρ1, S1, X2.rel, s1.env.ext X2, rx, hg1, fun m3 H3 σ3 X3 E3 C3 => ⟨m3, S1, ρ1, (s1.ext X2.x (s1.old X2)).chg h0 X3 E3 C3, ?_⟩⟩
          have X23 : ExtX m m3 S S1 H H3 := (X2.trans X3).x
          cases h2 : f ρ1 S1 with
          | nx ρ2 S2 => rw [h2] at q; exact fun m4 H4 σ4 X4 s4 => ⟨m4, S2, ρ2, ExtX.trans X1 (ExtX.trans X23 X4), s4, SXPost.ext (ExtX.trans X23 X4) q⟩
          | ct ρ2 S2 => rw [h2] at q; exact fun m4 H4 σ4 X4 s4 => ⟨m4, S2, ρ2, ExtX.trans X1 (ExtX.trans X23 X4), s4, SXPost.ext (ExtX.trans X23 X4) q⟩
          | bk ρ2 S2 => rw [h2] at q; exact fun m4 H4 σ4 X4 s4 => q m4 H4 σ4 (ExtX.trans X23 X4) s4
          | rt d S2 => rw [h2] at q; exact fun m4 H4 v4 X4 t4 r4 => q m4 H4 v4 (ExtX.trans X23 X4) t4 r4
          | ex c fs ρ2 S2 => rw [h2] at q; exact fun m4 H4 σ4 dd X4 s4 r4 => q m4 H4 σ4 dd (ExtX.trans X23 X4) s4 r4
          | bad => rw [h2] at q; exact q
        · exact q.elim
      · rename_i hd
        exact .inl ⟨ok2 hd, q m H σ (ExtX.refl (Ext.rel X1)) s1⟩
      · exact q.elim
end
end Sw

/-! BY: C(e, ..) of an own exception class under ValueError makes an exception. -/
namespace Sw
open PySem PySem.Spec PySem.Calls PyProof.Rows L2
/-- the reading: C(e, ..) -/
def tMkX (C : Addr) (fn : List Str) (ta : TA) : L2.St → Hp → XK → Prop := fun σ H Q => ta σ H fun vs H1 => vs.length = fn.length ∧ (fn = [] → Q (.ref C) none H1) ∧ (fn ≠ [] → ∀ dx, H1 dx = none → Q (.ref C) (some dx) (upd H1 dx (.xd ((fn.zip vs).reverse))))
theorem relO_zip {fn : List Str} {vs : List V} {us : List Value} (r : Vals vs us) : ∀ (fs : List (Str × V)) (gs : List (Str × Value)), (∀ f, RelO (fs.lookup f) (gs.lookup f)) → ∀ f, RelO (((fn.zip vs).reverse ++ fs).lookup f) (((fn.zip us).reverse ++ gs).lookup f) := by
  induction fn generalizing vs us with
  | nil => intro fs gs h f; exact h f
  | cons k fn ih =>
    intro fs gs h f
    cases r with
    | nil => exact h f
    | @cons v u vs us ru rr =>
      have e1 : ((k :: fn).zip (v :: vs)).reverse ++ fs = (fn.zip vs).reverse ++ (k, v) :: fs := by simp
      have e2 : ((k :: fn).zip (u :: us)).reverse ++ gs = (fn.zip us).reverse ++ (k, u) :: gs := by simp
      rw [e1, e2]
      refine ih rr _ _ (fun g => ?_) f
      simp only [List.lookup]
      cases g == k with
      | true => exact ru
      | false => exact h g
section
variable {X : Cx} {C : Addr} {fn : List Str} {k : Nat} {x : Str} {p pos : Pos} {e : Expr} {es : List Expr} {ta : TA}
theorem mkX_run {pins : List (Addr × Obj)} {σ : L2.St} {H1 : Hp} {Q : XK} {hp : Heap} {g : Array GenState} {dr : Drawn} {tk : Nat} {os : OsState} {vs : List V} {us : List Value} {E : Value → Shared → Prop} (T : ExK X.prog X.K C fn) (hr : Room k X.A) (hfn : fn.length ≤ 800)
    (I1 : Inv X pins σ H1 ⟨hp, g, dr, tk, os⟩) (r1 : Vals vs us) (hl : vs.length = fn.length) (q0 : fn = [] → Q (.ref C) none H1) (q1 : fn ≠ [] → ∀ dx, H1 dx = none → Q (.ref C) (some dx) (upd H1 dx (.xd ((fn.zip vs).reverse)))) :
    wpAny (model X.prog X.w) X.A (call (.ref C) us) (MkP X pins σ Q) E ⟨hp, g, dr, tk, os⟩ := by
  obtain ⟨fI, cc, cda, cd, oc, ccl, cl, od, cdd, cld, osl, ccs, csl, qual, params, scope, dV, kV, doc, pm, ct, an, ar, vs0, file, tf, msg, j, k0, k1, k2, k3, k4, k5, ss, hi, tI, _⟩ := T.ex
  obtain ⟨nm, q, N, bs, bm, sn, sub, ab, col, dd, c0, c1, c2, c3, c5, hC, hbm⟩ := T.T.cls
  have hu : us.length = fn.length := by rw [← hl]; exact r1.length.symm
  have hus : us.length ≤ sizeLine := by rw [sizeLine_eq]; omega
  have kk : ∀ b o, hp.get? b = some o → ((hp.push (PySem.W.kdv_tup us)).push (PySem.HandSPX.excO C hp.objs.size)).get? b = some o := fun b o z => Heap.get?_push_of_some _ (Heap.get?_push_of_some _ z)
  have hget : ((hp.push (PySem.W.kdv_tup us)).push (PySem.HandSPX.excO C hp.objs.size)).get? (hp.objs.size + 1) = some (PySem.HandSPX.excO C hp.objs.size) := by heap_get
  have md := I1.ok.mod
  have hA : H1 (hp.objs.size + 1) = none := I1.hok.fresh (Nat.le_succ _)
  have nA : hp.get? (hp.objs.size + 1) = none := Heap.get?_none_of_le (Nat.le_succ _)
  have sz : ((hp.push (PySem.W.kdv_tup us)).push (PySem.HandSPX.excO C hp.objs.size)).objs.size = hp.objs.size + 2 := by rw [Heap.size_push, Heap.size_push]
  refine wpAny_call (PySem.HandSPX.call_own F.excBase_ValueError (fun Y => PySem.HandSPX.refsVE_contains Y bm hbm) (I1.kIn _ _ hC) (PySem.W.looks_findIn I1.kIn hi) (fun self => PySem.W.bind_fn I1.kIn self tI) hus ?_)
  obtain ⟨mb, Bn, Bb⟩ := md.blt
  refine init_run (mg := X.mg) T hi (by rw [make_depth]; have := hr.dp; omega) (PySem.W.Frag.In.keeps I1.kIn kk) ((md.glob.keeps I1.bk).keeps kk) ⟨mb, (Bn.keeps I1.bk).keeps kk, Bb⟩ ((md.nolimit.keeps I1.bk).keeps kk) hget (fun a o z z2 => by
    have := I1.kIn a o z
    rw [z2, nA] at this
    cases this) us hu hfn fun h' t' t1 dd' kp e1 n1 z0 z1 => ⟨rfl, ?_⟩
  obtain ⟨G, g1, g2⟩ := restrict h' fun b => decide (b ≠ hp.objs.size + 1)
  have gk : ∀ b, b ≠ hp.objs.size + 1 → G.get? b = h'.get? b := fun b hb => g1 b (decide_eq_true hb)
  have ga : G.get? (hp.objs.size + 1) = none := g2 _ (by simp)
  have up : ∀ b o, hp.get? b = some o → G.get? b = some o := fun b o z => by
    have nb : b ≠ hp.objs.size + 1 := fun y => by rw [y, nA] at z; cases z
    rw [gk b nb]
    exact kp b o nb (kk b o z)
  have dn : ∀ b o, G.get? b = some o → h'.get? b = some o := fun b o z => by
    by_cases nb : b = hp.objs.size + 1
    · rw [nb, ga] at z; cases z
    · rw [← gk b nb]; exact z
  cases hdd : dd' with
  | none =>
    subst hdd
    have hfe : fn = [] := by
      cases fn with
      | nil => rfl
      | cons a r => obtain ⟨dx, z⟩ := z1 (by simp); cases z
    exact ⟨_, _, _, ⟨G, g, dr, t', os⟩, H1, .ref C, none, rfl, I1.kept (t' := t') up, dn, ga, e1, ⟨rfl, rfl⟩, rfl, rfl, hA, rfl, I1.bare, raises_own T.T.exC T.T.tyC, q0 hfe⟩
  | some dx =>
    subst hdd
    obtain ⟨hsz, hne, hns⟩ := n1 dx rfl
    rw [sz] at hsz
    have hfe : fn ≠ [] := fun z => by have := z0 z; cases this
    have hdx : H1 dx = none := I1.hok.fresh (Nat.le_trans (Nat.le_add_right _ 2) hsz)
    have new : ObjOk X.prog X.w (upd H1 dx (.xd ((fn.zip vs).reverse))) G dx (.xd ((fn.zip vs).reverse)) := by
      refine ⟨_, hns.at fun o y => (gk dx hne).trans y, fun f => ?_⟩
      have := relO_zip (fn := fn) r1 [] [] (fun _ => True.intro) f
      rwa [List.append_nil, List.append_nil] at this
    exact ⟨_, _, _, ⟨G, g, dr, t', os⟩, _, .ref C, some dx, rfl, I1.laid (t' := t') (a := dx) (o := .xd ((fn.zip vs).reverse)) (h' := G) up (Nat.le_trans (Nat.le_add_right _ 2) hsz) new, dn, ga, e1, ⟨rfl, rfl⟩, rfl, rfl, by rw [upd_ne (Ne.symm hne)]; exact hA, rfl, I1.bare, raises_own T.T.exC T.T.tyC, q1 hfe dx hdx⟩
theorem pmk_X (T : ExK X.prog X.K C fn) (hr : Room k X.A) (hfn : fn.length ≤ 800) (hg : Gl X x) (hm : X.mg x = some (.ref C)) (ha : PA X (e :: es) ta) (hdb : (x == ("__debug__" : Str)) = false)
    (he : starEach (e :: es) X.env = (false, eval e X.env) :: starEach es X.env) (hpl : (backTo pos (starEach es X.env)).any (·.1) = false) : PMk X (.Call (.Name x p) (e :: es) [] pos) (tMkX C fn ta) := by
  intro pins s σ H Q I h
  refine wpAny_Call_Name_kw (ld_glob I hg hm ?_ hdb)
  refine PySem.W.callWith_K (h₀ := X.base) I.ok.mod.kin T.T.kC (thn (ha.run pos pins s σ H _ I h) fun us s1 ⟨vs, H1, I1, r1, hl, q0, q1⟩ => ⟨I1.kIn, ?_⟩) he hpl
  show wpAny _ _ (call (.ref C) us) _ _ _
  obtain ⟨hp, g, dr, tk, os⟩ := s1
  exact mkX_run T hr hfn I1 r1 hl q0 q1
theorem pmk_X0 (T : ExK X.prog X.K C []) (hr : Room k X.A) (hg : Gl X x) (hm : X.mg x = some (.ref C)) (hdb : (x == ("__debug__" : Str)) = false) : PMk X (.Call (.Name x p) [] [] pos) (fun _ H Q => Q (.ref C) none H) := by
  intro pins s σ H Q I h
  refine wpAny_Call_Name_kw (ld_glob I hg hm ?_ hdb)
  refine PySem.W.callWith_K0 I.kIn T.T.kC ?_
  obtain ⟨hp, g, dr, tk, os⟩ := s
  exact mkX_run (vs := []) (us := []) T hr (by simp) I .nil rfl (fun _ => h) fun z => absurd rfl z
end
end Sw

/-! B4: defs that may raise, their calls; raise; try. -/
namespace Sw
open PySem PySem.Spec PyProof.Rows L2
abbrev FnX := List D → Sto → RX D
/-- behind a def that an exception leaves -/
def leaveS (S S' : Sto) : Sto := ⟨S'.objs, S.bs, S'.dirty⟩
/-- what a def's body left, told to the caller -/
def fnTail (S : Sto) : SX → RX D
  | .nx _ S' => (ret S .non S').x
  | .rt d S' => (ret S d S').x
  | .ex c fs _ S' => .ex c fs (leaveS S S')
  | _ => .bad
def fnXSem (n ar : Nat) (f : XS) : FnX := fun ds S => match Nat.beq ds.length ar with
  | true => fnTail S (f (ds.map some ++ List.replicate (n - ar) none) S.enter)
  | false => .bad
/-- an exception's wish without the slots -/
abbrev wE (E : XK) : WX := fun cls dd _ H => E cls dd H
def rdXN (p : XP) (f : FnX) (vs : List V) (H : Hp) (Q : VK) (E : XK) : Prop := ∃ m S ds, Rel m S H ∧ LamX.Tabs p.T H ∧ RDs m S.len H ds vs ∧ XPE p (wE E) m S H [] Q (f ds S)
def spX (p : XP) (ar : Nat) (f : FnX) : Sp := fun vs H Q E => vs.length = ar ∧ rdXN p f vs H Q E
section
variable {p : XP} {m m' : Nat → Addr} {S S' S2 : Sto} {H H' : Hp}
theorem leave_ok (R : Rel m S H) (X : ExtX m m' S.enter S' H H') : ExtX m m' S (leaveS S S') H H' := by
  have X : Ext m m' S.enter S' (noT H) H' := X
  have hlen : S.len ≤ S'.len := X.len
  exact ⟨hlen, X.ag, X.keep, rfl, ⟨X.rel.obj, X.rel.inj, fun hd b hb n o hn e => X.rel.low hd b (by rw [X.bs]; exact List.mem_cons_of_mem _ hb) n o hn e, R.top, fun b hb => Nat.le_trans (R.lens b hb) hlen⟩, X.oth, X.new⟩
theorem ret_okX {d d2 : D} {v : V} (R : Rel m S H) (X : ExtX m m' S.enter S' H H') (r : RD m' S'.len H' d v) (e : ret S d S' = .ok d2 S2) : ∃ m2, ExtX m m2 S S2 H H' ∧ RD m2 S2.len H' d2 v := ret_ok R.noT X r e
theorem tail_post {pg : XP} {E : XK} {Q : VK} (hT : pg.T = p.T) (hc : pg.cn = p.cn) (R : Rel m S H) : ∀ {r : SX}, XPE p (wE E) m S H [] Q (fnTail S r) → SXPost pg (wE E) m S.enter H { nx := fun _ H' => Q .non H', rt := Q } r
  | .nx ρ' S', q => fun m' H' σ' X' s' => by
    have q : XPE p (wE E) m S H [] Q (ret S .non S').x := q
    cases e2 : ret S .non S' with
    | bad => rw [e2] at q; exact q.elim
    | ok d2 S2 =>
      rw [e2] at q
      obtain ⟨m2, X2, r2⟩ := ret_okX (d := .non) (v := .non) R X' rfl e2
      exact q m2 H' _ X2 (hT ▸ s'.tab) r2
  | .rt d0 S', q => fun m' H' v X' t' r' => by
    have q : XPE p (wE E) m S H [] Q (ret S d0 S').x := q
    cases e2 : ret S d0 S' with
    | bad => rw [e2] at q; exact q.elim
    | ok d2 S2 =>
      rw [e2] at q
      obtain ⟨m2, X2, r2⟩ := ret_okX R X' r' e2
      exact q m2 H' _ X2 (hT ▸ t') r2
  | .ex c fs ρ' S', q => fun m' H' σ' dd X' s' x' => by
    have q1 := q m' H' dd (leave_ok R X') (hT ▸ s'.tab) x'
    show E (pg.cn c) dd H'
    rw [hc]
    exact q1
  | .bk ρ' S', q => q.elim
  | .ct ρ' S', q => q.elim
  | .bad, q => q.elim
theorem rd_fnX {n ar : Nat} {f : XS} {N : List Str} {vs : List V} {Q : VK} {E : XK} (hN : N.length = n) (hj : ∀ (m : Nat → Addr) (S : Sto) (H : Hp), p.J m S H (L2.start N vs)) (hl : vs.length = ar) (h : rdXN p (fnXSem n ar f) vs H Q E) :
    rdXS p (wE E) f { nx := fun _ H' => Q .non H', rt := Q } (L2.start N vs) H := by
  obtain ⟨m, S, ds, R, t, r, q⟩ := h
  have hdl : ds.length = ar := r.length.trans hl
  have En : REnv m S.enter.len H (ds.map some ++ List.replicate (n - ar) none) (L2.start N vs) := by
    refine ⟨by simp [L2.start, hN, ← r.length, hdl], fun i d0 h0 => ?_⟩
    by_cases hi : i < ds.length
    · rw [List.getElem?_append_left (by simpa using hi)] at h0
      have h0' : ds[i]? = some d0 := by
        rw [List.getElem?_map] at h0
        cases e1 : ds[i]? with
        | none => rw [e1] at h0; cases h0
        | some d1 => rw [e1] at h0; simp at h0; rw [h0]
      obtain ⟨v, h1, h2⟩ := r.get h0'
      refine ⟨v, ?_, h2⟩
      unfold L2.start
      rw [List.getElem?_append_left (by rw [List.length_map, ← r.length]; exact hi), List.getElem?_map, h1]
      rfl
    · rw [List.getElem?_append_right (by simpa using hi)] at h0
      rw [List.getElem?_replicate] at h0
      split at h0 <;> cases h0
  refine ⟨m, S.enter, _, ⟨R.enter, t, En, hj _ _ _⟩, ?_⟩
  unfold fnXSem at q
  rw [show Nat.beq ds.length ar = true by rw [hdl]; exact Nat.beq_refl ar] at q
  exact tail_post rfl rfl R q
end
/-- a def's promise, exceptions told -/
structure FnE (P : Program) (w : World) (K : Frg) (mg : Str → Option Value) (base : Heap) (k : Nat) (f : Addr) (fd : FuncData) (ps : List Str) (sp : Sp) : Prop where
  len : ∀ vs H Q E, sp vs H Q E → vs.length = ps.length
  run : ∀ (A : Around) (outer : List Env) (s : Shared) (H : Hp) (args : Args) (us : List Value) (vs : List V) (Q : VK) (E : XK), Room k A → NoG A → Env0 P w K mg base A outer s H → BindsTo s fd args (ps.zip us) → Vals vs us → sp vs H Q E →
    codeAny (model P w) A (.call (.ref f) args) (CR (L2.CX P w) outer P w H s Q E) s
theorem fnE_of {P : Program} {w : World} {K : Frg} {mg : Str → Option Value} {base : Heap} {k : Nat} {f : Addr} {x : Str} {params : Arguments} {body : List Stmt} {scope : Scope} {fd : FuncData} {N ps : List Str} {sp : Sp} (F : FunD K x x params body scope [] [] f fd) (S : FnScope N ps scope)
    (len : ∀ vs H Q E, sp vs H Q E → vs.length = ps.length)
    (hbody : ∀ (cdv : Value) (A : Around) (outer : List Env) (s : Shared) (H : Hp) (vs : List V) (Q : VK) (E : XK), fd.code = cdv → Room k (A.deeper (envOfC x scope s.heap.objs.size f cdv)) → NoG (A.deeper (envOfC x scope s.heap.objs.size f cdv)) → sp vs H Q E →
      ∃ t, PSs (cxOf (L2.CX P w) P w K mg base N x scope f cdv A outer s H E) body t ∧ t { nx := fun _ H' => Q .non H', rt := Q } (L2.start N vs) H) : FnE P w K mg base (k + 1) f fd ps sp := by
  obtain ⟨oc, od, dV, kV, doc, pm, an, cdv, ct, osl, rfl, lk, hcd, _, _⟩ := F.ex
  refine ⟨len, fun A outer s H args us vs Q E hr hg e0 hb r hsp => ?_⟩
  have l0 := len _ _ _ _ hsp
  have kin : K.In s.heap := e0.mod.kin.keeps fun b o z => (e0.bs b o z).1
  have nolim : s.heap.NoLimit := e0.mod.nolimit.keeps fun b o z => (e0.bs b o z).1
  have kinds : ∀ y ∈ ps.zip us, scope.names.lookup y.1 = some .local ∨ (scope.names.lookup y.1 = some .cell ∧ ((cellsFrom (s.heap.objs.size + 1) scope.names []).lookup y.1).isSome = true) := fun ⟨n, v⟩ hy =>
    (S.par n (List.of_mem_zip hy).1).elim .inl fun z => .inr ⟨z, PySem.W.cellsFrom_some _ _ _ (.inl z)⟩
  refine codeAny_call_function hr.depth (kin _ _ lk) rfl S.co S.gen rfl (PySem.W.codeRec_of kin hcd) (hb _ _ _ _ ?_)
  refine wpAny_newFunctionEnv_cells S.kind kinds fun env he s1 z => ?_
  subst he
  refine ⟨nolim.keeps z.toInCall.keep, codeAny_func ?_⟩
  obtain ⟨t, ht, hq⟩ := hbody cdv A outer s H vs Q E rfl (hr.deeper _) (nog_deeper hg _) hsp
  have I : Inv (cxOf (L2.CX P w) P w K mg base N x scope f cdv A outer s H E) [] (L2.start N vs) H s1 := inv_start S hr.hd e0 l0 r z
  refine wpAny_mono (ht.run [] s1 (L2.start N vs) H _ I hq) (fun fl s' hs => ?_) fun e s' hs => hs
  cases fl with
  | ret u =>
    obtain ⟨v, σ', H', J, rv, q⟩ := hs
    exact ⟨v, H', J.os, J.bare, J.base, J.hok, rv, q⟩
  | next =>
    obtain ⟨σ', H', J, q⟩ := hs
    exact ⟨.non, H', J.os, J.bare, J.base, J.hok, rfl, q⟩
  | brk =>
    obtain ⟨σ', H', J, q⟩ := hs
    exact False.elim q
  | cont =>
    obtain ⟨σ', H', J, q⟩ := hs
    exact False.elim q
structure DefX (p : XP) (P : Program) (w : World) (K : Frg) (mg : Str → Option Value) (base : Heap) (k : Nat) (x : Str) (ar : Nat) (fn : FnX) : Prop where
  ex : ∃ (f : Addr) (fd : FuncData) (ps : List Str), FnE P w K mg base k f fd ps (spX p ar fn) ∧ mg x = some (.ref f) ∧ PySem.W.keepIn K (.ref f) = true ∧ Binds K fd ps []
  len : ∀ ds S, ds.length ≠ ar → fn ds S = .bad
section
variable {X : Cx} {p : XP} {W : WX} {k : Nat} {f : Addr} {fd : FuncData} {ps : List Str} {sp : Sp} {x : Str} {p1 pos : Pos} {e : Expr} {es : List Expr} {t : TA} {g : XVA} {fn : FnX} {ar : Nat}
theorem run_E {pins : List (Addr × Obj)} {σ : L2.St} {H : Hp} {s : Shared} {Q : VK} {us : List Value} {vs : List V} (F : FnE X.prog X.w X.K X.mg X.base k f fd ps sp) (hr : Room k X.A) (hn : NoG X.A) (hb : Binds X.K fd ps []) (tk : Takes X W)
    (I : Inv X pins σ H s) (r : Vals vs us) (h : sp vs H Q (WE W σ)) : wpAny (model X.prog X.w) X.A (call (.ref f) us) (EP X pins σ Q) X.xe s := by
  have hl : us.length = ps.length := by rw [← r.length]; exact F.len _ _ _ _ h
  have bt := hb s us I.kIn (by simpa using hl)
  rw [List.append_nil] at bt
  refine wpAny_call (codeAny_mono (F.run X.A X.stack s H ⟨us, []⟩ us vs Q (WE W σ) hr hn I.env0 bt r h) fun res s' hq => ?_)
  cases res with
  | error e => exact passAt tk σ pins H s e s' I hq
  | ok fl => cases fl with
    | ret u => exact I.after hq
    | next => exact (show False from hq).elim
    | brk => exact (show False from hq).elim
    | cont => exact (show False from hq).elim
theorem pe_callE (F : FnE X.prog X.w X.K X.mg X.base k f fd ps sp) (hr : Room k X.A) (hn : NoG X.A) (hg : Gl X x) (hm : X.mg x = some (.ref f)) (hk : PySem.W.keepIn X.K (.ref f) = true) (hb : Binds X.K fd ps []) (tk : Takes X W)
    (ha : PA X (e :: es) t) (hdb : (x == ("__debug__" : Str)) = false) (he : starEach (e :: es) X.env = (false, eval e X.env) :: starEach es X.env) (hpl : (backTo pos (starEach es X.env)).any (·.1) = false) :
    PE X (.Call (.Name x p1) (e :: es) [] pos) (fun σ H Q => t σ H fun vs H1 => sp vs H1 Q (WE W σ)) := ⟨fun pins s σ H Q I h =>
  wpAny_Call_Name_kw (ld_glob I hg hm (PySem.W.callWith_K (h₀ := X.base) I.ok.mod.kin hk (thn (ha.run pos pins s σ H _ I h) fun us s1 ⟨vs, H1, I1, r, q⟩ => ⟨I1.kIn, run_E F hr hn hb tk I1 r q⟩) he hpl) hdb)⟩
theorem pe_callE0 (F : FnE X.prog X.w X.K X.mg X.base k f fd ps sp) (hr : Room k X.A) (hn : NoG X.A) (hg : Gl X x) (hm : X.mg x = some (.ref f)) (hk : PySem.W.keepIn X.K (.ref f) = true) (hb : Binds X.K fd ps []) (tk : Takes X W)
    (hdb : (x == ("__debug__" : Str)) = false) : PE X (.Call (.Name x p1) [] [] pos) (fun σ H Q => sp [] H Q (WE W σ)) := ⟨fun pins s σ H Q I h =>
  wpAny_Call_Name_kw (ld_glob I hg hm (PySem.W.callWith_K0 I.kIn hk (run_E (us := []) F hr hn hb tk I .nil h)) hdb)⟩
def xcall (fn : FnX) (g : XVA) : XV := xbind g fun ds _ S => fn ds S
theorem post_wE {σ : L2.St} {m : Nat → Addr} {S : Sto} {H : Hp} {Q : VK} : ∀ {r : RX D}, XPE p W m S H σ Q r → XPE p (wE (WE W σ)) m S H [] Q r
  | .ok _ _, h => h
  | .ex _ _ _, h => h
  | .bad, h => h
theorem post_len {σ : L2.St} {m : Nat → Addr} {S : Sto} {H : Hp} {Q : VK} {ds : List D} {vs : List V} (F : DefX p X.prog X.w X.K X.mg X.base k x ar fn) (r : RDs m S.len H ds vs) (h : XPE p W m S H σ Q (fn ds S)) : vs.length = ar := by
  rw [← r.length]
  by_cases z : ds.length = ar
  · exact z
  · rw [F.len ds S z] at h
    exact h.elim
theorem pxv_call (F : DefX p X.prog X.w X.K X.mg X.base k x ar fn) (hr : Room k X.A) (hn : NoG X.A) (hg : Gl X x) (tk : Takes X W) (ha : PA X (e :: es) (rdXA p W g)) (hdb : (x == ("__debug__" : Str)) = false)
    (he : starEach (e :: es) X.env = (false, eval e X.env) :: starEach es X.env) (hpl : (backTo pos (starEach es X.env)).any (·.1) = false) : PE X (.Call (.Name x p1) (e :: es) [] pos) (rdXE p W (xcall fn g)) := by
  obtain ⟨f, fd, ps, F1, hm, hk, hb⟩ := F.ex
  refine PE.of (pe_callE F1 hr hn hg hm hk hb tk ha hdb he hpl) fun σ H Q h => ?_
  obtain ⟨m, S, ρ, s, q⟩ := h
  refine (post_bindA s q).mono fun v H1 ⟨m1, S1, d, s1, X1, r1, q1⟩ => ?_
  exact ⟨post_len F r1 q1, m1, S1, d, s1.rel, s1.tab, r1, post_wE q1⟩
theorem pxv_call0 (F : DefX p X.prog X.w X.K X.mg X.base k x ar fn) (hr : Room k X.A) (hn : NoG X.A) (hg : Gl X x) (tk : Takes X W) (hdb : (x == ("__debug__" : Str)) = false) : PE X (.Call (.Name x p1) [] [] pos) (rdXE p W (xcall fn xnil)) := by
  obtain ⟨f, fd, ps, F1, hm, hk, hb⟩ := F.ex
  refine PE.of (pe_callE0 F1 hr hn hg hm hk hb tk hdb) fun σ H Q h => ?_
  obtain ⟨m, S, ρ, s, q⟩ := h
  have q : XPE p W m S H σ Q (fn [] S) := q
  exact ⟨post_len (ds := []) (vs := []) F (show RDs m S.len H [] [] from rfl) q, m, S, [], s.rel, s.tab, (show RDs m S.len H [] [] from rfl), post_wE q⟩
/-- a def that raises nothing, called upon what may raise -/
theorem pxv_callO {fn : Fn} (F : Def X.prog X.w X.K X.mg X.base k x ar fn) (hr : Room k X.A) (hn : NoG X.A) (hg : Gl X x) (ha : PA X (e :: es) (rdXA p W g)) (hdb : (x == ("__debug__" : Str)) = false)
    (he : starEach (e :: es) X.env = (false, eval e X.env) :: starEach es X.env) (hpl : (backTo pos (starEach es X.env)).any (·.1) = false) : PE X (.Call (.Name x p1) (e :: es) [] pos) (rdXE p W (xN fn g)) := by
  obtain ⟨f, fd, ps, F1, hm, hk, hb, _⟩ := F.ex
  refine PE.of (pe_callG F1 hr hn hg hm hk hb ha hdb he hpl) fun σ H Q h => (rdX_N h).mono fun v1 H1 h2 => ?_
  show spF ar fn v1 H1 Q E0
  obtain ⟨m2, S2, ds, d2, S3, R2, r2, e2, q2⟩ := id h2
  exact ⟨by rw [← r2.length]; exact F.len _ _ _ _ e2, h2⟩
/-! ### raise -/
/-- raise c(..), its arguments by the elder evaluator; fn: the fields' names -/
def xsRaise (c : Str) (fn : List Str) (g : EvA) : XS := fun ρ S => match g ρ S with
  | .ok ds S1 => match Nat.beq ds.length fn.length with
    | true => .ex c ((fn.zip ds).reverse) ρ S1
    | false => .bad
  | .bad => .bad
theorem rfs_zip {m : Nat → Addr} {k : Nat} {H : Hp} : ∀ {fn : List Str} {ds : List D} {vs : List V} {fs : List (Str × D)} {gs : List (Str × V)}, RDs m k H ds vs → RFs m k H fs gs → RFs m k H ((fn.zip ds).reverse ++ fs) ((fn.zip vs).reverse ++ gs)
  | [], _, _, _, _, _, h => h
  | a :: fn, [], vs, fs, gs, r, h => by
    have r : vs = [] := r
    subst r
    exact h
  | a :: fn, d :: ds, vs, fs, gs, r, h => by
    obtain ⟨v, rs, rfl, h1, h2⟩ := r
    have e1 : ((a :: fn).zip (d :: ds)).reverse ++ fs = (fn.zip ds).reverse ++ (a, d) :: fs := by simp
    have e2 : ((a :: fn).zip (v :: rs)).reverse ++ gs = (fn.zip rs).reverse ++ (a, v) :: gs := by simp
    rw [e1, e2]
    exact rfs_zip h2 ⟨v, gs, rfl, h1, h⟩
theorem raise_post {m : Nat → Addr} {S S1 : Sto} {H : Hp} {ρ : En} {σ : L2.St} {c : Str} {C : Addr} {fn : List Str} {ds : List D} {m1 : Nat → Addr} {H1 : Hp} {vs : List V} {D : Ends} (s : Stt p m S H ρ σ) (hc : p.cn c = .ref C) (X1 : Ext m m1 S S1 H H1) (r1 : RDs m1 S1.len H1 ds vs) (hl : ds.length = fn.length)
    (q : SXPost p W m S H D (.ex c ((fn.zip ds).reverse) ρ S1)) : vs.length = fn.length ∧ (fn = [] → W (.ref C) none σ H1) ∧ (fn ≠ [] → ∀ dx, H1 dx = none → W (.ref C) (some dx) σ (upd H1 dx (.xd ((fn.zip vs).reverse)))) := by
  have s1 : Stt p m1 S1 H1 ρ σ := s.ext X1.x (s.old X1)
  refine ⟨by rw [← r1.length]; exact hl, fun z => ?_, fun z dx hdx => ?_⟩
  · subst z
    have q := q m1 H1 σ none X1.x s1 (by simp [XfOk])
    rwa [hc] at q
  · have kp : Keep H1 (upd H1 dx (.xd ((fn.zip vs).reverse))) := Keep.new hdx
    have far : ∀ n, n < S1.len → m1 n ≠ dx := fun n hn e => by
      obtain ⟨u, hu⟩ := s1.rel.live hn
      rw [e, hdx] at hu
      cases hu
    have R2 : Rel m1 S1 (upd H1 dx (.xd ((fn.zip vs).reverse))) := ⟨fun n o e => (s1.rel.obj n o e).mono' (Nat.le_refl _) (fun _ _ => rfl) kp (upd_ne (far n (List.getElem?_eq_some_iff.mp e).1)), s1.rel.inj, s1.rel.low, s1.rel.top, s1.rel.lens⟩
    have X2 : Ext m1 m1 S1 S1 H1 (upd H1 dx (.xd ((fn.zip vs).reverse))) := ⟨Nat.le_refl _, fun _ _ => rfl, kp, rfl, R2, fun a o e _ => by
      rw [upd_ne (fun y => by rw [y, hdx] at e; cases e)]
      exact e, fun n h1 h2 => absurd h2 (Nat.not_lt_of_le h1)⟩
    have q := q m1 _ σ (some dx) (ExtX.trans X1.x X2.x) (s1.ext X2.x (s1.old X2)) (by
      have rf := rfs_zip (fn := fn) (fs := []) (gs := []) (r1.ext X2) rfl
      rw [List.append_nil, List.append_nil] at rf
      unfold XfOk
      split
      · rename_i e0
        exfalso
        have := congrArg List.length e0
        simp at this
        rcases this with h | h
        · exact z h
        · rw [h] at hl; exact z (List.length_eq_zero_iff.mp hl.symm)
      · exact ⟨dx, _, rfl, upd_same, rf⟩)
    rwa [hc] at q
theorem psx_raise {st : Str} {C : Addr} {fn : List Str} {ga : EvA} {k : Nat} (hc : p.cn x = .ref C) (T : ExK X.prog X.K C fn) (hr : Room k X.A) (hfn : fn.length ≤ 800) (hg : Gl X x) (hm : X.mg x = some (.ref C)) (calm : X.calm = true) (tk : Takes X W) (ha : PA X (e :: es) (rdA ga)) (hdb : (x == ("__debug__" : Str)) = false)
    (he : starEach (e :: es) X.env = (false, eval e X.env) :: starEach es X.env) (hpl : (backTo pos (starEach es X.env)).any (·.1) = false) {rpos : Pos} : PS X (.Raise (some (.Call (.Name x p1) (e :: es) [] pos)) none rpos) (rdXS p W (xsRaise x fn ga)) :=
  PS.of (ps_raise calm tk (pmk_X T hr hfn hg hm ha hdb he hpl)) fun D σ H h => by
    obtain ⟨m, S, ρ, s, q⟩ := h
    unfold xsRaise at q
    cases e1 : ga ρ S with
    | bad => rw [e1] at q; exact q.elim
    | ok ds S1 =>
      rw [e1] at q
      dsimp only at q
      refine ⟨m, S, ρ, ds, S1, s.rel, s.env, e1, fun m1 H1 v1 X1 r1 => ?_⟩
      cases e2 : Nat.beq ds.length fn.length with
      | false => rw [e2] at q; exact q.elim
      | true =>
        rw [e2] at q
        exact raise_post s hc X1 r1 (Nat.eq_of_beq_eq_true e2) q
theorem psx_raise0 {C : Addr} {k : Nat} (hc : p.cn x = .ref C) (T : ExK X.prog X.K C []) (hr : Room k X.A) (hg : Gl X x) (hm : X.mg x = some (.ref C)) (calm : X.calm = true) (tk : Takes X W) (hdb : (x == ("__debug__" : Str)) = false) {rpos : Pos} :
    PS X (.Raise (some (.Call (.Name x p1) [] [] pos)) none rpos) (rdXS p W (xsRaise x [] evNil)) :=
  PS.of (ps_raise calm tk (pmk_X0 T hr hg hm hdb)) fun D σ H h => by
    obtain ⟨m, S, ρ, s, q⟩ := h
    exact (raise_post (ds := []) (vs := []) (fn := []) s hc (Ext.refl s.rel) rfl rfl q).2.1 rfl
end
end Sw

/-! B5: try: .. except C as e: one statement. -/
namespace Sw
open PySem PySem.Spec PyProof.Rows L2
section
variable {m m' : Nat → Addr} {S S' : Sto} {H H' : Hp} {k : Nat}
theorem OOk.notXd {a : Addr} {o : O} (h : OOk m k H a o) (fs : List (Str × V)) : H a ≠ some (.xd fs) := fun z => by
  cases o with
  | lst xs => obtain ⟨vs, e, _⟩ := h; rw [z] at e; cases e
  | frz xs => obtain ⟨vs, _, e, _⟩ := h; rw [z] at e; cases e
  | dct kvs => obtain ⟨vs, e, _⟩ := h; rw [z] at e; cases e
  | dctT kvs => obtain ⟨vs, e, _⟩ := h; rw [z] at e; cases e
  | dctN kvs =>
    obtain ⟨xs, e, _⟩ := h
    have e := e.at_
    rw [z] at e
    unfold NDict at e
    cases e
  | set xs =>
    have e : H a = some (.set _ _) := h
    rw [z] at e
    cases e
theorem RFs.extX (X : ExtX m m' S S' H H') : ∀ {fs : List (Str × D)} {vs : List (Str × V)}, RFs m S.len H fs vs → RFs m' S'.len H' fs vs
  | [], vs, h => h
  | (f, d) :: r, vs, h => by
    obtain ⟨v, rs, h1, h2, h3⟩ := h
    exact ⟨v, rs, h1, RD.extX h2 X, RFs.extX X h3⟩
theorem xd_ext (R : Rel m S H) (X : ExtX m m' S S' H H') {a : Addr} {fs : List (Str × V)} (h : H a = some (.xd fs)) : H' a = some (.xd fs) :=
  X.oth a _ (noT_some h fun ps z => by cases z) fun n hn e => (R.obj n _ (List.getElem?_eq_getElem hn)).notXd fs (by rw [e]; exact h)
theorem XfOk.extX (R : Rel m S H) (X : ExtX m m' S S' H H') {fs : List (Str × D)} {dd : Option Addr} (h : XfOk m S.len H fs dd) : XfOk m' S'.len H' fs dd := by
  unfold XfOk at h ⊢
  split at h
  · exact h
  · obtain ⟨dx, vs, h1, h2, h3⟩ := h
    exact ⟨dx, vs, h1, xd_ext R X h2, h3.extX X⟩
end
/-- within the suite: slot i holds the exception at a, whose dict is dd -/
def pIn (p : XP) (i : Nat) (a : Addr) (dd : Option Addr) (fs : List (Str × D)) : XP where
  T := p.T
  cn := p.cn
  J := fun m S H σ => p.J m S H σ ∧ Rel m S H ∧ σ[i]? = some (some (.ref a)) ∧ XfOk m S.len H fs dd
  pin := i :: p.pin
  hJ := fun sl m S H σ σ' h C ⟨j1, j2, j3, j4⟩ => ⟨p.hJ sl m S H σ σ' (fun j hj => h j (List.mem_cons_of_mem _ hj)) C j1, j2, (C.get i (h i List.mem_cons_self)).trans j3, j4⟩
  hX := fun m m' S S' H H' σ X ⟨j1, j2, j3, j4⟩ => ⟨p.hX m m' S S' H H' σ X j1, Ext.rel X, j3, j4.extX j2 X⟩
  J0 := False
  hJ0 := fun h => h.elim
def xsTry (sub : Str → Option Bool) (i : Nat) (fb : XS) (su : Str → List (Str × D) → XS) : XS := fun ρ S => match fb ρ S with
  | .ex c fs ρ1 S1 => match sub c with
    | some true => match su c fs (ρ1.set i none) S1 with
      | .nx ρ2 S2 => .nx (ρ2.set i none) S2
      | .rt d S2 => .rt d S2
      | .bk ρ2 S2 => .bk (ρ2.set i none) S2
      | .ct ρ2 S2 => .ct (ρ2.set i none) S2
      | _ => .bad
    | some false => .ex c fs ρ1 S1
    | none => .bad
  | r => r
abbrev wNo : WX := fun _ _ _ _ => False
def wLen (n : Nat) (W : WX) : WX := fun cls d σ H => σ.length = n → W cls d σ H
theorem takes_len {X : Cx} {pn : List (Addr × Obj)} {xe : Value → Shared → Prop} {W : WX} (tk : Takes (X.tr pn xe) W) : Takes (X.tr pn xe) (wLen X.N.length W) := fun u s' ⟨a, B, sI, pins, σ, H, cls, d, e, I, nb, up, sky, na, os, ag, w⟩ =>
  tk u s' ⟨a, B, sI, pins, σ, H, cls, d, e, I, nb, up, sky, na, os, ag, w I.len⟩
section
variable {X : Cx} {p : XP} {x n c : Str} {i : Nat} {body suite : List Stmt} {b0 : Stmt} {np pos pos' : Pos} {fb : XS} {su : Str → List (Str × D) → XS} {Wout : WX} {sub : Str → Option Bool}
theorem Stt.outOf {m : Nat → Addr} {S : Sto} {H : Hp} {ρ : En} {σ : L2.St} {a : Addr} {dd : Option Addr} {fs : List (Str × D)} (hfree : i ∉ p.pin ∨ p.J0) (s : Stt (pIn p i a dd fs) m S H ρ σ) : Stt p m S H (ρ.set i none) (σ.set i none) :=
  Stt.unset (p := p) ⟨s.rel, s.tab, s.env, s.j.1⟩ hfree
theorem psx_try (hs : X.stack = X.env :: X.outer) (hf : X.env.frame = some X.env.locals) (hN : X.N.Nodup) (hi : X.N[i]? = some n) (hln : X.env.kindOf n = some .local) (hc : Names X x (p.cn c)) (tk : Takes X Wout) (hfree : i ∉ p.pin ∨ p.J0)
    (hsub : ∀ c1 b, sub c1 = some b → PySem.W.exmOne X.K (p.cn c1) (p.cn c) = some b)
    (hb : ∀ (W : WX) (pn : List (Addr × Obj)) (xe : Value → Shared → Prop), Takes (X.tr pn xe) W → PassesOwn (model X.prog X.w) X.A X.env xe → PSs (X.tr pn xe) body (rdXS p W fb))
    (hsu : ∀ (a : Addr) (oe : Obj) (c1 : Str) (d : Option Addr) (pn : List (Addr × Obj)) (fs : List (Str × D)), sub c1 = some true → Zc (p.cn c1) d oe → (∃ vs, oe.data = .fields vs) → PSs (X.suite a ((a, oe) :: pn)) (b0 :: suite) (rdXS (pIn p i a d fs) wNo (su c1 fs))) :
    PS X (.Try body [.ExceptHandler (some (.Name x np)) (some n) (b0 :: suite) pos'] [] [] pos) (rdXS p Wout (xsTry sub i fb su)) := by
  have base := ps_try_as (X := X) (x := x) (n := n) (c := p.cn c) (i := i) (body := body) (suite := suite) (b₀ := b0) (np := np) (pos := pos) (pos' := pos') (tb := fun W => rdXS p (wLen X.N.length W) fb)
    (ts := fun a cls d D σ H => ∃ c1 fs, cls = p.cn c1 ∧ sub c1 = some true ∧ rdXS (pIn p i a d fs) wNo (su c1 fs) D σ H) (Wout := Wout) hs hf hN hi hln hc tk (fun W pn xe tk2 po => hb _ pn xe (takes_len tk2) po)
    (fun a oe cls d pn hz hfl => ⟨fun pins s σ H D I ⟨c1, fs, e1, e2, h⟩ => (hsu a oe c1 d pn fs e2 (e1 ▸ hz) hfl).run pins s σ H D I h⟩)
  refine ⟨fun pins s σ H D I h => base.run pins s σ H D I ?_⟩
  obtain ⟨m, S, ρ, st, q⟩ := h
  refine ⟨m, S, ρ, st, ?_⟩
  unfold xsTry at q
  cases e : fb ρ S with
  | bad => rw [e] at q; exact q
  | nx ρ1 S1 => rw [e] at q; exact q
  | rt d S1 => rw [e] at q; exact q
  | bk ρ1 S1 => rw [e] at q; exact q
  | ct ρ1 S1 => rw [e] at q; exact q
  | ex c1 fs ρ1 S1 =>
    rw [e] at q
    dsimp only at q
    intro m1 H1 σ1 dd X1 s1 x1 hl1
    have hlen1 : i < σ1.length := by
      rw [hl1]
      exact (List.getElem?_eq_some_iff.mp hi).1
    cases e1 : sub c1 with
    | none => rw [e1] at q; exact q.elim
    | some b =>
      refine ⟨b, hsub c1 b e1, fun hb1 a na => ⟨c1, fs, rfl, by rw [e1, hb1], ?_⟩, fun hb1 => ?_⟩
      · subst hb1
        rw [e1] at q
        dsimp only at q
        have s2 : Stt (pIn p i a dd fs) m1 S1 H1 (ρ1.set i none) (σ1.set i (some (.ref a))) := by
          have s3 := s1.unset (o := some (.ref a)) hfree
          exact ⟨s3.rel, s3.tab, s3.env, s3.j, s3.rel, by rw [List.getElem?_set_self hlen1], x1⟩
        refine ⟨m1, S1, _, s2, ?_⟩
        cases e2 : su c1 fs (ρ1.set i none) S1 with
        | bad => rw [e2] at q; exact q.elim
        | ex _ _ _ _ => rw [e2] at q; exact q.elim
        | nx ρ2 S2 => rw [e2] at q; exact fun m3 H3 σ3 X3 s3 => q m3 H3 _ (ExtX.trans X1 X3) (s3.outOf hfree)
        | rt d S2 => rw [e2] at q; exact fun m3 H3 v X3 t3 r3 => q m3 H3 v (ExtX.trans X1 X3) t3 r3
        | bk ρ2 S2 => rw [e2] at q; exact fun m3 H3 σ3 X3 s3 => q m3 H3 _ (ExtX.trans X1 X3) (s3.outOf hfree)
        | ct ρ2 S2 => rw [e2] at q; exact fun m3 H3 σ3 X3 s3 => q m3 H3 _ (ExtX.trans X1 X3) (s3.outOf hfree)
      · subst hb1
        rw [e1] at q
        exact q m1 H1 σ1 dd X1 s1 x1
end
end Sw

/-! B6: err.f in a suite; a lambda without parameters, handed to a def that calls it. -/
namespace Sw
open PySem PySem.Spec PyProof.Rows L2
def xXf (fs : List (Str × D)) (f : Str) : XV := fun _ S => match fs.lookup f with
  | some d => .ok d S
  | none => .bad
section
variable {X : Cx} {p : XP} {W : WX} {a C : Addr} {oe : Obj} {d : Option Addr} {pn : List (Addr × Obj)} {i : Nat} {n f : Str} {fs : List (Str × D)} {p1 pos : Pos}
theorem pxv_xf (T : XfC X.K C) (hno : PySem.W.findIn X.K (.ref C) f = some none) (hz : Zc (.ref C) d oe) (hf : ∃ vs, oe.data = .fields vs) (hN : X.N[i]? = some n) (hv : Vis X.env.scope n) (hd : (n == ("__debug__" : Str)) = false) (hcd : (n == ("__classdict__" : Str)) = false)
    (hb : attributeBase (.Name n p1) f X.env (eval (.Name n p1) X.env) = eval (.Name n p1) X.env) : PE (X.suite a ((a, oe) :: pn)) (.Attribute (.Name n p1) f pos) (rdXE (pIn p i a d fs) W (xXf fs f)) :=
  PE.of (pe_xf T hno hz hf (pe_var (X := X.suite a ((a, oe) :: pn)) hN hv hd hcd) hb) fun σ H Q h => by
    obtain ⟨m, S, ρ, s, q⟩ := h
    obtain ⟨j1, j2, j3, j4⟩ := s.j
    refine ⟨.ref a, j3, rfl, rfl, ?_⟩
    unfold xXf at q
    cases e : fs.lookup f with
    | none => rw [e] at q; exact q.elim
    | some d1 =>
      rw [e] at q
      unfold XfOk at j4
      split at j4
      · cases e
      · obtain ⟨dx, vs, e1, e2, e3⟩ := j4
        obtain ⟨v, e4, e5⟩ := RFs.look e3 e
        exact ⟨dx, vs, v, e1, e2, e4, q m H v (ExtX.refl s.rel) s.tab e5⟩
end
/-! ### lambdas -/
/-- in the def that got a lambda: slot 0 holds it -/
def pLam (p : XP) (f : Addr) (m0 : Nat → Addr) (S0 : Sto) (H0 : Hp) : XP where
  T := p.T
  cn := p.cn
  J := fun m S H σ => σ[(0 : Nat)]? = some (some (.ref f)) ∧ ExtX m0 m S0 S H0 H
  pin := [0]
  hJ := fun sl m S H σ σ' h C ⟨j1, j2⟩ => ⟨Eq.trans (C.get (0 : Nat) (h (0 : Nat) List.mem_cons_self)) j1, j2⟩
  hX := fun m m' S S' H H' σ X ⟨j1, j2⟩ => ⟨j1, ExtX.trans j2 X⟩
  J0 := False
  hJ0 := fun h => h.elim
theorem code_ext {m m' : Nat → Addr} {S S' : Sto} {H H' : Hp} {c : Addr} {q : Str} (R : Rel m S H) (X : ExtX m m' S S' H H') (h : H c = some (LamX.CodeO c q)) : H' c = some (LamX.CodeO c q) :=
  X.oth c _ (noT_some h fun ps z => LamX.codeO_ne ps z) fun n hn e => (R.obj n _ (List.getElem?_eq_getElem hn)).notCode (by rw [e]; exact h)
section
variable {X : Cx} {p : XP} {pins : List (Addr × Obj)} {σ : L2.St} {H : Hp} {s : Shared}
/-- a(), in the def that got the lambda -/
theorem pxv_act {Eg : XK} {Ng : List Str} {qg : Str} {sg : Scope} {g f c' : Addr} {cdg pm ctv : Value} {params : Arguments} {body : Expr} {scope : Scope} {k : Nat} {a : Str} {pn : List (Addr × Obj)} {xe : Value → Shared → Prop} {W : WX} {fb : XV} {p1 p2 : Pos} {m0 : Nat → Addr} {S0 : Sto} {ρ0 : En}
    (I : Inv X pins σ H s) (L : LamX.LamS X.env.scope scope) (hf : s.heap.get? f = some (PySem.W.kla_obj "<lambda>" (X.env.qual ++ "<lambda>") params body scope (cloFrom X.env.cells scope.names []) pm c' ctv)) (hfn : H f = none) (hfr : f ∉ frs X.stack)
    (hbind : bindArgs (PySem.W.kla_fn "<lambda>" (X.env.qual ++ "<lambda>") params body scope (cloFrom X.env.cells scope.names []) pm (.ref c') ctv) ⟨[], []⟩ = pure [])
    (tk : Takes ((cxOf (L2.CX X.prog X.w) X.prog X.w X.K X.mg X.base Ng qg sg g cdg X.A X.stack s H Eg).tr pn xe) W) (hr : Room (k + 1) (X.A.deeper (envOfC qg sg s.heap.objs.size g cdg))) (hn : NoG (X.A.deeper (envOfC qg sg s.heap.objs.size g cdg)))
    (hbody : ∀ (A : Around) (outer : List Env) (s : Shared) (H : Hp) (E : XK), Room k (A.deeper (LamX.lamEnv X scope s.heap.objs.size f c')) → NoG (A.deeper (LamX.lamEnv X scope s.heap.objs.size f c')) → PE (LamX.lamCx X A outer s H E scope f c') body (rdXE p (wE E) fb))
    (st : Stt p m0 S0 H ρ0 σ) (hcode : H c' = some (LamX.CodeO c' (X.env.qual ++ "<lambda>"))) (hN : Ng[0]? = some a) (hv : Vis sg a) (hd : (a == ("__debug__" : Str)) = false) (hcd : (a == ("__classdict__" : Str)) = false) :
    PE ((cxOf (L2.CX X.prog X.w) X.prog X.w X.K X.mg X.base Ng qg sg g cdg X.A X.stack s H Eg).tr pn xe) (.Call (.Name a p1) [] [] p2) (rdXE (pLam p f m0 S0 H) W (fun _ S => fb ρ0 S)) := by
  refine ⟨fun pinsZ sZ σZ HZ Q IZ ⟨m, S, ρ, sz, q⟩ => ?_⟩
  obtain ⟨j1, j2⟩ := sz.j
  have hco := code_ext st.rel j2 hcode
  refine wpAny_Call_Name_kw (thn ((pe_var (pos := p1) (i := 0) hN hv hd hcd).run pinsZ sZ σZ HZ (fun v H1 => v = .ref f ∧ H1 = HZ) IZ ⟨.ref f, j1, rfl, rfl⟩) fun u s1 ⟨v, H1, I1, r1, ev, eH⟩ => ?_)
  subst ev
  subst eH
  obtain rfl : u = Value.ref f := r1
  have of1 := I1.base.keep f _ hf hfn hfr (fun z => nomatch (show f ∈ ([] : List Addr) from z))
  refine PySem.W.callWith_F0 ⟨_, _, _, _, of1⟩ ?_
  have un : Un (frs X.stack) [] H H1 s.heap s1.heap := I1.base
  obtain ⟨⟨oc, vs, t, hoc, hdc, hvc⟩, _, _⟩ := I1.hok c' _ hco
  have rc : codeAny (model X.prog X.w) (X.A.deeper (envOfC qg sg s.heap.objs.size g cdg)) (.call (.ref f) ⟨[], []⟩)
      (CR (L2.CX X.prog X.w) (envOfC qg sg s.heap.objs.size g cdg :: X.stack) X.prog X.w H1 s1 Q (WE W σZ)) s1 := by
    refine PySem.W.kla_callFunE hr.depth of1 rfl L.co L.gen rfl ⟨c', oc, vs, t, rfl, hoc, hdc, hvc⟩ ?_
    rw [hbind]
    refine wpAny_pure (wpAny_newFunctionEnv (fun y hy => (L.own y hy).2) (fun y hy => absurd hy (by simp)) (fun h1 hns hsb => ⟨I1.nolimit.fresh _ hsb, ?_⟩) L.kind)
    show codeAny _ _ (.expr body (LamX.lamEnv X scope s1.heap.objs.size f c')) _ _
    have J := LamX.lam_start2 (E := WE W σZ) (c' := c') (f := f) (tk := s1.toks + ([] : List (Str × Value)).length) I L I1.env0 hr.hd un hns fun b o e => hsb.extBut b o (Nat.ne_of_lt (Heap.lt_size e)) (Heap.get?_push_of_some _ e)
    have q2 : XPE p (wE (WE W σZ)) m S H1 σ Q (fb ρ0 S) := by
      have q : XPE (pLam p f m0 S0 H) W m S H1 σZ Q (fb ρ0 S) := q
      cases e : fb ρ0 S with
      | bad => rw [e] at q; exact q
      | ok _ _ => rw [e] at q; exact q
      | ex _ _ _ => rw [e] at q; exact q
    refine PySem.W.kla_codeExpr (wpAny_mono ((hbody _ _ s1 H1 (WE W σZ) (hr.deeper _) (nog_deeper hn _)).run [] _ _ H1 Q J ⟨m, S, ρ0, st.ext j2 sz.tab, q2⟩) (fun v s' hq => ?_) fun e s' hq => hq)
    obtain ⟨w', H', J', rv, q⟩ := hq
    exact ⟨w', H', J'.os, J'.bare, J'.base, J'.hok, rv, q⟩
  refine wpAny_call (codeAny_mono rc fun r s' hq => ?_)
  cases r with
  | error e => exact passAt tk σZ pinsZ _ s1 e s' I1 hq
  | ok fl =>
    cases fl with
    | ret u => exact I1.after hq
    | next => exact (show False from hq).elim
    | brk => exact (show False from hq).elim
    | cont => exact (show False from hq).elim
end
/-- what a def that gets a lambda computes -/
abbrev Act := Sto → RX D
def fnGSem (n : Nat) (f : Act → XS) (act : Act) (S : Sto) : RX D := fnTail S (f act (List.replicate n none) S.enter)
/-- a def that gets a lambda: g at x, a its parameter, f what its body computes -/
structure DefG (T : List (Addr × Str)) (cn : Str → Value) (P : Program) (w : World) (K : Frg) (mg : Str → Option Value) (base : Heap) (k : Nat) (x : Str) (sem : Act → Act) : Prop where
  ex : ∃ (g : Addr) (Ng : List Str) (a : Str) (n : Nat) (f : Act → XS) (pg : Arguments) (bg : List Stmt) (sg : Scope) (dV kV doc pm cdv ct oc : Value) (an od : Option Addr) (osl : Array (Option Value)),
    mg x = some (.ref g) ∧ PySem.W.keepIn K (.ref g) = true ∧ K.lookup g = some ⟨oc, od, .func (PySem.W.fnOf x x pg bg sg dV kV doc pm an cdv ct), osl⟩ ∧ PySem.W.codeIn K cdv x = true ∧ Binds K (PySem.W.fnOf x x pg bg sg dV kV doc pm an cdv ct) [a] [] ∧ FnScope Ng [a] sg ∧
    Ng[0]? = some a ∧ Vis sg a ∧ (a == ("__debug__" : Str)) = false ∧ (a == ("__classdict__" : Str)) = false ∧ Ng.length = n ∧ sem = fnGSem n f ∧
    ∀ (act : Act) (pp : XP) (A : Around) (outer : List Env) (s : Shared) (H : Hp) (E : XK), pp.T = T → pp.cn = cn → pp.pin = [0] → Room k (A.deeper (envOfC x sg s.heap.objs.size g cdv)) → NoG (A.deeper (envOfC x sg s.heap.objs.size g cdv)) →
      (∀ (W : WX) (pn : List (Addr × Obj)) (xe : Value → Shared → Prop) (p1 p2 : Pos), Takes ((cxOf (L2.CX P w) P w K mg base Ng x sg g cdv A outer s H E).tr pn xe) W → PE ((cxOf (L2.CX P w) P w K mg base Ng x sg g cdv A outer s H E).tr pn xe) (.Call (.Name a p1) [] [] p2) (rdXE pp W (fun _ S => act S))) →
      PSs (cxOf (L2.CX P w) P w K mg base Ng x sg g cdv A outer s H E) bg (rdXS pp (wE E) (f act))
def xLam (sem : Act → Act) (fb : XV) : XV := fun ρ S => sem (fun S' => fb ρ S') S
section
variable {X : Cx} {p : XP} {W : WX}
theorem pxv_lam {x : Str} {c P : Addr} {k : Nat} {sem : Act → Act} {params : Arguments} {body : Expr} {scope : Scope} {fb : XV} {p1 lpos pos : Pos} (G : DefG p.T p.cn X.prog X.w X.K X.mg X.base (k + 1) x sem) (hj : p.J0) (hg : Gl X x) (tk : Takes X W) (hng : NoG X.A)
    (TB : LamX.TabB X.base X.mg c P) (hcode : X.env.code = .ref c) (hmT : (P, X.env.qual ++ "<lambda>") ∈ p.T) (hu : ∀ q ∈ p.T, q.1 = P → q.2 = X.env.qual ++ "<lambda>") (hr : Room (k + 2) X.A) (L : LamX.LamS X.env.scope scope) (hdef : defaultsOf params X.env = ([], []))
    (hbind : ∀ (q : Str) (cl : List (Str × Addr)) (pm cv ctv : Value), bindArgs (PySem.W.kla_fn "<lambda>" q params body scope cl pm cv ctv) ⟨[], []⟩ = pure [])
    (hbody : ∀ (A : Around) (outer : List Env) (s : Shared) (H : Hp) (E : XK) (f c' : Addr), Room k (A.deeper (LamX.lamEnv X scope s.heap.objs.size f c')) → NoG (A.deeper (LamX.lamEnv X scope s.heap.objs.size f c')) → PE (LamX.lamCx X A outer s H E scope f c') body (rdXE p (wE E) fb))
    (hdb : (x == ("__debug__" : Str)) = false) : PE X (.Call (.Name x p1) [.Lambda params body scope lpos] [] pos) (rdXE p W (xLam sem fb)) := by
  obtain ⟨g, Ng, a, n, f, pg, bg, sg, dV, kV, doc, pm, cdv, ct, oc, an, od, osl, hm, hk, lk, hcg, hb, Sg, hNg, hva, hd, hcd, hn, rfl, hbg⟩ := G.ex
  refine ⟨fun pins s σ H Q I ⟨m, S, ρ, st, q⟩ => ?_⟩
  refine wpAny_Call_Name_kw (ld_glob I hg hm ?_ hdb)
  refine PySem.W.callWith_K (h₀ := X.base) I.ok.mod.kin hk ?_ (by rfl) (by rfl)
  show wpAny _ _ (spliced ((false, eval (.Lambda params body scope lpos) X.env) :: backTo pos (starEach [] X.env))) _ _ s
  refine Calls.spliced_cons (LamX.lam_make2 I TB hcode hmT hu st.tab hdef (L.has I.ok) fun f1 c' pm' ctv H1 s' I1 eN T1 hf hfn hfr hco => Calls.spliced_nil ⟨I1.kIn, ?_⟩)
  have X0 : ExtX m m S S H H1 := extX_of st.rel eN
  have st1 : Stt p m S H1 ρ σ := st.ext X0 T1
  have ste : Stt p m S.enter H1 ρ σ := ⟨st1.rel.enter, T1, st1.env, p.hJ0 hj _ _ _ _⟩
  have q1 : XPE p (wE (WE W σ)) m S H1 [] Q (fnGSem n f (fun S' => fb ρ S') S) := by
    have q0 := XPost.ext X0 q
    unfold xLam at q0
    cases e : fnGSem n f (fun S' => fb ρ S') S with
    | bad => rw [e] at q0; exact q0
    | ok _ _ => rw [e] at q0; exact q0
    | ex _ _ _ => rw [e] at q0; exact q0
  have rc : codeAny (model X.prog X.w) X.A (.call (.ref g) ⟨[.ref f1], []⟩) (CR (L2.CX X.prog X.w) X.stack X.prog X.w H1 s' Q (WE W σ)) s' := by
    refine LamX.run_ofS (N := Ng) (ps := [a]) (us := [.ref f1]) (vs := [.ref f1]) lk hcg Sg (k := k + 1) hr I1.env0 (hb s' [.ref f1] I1.kIn rfl) (.cons rfl .nil) rfl fun hr' => ?_
    have hn' := nog_deeper hng (envOfC x sg s'.heap.objs.size g cdv)
    refine ⟨_, hbg (fun S' => fb ρ S') (pLam p f1 m S.enter H1) X.A X.stack s' H1 (WE W σ) rfl rfl rfl hr' hn' fun W2 pn xe p1 p2 tk2 =>
      pxv_act I1 L hf hfn hfr (hbind _ _ _ _ _) tk2 hr' hn' (fun A outer s H E r1 r2 => hbody A outer s H E f1 c' r1 r2) ste hco hNg hva hd hcd, m, S.enter, List.replicate n none, ⟨st1.rel.enter, T1, ⟨?_, fun i d e => ?_⟩, ?_, ExtX.refl st1.rel.enter⟩, ?_⟩
    · simp only [List.length_replicate, L2.start, List.length_append, List.length_map, List.length_cons, List.length_nil, hn]
      have : 0 < n := by rw [← hn]; exact (List.getElem?_eq_some_iff.mp hNg).1
      omega
    · rw [List.getElem?_replicate] at e
      split at e <;> cases e
    · rfl
    · exact tail_post (p := p) (pg := pLam p f1 m S.enter H1) rfl rfl st1.rel q1
  refine wpAny_call (codeAny_mono rc fun r s2 hq => ?_)
  cases r with
  | error e => exact passAt tk σ pins _ _ e s2 I1 hq
  | ok fl =>
    cases fl with
    | ret u => exact I1.after hq
    | next => exact (show False from hq).elim
    | brk => exact (show False from hq).elim
    | cont => exact (show False from hq).elim
end
end Sw

/-! B7: the syntax of what may raise, its evaluator, the translation. -/
namespace Sw
open PySem PySem.Spec PyProof.Rows L2
mutual
inductive XX where
  | o (e : E)
  | call (f : Nat) (es : XXs)
  | callo (f : Nat) (es : XXs)
  | bi (b : Bi) (es : XXs)
  | lam (g : Nat) (e : XX)
  | act
  | bin (o : Bo) (a b : XX)
  | cmp (o : Co) (a b : XX)
  | not (a : XX)
  | and (a b : XX)
  | or (a b : XX)
  | ite (c a b : XX)
  | tup (es : XXs)
  | lst (es : XXs)
  | app (o : XX) (es : XXs)
  | bad
inductive XXs where
  | nil
  | cons (e : XX) (es : XXs)
end
mutual
inductive SE where
  | lit (d : D)
  | var (i : Nat)
  | xf (f : Str)
  | lst (es : SEs)
  | bad
inductive SEs where
  | nil
  | cons (e : SE) (es : SEs)
end
inductive SU where
  | set (i : Nat) (e : SE)
  | app (i : Nat) (e : SE)
  | bad
mutual
inductive XT where
  | o (t : T)
  | expr (e : XX)
  | ret (e : XX)
  | asg (e : XX) (g : G)
  | set (i : Nat) (e : XX)
  | ite (c : XX) (a b : XTs)
  | fo (it : I) (g : G) (b : XTs)
  | tri (c : Str) (i : Nat) (b : XTs) (su : SU)
  | rais (c : Str) (fn : List Str) (es : Es)
  | bad
inductive XTs where
  | nil
  | cons (s : XT) (ss : XTs)
end
/-- the tables of the evaluator; FL, FXL: those for the bodies of lambdas -/
structure XEv where
  F : Nat → Fn
  FX : Nat → FnX
  G : Nat → Act → Act
  FL : Nat → Fn
  FXL : Nat → FnX
  sb : List ((Str × Str) × Bool)
  ek : List (Str × List Str)
def badFnX : FnX := fun _ _ => .bad
def badG : Nat → Act → Act := fun _ _ _ => .bad
def badAct : Act := fun _ => .bad
def XEv.low (V : XEv) : XEv := ⟨V.FL, V.FXL, badG, fun _ => badFn, fun _ => badFnX, V.sb, V.ek⟩
mutual
def xv : XX → XEv → Act → XV
  | .o e, V, _ => fun ρ S => (ev V.F e ρ S).x
  | .call f es, V, α => xcall (V.FX f) (xvs es V α)
  | .callo f es, V, α => xN (V.F f) (xvs es V α)
  | .bi b es, V, α => xN (biN b) (xvs es V α)
  | .lam g e, V, _ => xLam (V.G g) (xv e V.low badAct)
  | .act, _, α => fun _ S => α S
  | .bin o a b, V, α => xop2 (boD o) (xv a V α) (xv b V α)
  | .cmp o a b, V, α => xop2 (coD o) (xv a V α) (xv b V α)
  | .not a, V, α => xnot (xv a V α)
  | .and a b, V, α => xand (xv a V α) (xv b V α)
  | .or a b, V, α => xor (xv a V α) (xv b V α)
  | .ite c a b, V, α => xif (xv c V α) (xv a V α) (xv b V α)
  | .tup es, V, α => xN tupN (xvs es V α)
  | .lst es, V, α => xN lstN (xvs es V α)
  | .app o es, V, α => xM isLst appM (xv o V α) (xvs es V α)
  | .bad, _, _ => fun _ _ => .bad
def xvs : XXs → XEv → Act → XVA
  | .nil, _, _ => xnil
  | .cons e es, V, α => xcons (xv e V α) (xvs es V α)
end
mutual
def seV (fn : List Str) (fs : List (Str × D)) : SE → XV
  | .lit d => fun ρ S => (evC d ρ S).x
  | .var i => fun ρ S => (evV i ρ S).x
  | .xf f => match fn.contains f with
    | true => xXf fs f
    | false => fun _ _ => .bad
  | .lst es => xN lstN (seVs fn fs es)
  | .bad => fun _ _ => .bad
def seVs (fn : List Str) (fs : List (Str × D)) : SEs → XVA
  | .nil => xnil
  | .cons e es => xcons (seV fn fs e) (seVs fn fs es)
end
def suV (fn : List Str) (fs : List (Str × D)) : SU → XS
  | .set i e => xsSet (seV fn fs e) i
  | .app i e => xsExpr (xM isLst appM (fun ρ S => (evV i ρ S).x) (xcons (seV fn fs e) xnil))
  | .bad => fun _ _ => .bad
def suOf (ek : List (Str × List Str)) (su : SU) (c : Str) (fs : List (Str × D)) : XS := match ek.lookup c with
  | some fn => suV fn fs su
  | none => fun _ _ => .bad
mutual
def xsv : XT → XEv → Act → XS
  | .o t, V, _ => fun ρ S => (sv V.F t ρ S).x
  | .expr e, V, α => xsExpr (xv e V α)
  | .ret e, V, α => xsRet (xv e V α)
  | .asg e g, V, α => xsAsg (xv e V α) (gv g)
  | .set i e, V, α => xsSet (xv e V α) i
  | .ite c a b, V, α => xsIf (xv c V α) (xsvs a V α) (xsvs b V α)
  | .fo it g b, V, α => xsForI (evi V.F it) (gv g) (xsvs b V α)
  | .tri c i b su, V, α => xsTry (fun c1 => V.sb.lookup (c1, c)) i (xsvs b V α) (suOf V.ek su)
  | .rais c fn es, V, _ => xsRaise c fn (evs V.F es)
  | .bad, _, _ => fun _ _ => .bad
def xsvs : XTs → XEv → Act → XS
  | .nil, _, _ => xsNext
  | .cons s ss, V, α => xsSeq (xsv s V α) (xsvs ss V α)
end
/-! ### the translation -/
structure XC where
  c : CC
  xs : List Str
  gs : List Str
  act : Option Str
  pin : List Nat
  sb : List ((Str × Str) × Bool)
  ek : List (Str × List Str)
  cl : List Str
  lam : Bool
def XC.low (C : XC) (scope : Scope) : XC := { C with c := { C.c with sc := scope, fn := fun _ => false }, gs := [], act := none, lam := false }
def isAct (C : XC) (x : Str) : Bool := match C.act with
  | some a => a == x
  | none => false
def hasX : Nat → XC → Expr → Bool
  | 0, _, _ => false
  | n + 1, C, e => match e with
    | .Call (.Name x _) es _ _ => C.xs.contains x || C.gs.contains x || isAct C x || es.any (hasX n C)
    | .Call (.Attribute o _ _) es _ _ => hasX n C o || es.any (hasX n C)
    | .BoolOp _ vs _ => vs.any (hasX n C)
    | .Compare a _ bs _ => hasX n C a || bs.any (hasX n C)
    | .UnaryOp _ a _ => hasX n C a
    | .BinOp a _ b _ => hasX n C a || hasX n C b
    | .IfExp c a b _ => hasX n C c || hasX n C a || hasX n C b
    | .Tuple es _ _ => es.any (hasX n C)
    | .List es _ => es.any (hasX n C)
    | _ => false
def xEs (f : Expr → XX) : List Expr → XXs
  | [] => .nil
  | e :: r => .cons (f e) (xEs f r)
def xBs (f : Expr → XX) (j : XX → XX → XX) : List Expr → XX
  | [] => .bad
  | [a] => f a
  | a :: b :: r => j (f a) (xBs f j (b :: r))
def noPar : Arguments → Bool
  | ⟨[], [], none, [], [], none, []⟩ => true
  | _ => false
def xCall (C : XC) (f : Expr → XX) (x : Str) (es : List Expr) : XX := match isGl C.c x && es.all noStar with
  | true => match C.xs.findIdx? (· == x) with
    | some i => .call i (xEs f es)
    | none => match C.c.fs.findIdx? (· == x) with
      | some i => match es with
        | [] => .bad
        | _ => .callo i (xEs f es)
      | none => match biOf x with
        | some b => match es with
          | [] => .bad
          | _ => .bi b (xEs f es)
        | none => .bad
  | false => .bad
/-- an expression in which something may raise (t: as a test); f: for its parts -/
def cXE (C : XC) (f : XC → Bool → Expr → XX) (t : Bool) (e : Expr) : XX := match e with
  | .Call (.Name x _) [.Lambda params body scope _] [] _ => match C.lam && isGl C.c x && noPar params && LamX.lamSB C.c.sc scope, C.gs.findIdx? (· == x) with
    | true, some g => .lam g (f (C.low scope) false body)
    | _, _ => .bad
  | .Call (.Name x _) [] [] _ => match isAct C x with
    | true => .act
    | false => xCall C (f C false) x []
  | .Call (.Name x _) es [] _ => xCall C (f C false) x es
  | .Call (.Attribute o name apos) es [] cpos => match noSuper o && (apos.endLine == cpos.line) && es.all noStar && decide (es.length < 20) && (name == ("append" : Str)) && !es.isEmpty with
    | true => .app (f C false o) (xEs (f C false) es)
    | false => .bad
  | .BinOp a o b _ => match cBo o with
    | some o => .bin o (f C false a) (f C false b)
    | none => .bad
  | .UnaryOp .Not a _ => .not (f C t a)
  | .BoolOp .And vs _ => xBs (f C t) .and vs
  | .BoolOp .Or vs _ => xBs (f C t) .or vs
  | .IfExp c a b _ => match t with
    | true => .bad
    | false => .ite (f C true c) (f C false a) (f C false b)
  | .Compare a [o] [b] _ => match noSet b with
    | true => .cmp (cCo o) (f C false a) (f C false b)
    | false => .bad
  | .Tuple es _ _ => match es.all noStar with
    | true => .tup (xEs (f C false) es)
    | false => .bad
  | .List es _ => match es.all noStar with
    | true => .lst (xEs (f C false) es)
    | false => .bad
  | _ => .bad
def cXX : Nat → XC → Bool → Expr → XX
  | 0, _, _, _ => .bad
  | n + 1, C, t, e => match hasX n C e with
    | false => .o (cX n C.c t e)
    | true => cXE C (fun C t e => cXX n C t e) t e
def sEs (f : Expr → SE) : List Expr → SEs
  | [] => .nil
  | a :: r => .cons (f a) (sEs f r)
def seName (C : XC) (y : Str) : SE := match isDbg y, C.c.sc.names.lookup y, C.c.N.findIdx? (· == y) with
  | false, some .local, some i => .var i
  | _, _, _ => .bad
/-- in a suite whose exception is called e -/
def cSE : Nat → XC → Str → Expr → SE
  | 0, _, _, _ => .bad
  | n + 1, C, e, x => match x with
    | .Constant .none _ _ => .lit .non
    | .Constant (.bool b) _ _ => .lit (.bl b)
    | .Constant (.int i) _ _ => .lit (.int i)
    | .Constant (.str s) _ _ => .lit (.str s)
    | .Name y _ => seName C y
    | .Attribute (.Name y _) f _ => match y == e with
      | true => .xf f
      | false => .bad
    | .List es _ => match es.all noStar with
      | true => .lst (sEs (cSE n C e) es)
      | false => .bad
    | _ => .bad
/-- a suite of one statement; i: the slot of e -/
def cSU (n : Nat) (C : XC) (e : Str) (i : Nat) : Stmt → SU
  | .Assign [.Name x _] v _ => match noComp v, C.c.sc.names.lookup x, C.c.N.findIdx? (· == x) with
    | true, some .local, some j => match (i :: C.pin).contains j with
      | false => .set j (cSE n C e v)
      | true => .bad
    | _, _, _ => .bad
  | .Expr (.Call (.Attribute (.Name x _) name apos) [v] [] cpos) _ => match isDbg x, C.c.sc.names.lookup x, C.c.N.findIdx? (· == x) with
    | false, some .local, some j => match (apos.endLine == cpos.line) && noStar v && (name == ("append" : Str)) with
      | true => .app j (cSE n C e v)
      | false => .bad
    | _, _, _ => .bad
  | _ => .bad
def offPin (C : XC) (g : G) : Bool := g.slots.all fun i => !C.pin.contains i
/-- by the elder evaluator -/
def cOld (C : XC) (n : Nat) (st : Stmt) : XT := match C.pin with
  | [] => .o (cT n C.c st)
  | _ => .bad
/-- the slot of a name that is stored to -/
def ownSlot (C : XC) (x : Str) : Option Nat := match C.c.sc.names.lookup x, C.c.fn x, C.c.N.findIdx? (· == x) with
  | some .local, _, some i => match C.pin.contains i with
    | false => some i
    | true => none
  | some .cell, true, some i => match C.pin.contains i with
    | false => some i
    | true => none
  | _, _, _ => none
def xAsg (n : Nat) (C : XC) (tg v : Expr) (old : XT) : XT := match C.pin.isEmpty && !hasX n C v with
  | true => old
  | false => match tg with
    | .Name x _ => match noComp v, ownSlot C x with
      | true, some i => .set i (cXX n C false v)
      | _, _ => .bad
    | .Tuple ts k p => match v with
      | .Tuple vs k2 p2 => match swp C.c ts vs with
        | some none => match ts.all noStar && offPin C (.tup ts.length (cGs C.c n ts)) with
          | true => .asg (cXX n C false (.Tuple vs k2 p2)) (.tup ts.length (cGs C.c n ts))
          | false => .bad
        | _ => .bad
      | _ => match ts.all noStar && noComp v && offPin C (.tup ts.length (cGs C.c n ts)) with
        | true => .asg (cXX n C false v) (.tup ts.length (cGs C.c n ts))
        | false => .bad
    | _ => .bad
mutual
def cXT : Nat → XC → Stmt → XT
  | 0, _, _ => .bad
  | n + 1, C, st => match st with
    | .Expr e _ => match noComp e with
      | true => .expr (cXX n C false e)
      | false => .bad
    | .Return (some e) _ => .ret (cXX n C false e)
    | .Assign [tg] v pos => xAsg n C tg v (cOld C (n + 1) (.Assign [tg] v pos))
    | .If c a b _ => .ite (cXX n C true c) (cXTs n C a) (cXTs n C b)
    | .For tg iter b [] _ => match noSet iter && offPin C (cG C.c n tg) with
      | true => .fo (cI C.c (cX n C.c false) tg iter) (cG C.c n tg) (cXTs n C b)
      | false => .bad
    | .Raise (some (.Call (.Name x _) es [] _)) none _ => match isGl C.c x && es.all noStar, C.ek.lookup x with
      | true, some fn => .rais x fn (cEs (cX n C.c false) es)
      | _, _ => .bad
    | .Try body [.ExceptHandler (some (.Name x _)) (some nm) [su] _] [] [] _ => match isGl C.c x && C.cl.contains x && !isDbg nm, C.c.sc.names.lookup nm, C.c.N.findIdx? (· == nm) with
      | true, some .local, some i => match C.pin.contains i with
        | false => .tri x i (cXTs n C body) (cSU n C nm i su)
        | true => .bad
      | _, _, _ => .bad
    | st => cOld C (n + 1) st
def cXTs : Nat → XC → List Stmt → XTs
  | 0, _, _ => .cons .bad .nil
  | n + 1, C, ss => match ss with
    | [] => .nil
    | s :: r => .cons (cXT n C s) (cXTs n C r)
end
end Sw

/-! B8: the translation of what may raise is right. -/
namespace Sw
open PySem PySem.Spec PyProof.Rows L2
section
variable {X : Cx}
theorem PA.nox {es : List Expr} {t : TA} (h : PA X.nox es t) : PA X es t := ⟨fun pos pins s σ H Q I hw =>
  wpAny_mono (h.run pos pins s σ H Q (I.wish _) hw) (fun _ _ ⟨v, H', I', r, q⟩ => ⟨v, H', I'.unwish, r, q⟩) fun _ _ z => (show False from z).elim⟩
theorem PG.nox {e : Expr} {t : TG} (h : PG X.nox e t) : PG X e t := ⟨fun pins s σ H v u Q I r hw =>
  wpAny_mono (h.run pins s σ H v u Q (I.wish _) r hw) (fun _ _ ⟨σ', H', I', q⟩ => ⟨σ', H', I'.unwish, q⟩) fun _ _ z => (show False from z).elim⟩
theorem PI.nox {tg e : Expr} {t : TI} (h : PI X.nox tg e t) : PI X tg e t := ⟨fun pins s σ H R I hw =>
  wpAny_mono (h.run pins s σ H R (I.wish _) hw) (fun _ _ q => wpAny_mono q (fun _ _ ⟨it, fp, tn, J, H', e, I', T, t0, f, r⟩ => ⟨it, fp, tn, J, H', e, I'.unwish, T, t0, f, r⟩) fun _ _ z => (show False from z).elim) fun _ _ z => (show False from z).elim⟩
end
theorem DefX.cast {p p' : XP} {P : Program} {w : World} {K : Frg} {mg : Str → Option Value} {base : Heap} {k : Nat} {x : Str} {ar : Nat} {fn : FnX} (hT : p'.T = p.T) (hc : p'.cn = p.cn) (F : DefX p P w K mg base k x ar fn) : DefX p' P w K mg base k x ar fn := by
  obtain ⟨⟨f, fd, ps, F1, hm, hk, hb⟩, hl⟩ := F
  have key : ∀ {E : XK} {m : Nat → Addr} {S : Sto} {H : Hp} {Q : VK} {r : RX D}, XPE p' (wE E) m S H [] Q r → XPE p (wE E) m S H [] Q r := fun {E m S H Q r} q => by
    cases r with
    | bad => exact q
    | ok d S' => exact fun m' H' v X t r => q m' H' v X (hT ▸ t) r
    | ex c fs S' =>
      intro m' H' dd X t r
      have q1 : E (p'.cn c) dd H' := q m' H' dd X (hT ▸ t) r
      rw [hc] at q1
      exact q1
  have sp : ∀ vs H Q E, spX p' ar fn vs H Q E → spX p ar fn vs H Q E := fun vs H Q E ⟨h1, m, S, ds, R, t, r, q⟩ => ⟨h1, m, S, ds, R, hT ▸ t, r, key q⟩
  exact ⟨⟨f, fd, ps, ⟨fun vs H Q E q => F1.len vs H Q E (sp _ _ _ _ q), fun A outer s H args us vs Q E hr hg e0 hb2 r q => F1.run A outer s H args us vs Q E hr hg e0 hb2 r (sp _ _ _ _ q)⟩, hm, hk, hb⟩, hl⟩
theorem takes_cx {P : Program} {w : World} {K : Frg} {mg : Str → Option Value} {base : Heap} {N : List Str} {q : Str} {scope : Scope} {f : Addr} {cdv : Value} {A : Around} {outer : List Env} {s : Shared} {H : Hp} {E : XK} : Takes (cxOf (L2.CX P w) P w K mg base N q scope f cdv A outer s H E) (wE E) :=
  takes_of rfl rfl rfl rfl
theorem takes_lam {X : Cx} {A : Around} {outer : List Env} {s : Shared} {H : Hp} {E : XK} {scope : Scope} {f c' : Addr} : Takes (LamX.lamCx X A outer s H E scope f c') (wE E) := takes_of rfl rfl rfl rfl
/-- what holds of lambdas in a context -/
structure LamOk (C : XC) (X : Cx) (V : XEv) (p : XP) (k : Nat) : Prop where
  j0 : p.J0
  tb : ∃ c P, LamX.TabB X.base X.mg c P ∧ X.env.code = .ref c ∧ (P, X.env.qual ++ "<lambda>") ∈ p.T ∧ ∀ q ∈ p.T, q.1 = P → q.2 = X.env.qual ++ "<lambda>"
  gs : ∀ i x, C.gs[i]? = some x → DefG p.T p.cn X.prog X.w X.K X.mg X.base (k + 1) x (V.G i)
  fl : ∀ i x, C.c.fs[i]? = some x → ∃ ar, Def X.prog X.w X.K X.mg X.base k x ar (V.FL i)
  xl : ∀ i x, C.xs[i]? = some x → ∃ ar, DefX p X.prog X.w X.K X.mg X.base k x ar (V.FXL i)
structure GoodX (C : XC) (X : Cx) (V : XEv) (p : XP) (W : WX) (α : Act) (k : Nat) : Prop where
  old : Good C.c X.nox V.F k
  tk : Takes X W
  po : PassesOwn (model X.prog X.w) X.A X.env X.xe
  stk : X.stack = X.env :: X.outer
  frm : X.env.frame = some X.env.locals
  xd : ∀ i x, C.xs[i]? = some x → ∃ ar, DefX p X.prog X.w X.K X.mg X.base k x ar (V.FX i)
  pin : p.pin = C.pin
  j0 : C.pin = [] → p.J0
  act : ∀ a, C.act = some a → ∀ (W : WX) (pn : List (Addr × Obj)) (xe : Value → Shared → Prop) (p1 p2 : Pos), Takes (X.tr pn xe) W → PE (X.tr pn xe) (.Call (.Name a p1) [] [] p2) (rdXE p W (fun _ S => α S))
  lam : C.lam = true → (∀ g a, V.G g a = fun _ => .bad) ∨ ∃ k', k = k' + 2 ∧ LamOk C X V p k'
  sb : ∀ c1 c b, V.sb.lookup (c1, c) = some b → PySem.W.exmOne X.K (p.cn c1) (p.cn c) = some b
  ek : ∀ c fn, V.ek.lookup c = some fn → ∃ Ca, p.cn c = .ref Ca ∧ ExK X.prog X.K Ca fn ∧ XfC X.K Ca ∧ X.mg c = some (.ref Ca) ∧ fn.length ≤ 800 ∧ (c == ("__debug__" : Str)) = false
  eC : C.ek = V.ek
  cl : ∀ c, c ∈ C.cl → X.mg c = some (p.cn c) ∧ (c == ("__debug__" : Str)) = false
section
variable {C : XC} {X : Cx} {V : XEv} {p : XP} {W : WX} {α : Act} {k : Nat} {e : Expr} {es : List Expr} {pos : Pos} {x : Str}
theorem GoodX.tr (G : GoodX C X V p W α k) {W2 : WX} {pn : List (Addr × Obj)} {xe : Value → Shared → Prop} (tk : Takes (X.tr pn xe) W2) (po : PassesOwn (model X.prog X.w) X.A X.env xe) : GoodX C (X.tr pn xe) V p W2 α k where
  old := { N := G.old.N, nd := G.old.nd, sc := G.old.sc, kind := G.old.kind, fn := G.old.fn, calm := G.old.calm, xe := rfl, room := G.old.room, nog := G.old.nog, defs := G.old.defs, con := G.old.con, blt := G.old.blt, pl := G.old.pl }
  tk := tk
  po := po
  stk := G.stk
  frm := G.frm
  xd := G.xd
  pin := G.pin
  j0 := G.j0
  act := fun a h W pn2 xe2 p1 p2 t => G.act a h W pn2 xe2 p1 p2 t
  lam := fun h => (G.lam h).imp id fun ⟨k', e, L⟩ => ⟨k', e, ⟨L.j0, L.tb, L.gs, L.fl, L.xl⟩⟩
  sb := G.sb
  ek := G.ek
  eC := G.eC
  cl := G.cl
theorem xEs_ok {f : Expr → XX} (hf : ∀ e, PE X e (rdXE p W (xv (f e) V α))) : ∀ es : List Expr, es.all noStar = true → PA X es (rdXA p W (xvs (xEs f es) V α))
  | [], _ => by simp only [xEs, xvs]; exact pxa_nil
  | e :: es, h => by
    simp only [List.all_cons, Bool.and_eq_true] at h
    simp only [xEs, xvs]
    exact pxa_cons (hf e) (xEs_ok hf es h.2) (star_cons h.1)
theorem xBs_and {f : Expr → XX} (hf : ∀ e, PE X e (rdXE p W (xv (f e) V α))) : ∀ vs : List Expr, PE X (.BoolOp .And vs pos) (rdXE p W (xv (xBs f .and vs) V α))
  | [] => by simp only [xBs, xv]; exact pxv_bad
  | [a] => by simp only [xBs]; exact pxv_one (hf a)
  | a :: b :: r => by
    have ih := xBs_and hf (b :: r)
    simp only [xBs, xv]
    exact pxv_and (hf a) ih
theorem xBs_or {f : Expr → XX} (hf : ∀ e, PE X e (rdXE p W (xv (f e) V α))) : ∀ vs : List Expr, PE X (.BoolOp .Or vs pos) (rdXE p W (xv (xBs f .or vs) V α))
  | [] => by simp only [xBs, xv]; exact pxv_bad
  | [a] => by simp only [xBs]; exact pxv_one (hf a)
  | a :: b :: r => by
    have ih := xBs_or hf (b :: r)
    simp only [xBs, xv]
    exact pxv_or (hf a) ih
theorem pxw_bad : PW X e (rdXT p W fun _ _ => .bad) := ⟨fun _ _ _ _ _ _ _ h => by obtain ⟨_, _, _, _, q⟩ := h; exact q.elim⟩
theorem xBs_andT {f : Expr → XX} (hf : ∀ e, PT X e (rdXT p W (xv (f e) V α))) : ∀ vs : List Expr, PW X (.BoolOp .And vs pos) (rdXT p W (xv (xBs f .and vs) V α))
  | [] => by simp only [xBs, xv]; exact pxw_bad
  | [a] => by simp only [xBs]; exact pxw_and1 (hf a)
  | a :: b :: r => by
    have ih := xBs_andT hf (b :: r)
    simp only [xBs, xv]
    exact pxw_and (hf a) ih
theorem xBs_orT {f : Expr → XX} (hf : ∀ e, PT X e (rdXT p W (xv (f e) V α))) : ∀ vs : List Expr, PW X (.BoolOp .Or vs pos) (rdXT p W (xv (xBs f .or vs) V α))
  | [] => by simp only [xBs, xv]; exact pxw_bad
  | [a] => by simp only [xBs]; exact pxw_or1 (hf a)
  | a :: b :: r => by
    have ih := xBs_orT hf (b :: r)
    simp only [xBs, xv]
    exact pxw_or (hf a) ih
theorem pxv_callTy {T : String} {x : Str} {p1 : Pos} {gg : List D → Sto → Res D} {g : XVA} (hc : CallR X (.type T) (rdN gg)) (hg : Gl X x) (hm : X.mg x = none) (hv : bootBuiltins x = some (.type T)) (ha : PA X (e :: es) (rdXA p W g)) (hn : x ≠ "__name__") (hdb : (x == ("__debug__" : Str)) = false)
    (he : starEach (e :: es) X.env = (false, eval e X.env) :: starEach es X.env) (hpl : (backTo pos (starEach es X.env)).any (·.1) = false) : PE X (.Call (.Name x p1) (e :: es) [] pos) (rdXE p W (xN gg g)) := PE.of (pe_callTy hc hg hm hv ha hn hdb he hpl) fun _ _ _ h => rdX_N h
theorem coX_ok (G : GoodX C X V p W α k) (o : CmpOp) : OpR X (compareOp o) (rd2 (coD (cCo o))) := by
  have hu : X.A.units + 64 < cLine := G.old.hu
  cases o <;> simp only [cCo, coD]
  · exact opv_eq hu
  · exact opv_ne hu
  · exact opv_ord op_lt (fun a b c d e f => PySem.W.lt_data a b c d e f) hu
  · exact opv_ord op_le (fun a b c d e f => PySem.W.le_data a b c d e f) hu
  · exact opv_ord op_gt (fun a b c d e f => PySem.W.gt_data a b c d e f) hu
  · exact opv_ord op_ge (fun a b c d e f => PySem.W.ge_data a b c d e f) hu
  · exact opv_is
  · exact opv_isNot
  · exact opv_in hu
  · exact opv_notIn hu
/-- built-in calls on what may raise -/
theorem xbi_ok (G : GoodX C X V p W α k) {b : Bi} {g : XVA} {p1 : Pos} (h : biOf x = some b) (hg : Gl X x) (hd : isDbg x = false) (ha : PA X (e :: es) (rdXA p W g)) (hs : (e :: es).all noStar = true) : PE X (.Call (.Name x p1) (e :: es) [] pos) (rdXE p W (xN (biN b) g)) := by
  have hs' : noStar e = true ∧ es.all noStar = true := by simpa using hs
  have s1 : starEach (e :: es) X.env = (false, eval e X.env) :: starEach es X.env := star_cons hs'.1
  have s2 : (backTo pos (starEach es X.env)).any (·.1) = false := star_plain hs'.2
  have bl : ∀ y ∈ bltNames, X.mg y = none := G.old.blt
  have calm : X.calm = true := G.old.calm
  unfold biOf at h
  split at h
  · rename_i b' hb
    cases h
    unfold biOf1 at hb
    split at hb
    · rename_i hx; cases hb; have hx := eq_of_beq hx; subst hx
      exact pxv_callB crv_len hg (bl _ (by simp [bltNames])) boot_len ha (dbg3 hd) (dbg1 hd) s1 s2
    · split at hb
      · rename_i hx; cases hb; have hx := eq_of_beq hx; subst hx
        exact pxv_callTy crv_int hg (bl _ (by simp [bltNames])) PyProof.Rows.boot_int ha (dbg3 hd) (dbg1 hd) s1 s2
      · split at hb
        · rename_i hx; cases hb; have hx := eq_of_beq hx; subst hx
          exact pxv_callB (crv_min2 calm) hg (bl _ (by simp [bltNames])) boot_min ha (dbg3 hd) (dbg1 hd) s1 s2
        · split at hb
          · rename_i hx; cases hb; have hx := eq_of_beq hx; subst hx
            exact pxv_callB (crv_max calm) hg (bl _ (by simp [bltNames])) boot_max ha (dbg3 hd) (dbg1 hd) s1 s2
          · split at hb
            · rename_i hx; cases hb; have hx := eq_of_beq hx; subst hx
              exact pxv_callB (crv_all calm) hg (bl _ (by simp [bltNames])) (by decide +kernel) ha (dbg3 hd) (dbg1 hd) s1 s2
            · split at hb
              · rename_i hx; cases hb; have hx := eq_of_beq hx; subst hx
                exact pxv_callB (crv_any calm) hg (bl _ (by simp [bltNames])) (by decide +kernel) ha (dbg3 hd) (dbg1 hd) s1 s2
              · split at hb
                · rename_i hx; cases hb; have hx := eq_of_beq hx; subst hx
                  exact pxv_callB (crv_sum calm) hg (bl _ (by simp [bltNames])) boot_sum ha (dbg3 hd) (dbg1 hd) s1 s2
                · split at hb
                  · rename_i hx; cases hb; have hx := eq_of_beq hx; subst hx
                    exact pxv_callTy crv_tuple hg (bl _ (by simp [bltNames])) PyProof.Rows.boot_tuple ha (dbg3 hd) (dbg1 hd) s1 s2
                  · split at hb
                    · rename_i hx; cases hb; have hx := eq_of_beq hx; subst hx
                      exact pxv_callTy crv_list hg (bl _ (by simp [bltNames])) PyProof.Rows.boot_list ha (dbg3 hd) (dbg1 hd) s1 s2
                    · split at hb
                      · rename_i hx; cases hb; have hx := eq_of_beq hx; subst hx
                        exact pxv_callB (crv_sorted G.old.hu) hg (bl _ (by simp [bltNames])) (by decide +kernel) ha (dbg3 hd) (dbg1 hd) s1 s2
                      · split at hb
                        · rename_i hx; cases hb; have hx := eq_of_beq hx; subst hx
                          exact pxv_callB (crv_repr G.old.nog G.old.hu) hg (bl _ (by simp [bltNames])) (by decide +kernel) ha (dbg3 hd) (dbg1 hd) s1 s2
                        · cases hb
  · unfold biOf2 at h
    split at h
    · rename_i hx; cases h; have hx := eq_of_beq hx; subst hx
      exact pxv_callTy (crv_dict calm) hg (bl _ (by simp [bltNames])) PyProof.Rows.boot_dict ha (dbg3 hd) (dbg1 hd) s1 s2
    · cases h
theorem isGl_X (G : GoodX C X V p W α k) (h : isGl C.c x = true) : Gl X x ∧ isDbg x = false := ⟨(isGl_ok G.old h).1, (isGl_ok G.old h).2⟩
theorem xCall_ok (G : GoodX C X V p W α k) {f : Expr → XX} (hf : ∀ e, PE X e (rdXE p W (xv (f e) V α))) {p1 : Pos} : PE X (.Call (.Name x p1) es [] pos) (rdXE p W (xv (xCall C f x es) V α)) := by
  unfold xCall
  split
  · rename_i hh
    obtain ⟨h1, h2⟩ := Bool.and_eq_true_iff.mp hh
    obtain ⟨hg, hd⟩ := isGl_X G h1
    have ha := xEs_ok (p := p) (W := W) (V := V) (α := α) hf es h2
    split
    · rename_i i hi
      obtain ⟨ar, D⟩ := G.xd i x (find_at hi)
      simp only [xv]
      cases es with
      | nil => simp only [xEs, xvs]; exact pxv_call0 D G.old.room G.old.nog hg G.tk (dbg1 hd)
      | cons e es =>
        have hs' : noStar e = true ∧ es.all noStar = true := by simpa using h2
        exact pxv_call D G.old.room G.old.nog hg G.tk ha (dbg1 hd) (star_cons hs'.1) (star_plain hs'.2)
    · split
      · rename_i i hi
        obtain ⟨ar, D⟩ := G.old.defs i x (find_at hi)
        cases es with
        | nil => simp only [xv]; exact pxv_bad
        | cons e es =>
          have hs' : noStar e = true ∧ es.all noStar = true := by simpa using h2
          simp only [xv]
          exact pxv_callO D G.old.room G.old.nog hg ha (dbg1 hd) (star_cons hs'.1) (star_plain hs'.2)
      · split
        · rename_i b hb
          cases es with
          | nil => simp only [xv]; exact pxv_bad
          | cons e es => simp only [xv]; exact xbi_ok G hb hg hd ha h2
        · simp only [xv]; exact pxv_bad
  · simp only [xv]; exact pxv_bad
theorem noPar_eq {a : Arguments} (h : noPar a = true) : a = ⟨[], [], none, [], [], none, []⟩ := by
  unfold noPar at h
  split at h
  · rfl
  · cases h
theorem GoodX.lamB (G : GoodX C X V p W α k) {k' : Nat} (L : LamOk C X V p k') {scope : Scope} (S : LamX.LamS X.env.scope scope) (A : Around) (outer : List Env) (s : Shared) (H : Hp) (E : XK) (f c' : Addr)
    (r1 : Room k' (A.deeper (LamX.lamEnv X scope s.heap.objs.size f c'))) (r2 : NoG (A.deeper (LamX.lamEnv X scope s.heap.objs.size f c'))) : GoodX (C.low scope) (LamX.lamCx X A outer s H E scope f c') V.low p (wE E) badAct k' where
  old := { N := G.old.N, nd := G.old.nd, sc := rfl, kind := S.kind, fn := fun _ => rfl, calm := rfl, xe := rfl, room := r1, nog := r2, defs := L.fl, con := G.old.con, blt := G.old.blt, pl := G.old.pl }
  tk := takes_lam
  po := PassesOwn.leaving
  stk := rfl
  frm := rfl
  xd := L.xl
  pin := G.pin
  j0 := G.j0
  act := fun a h => nomatch h
  lam := fun h => nomatch h
  sb := G.sb
  ek := G.ek
  eC := G.eC
  cl := G.cl
theorem tyV_lstX {K : Frg} : ∀ (m : Nat → Addr) (S : Sto) (H : Hp) (n : Nat) (ob : O), Rel m S H → S.objs[n]? = some ob → isLst ob = true → tyV K "list" (.ref (m n)) H := tyV_lst
theorem pxv_append {o : Expr} {apos cpos : Pos} {fo : XV} {g : XVA} (ho : PE X o (rdXE p W fo)) (ha : PA X (e :: es) (rdXA p W g)) (h1 : noSuper o = true) (h2 : (apos.endLine == cpos.line) = true) (h3 : (e :: es).all noStar = true) (h4 : (e :: es).length < 20) :
    PE X (.Call (.Attribute o "append" apos) (e :: es) [] cpos) (rdXE p W (xM isLst appM fo g)) := by
  have hs' : noStar e = true ∧ es.all noStar = true := by simpa using h3
  exact PE.of (pe_bm PySem.F.plainAttrs_list PySem.F.slot_list_append PySem.F.type_list_append mtv_app ho ha (base_of h1) (few_ok h3 h4) h2 (star_cons hs'.1) (star_plain hs'.2)) fun _ _ _ h => rdX_M tyV_lst h
end
section
variable {p : XP}
theorem cXX_ok : ∀ (n : Nat) (C : XC) (X : Cx) (V : XEv) (W : WX) (α : Act) (k : Nat), GoodX C X V p W α k → (∀ e, PE X e (rdXE p W (xv (cXX n C false e) V α))) ∧ ∀ e, PT X e (rdXT p W (xv (cXX n C true e) V α))
  | 0, C, X, V, W, α, k, G => ⟨fun e => by simp only [cXX, xv]; exact pxv_bad, fun e => by simp only [cXX, xv]; exact pxt_bad⟩
  | n + 1, C, X, V, W, α, k, G => by
    obtain ⟨ihE, ihT⟩ := cXX_ok n C X V W α k G
    obtain ⟨oE, oT⟩ := cX_ok (F := V.F) n C.c X.nox G.old
    have pe : ∀ e, PE X e (rdXE p W (xv (cXE C (fun C t e => cXX n C t e) false e) V α)) := fun e => by
      unfold cXE
      split
      · rename_i x p1 params body scope lpos pos
        split
        · rename_i g hh hi
          simp only [Bool.and_eq_true] at hh
          obtain ⟨⟨⟨h1, h2⟩, h3⟩, h4⟩ := hh
          obtain ⟨hg, hd⟩ := isGl_X G h2
          have hn := noPar_eq h3
          subst hn
          simp only [xv]
          rcases G.lam h1 with hb | ⟨k', hk, L⟩
          · have e0 : xLam (V.G g) (xv (cXX n (C.low scope) false body) V.low badAct) = fun _ _ => .bad := by
              funext ρ S
              unfold xLam
              rw [hb]
            rw [e0]
            exact pxv_bad
          · subst hk
            obtain ⟨c, P, t1, t2, t3, t4⟩ := L.tb
            have S : LamX.LamS X.env.scope scope := LamX.lamS_by (by rw [show X.env.scope = C.c.sc from G.old.sc]; exact h4)
            exact pxv_lam (L.gs g x (find_at hi)) L.j0 hg G.tk G.old.nog t1 t2 t3 t4 G.old.room S rfl (fun _ _ _ _ _ => rfl) (fun A outer s H E f c' r1 r2 => (cXX_ok n (C.low scope) _ V.low (wE E) badAct k' (G.lamB L S A outer s H E f c' r1 r2)).1 body) (dbg1 hd)
        · simp only [xv]; exact pxv_bad
      · rename_i x p1 pos
        split
        · rename_i ha
          unfold isAct at ha
          split at ha
          · rename_i a hac
            have ha := eq_of_beq ha
            subst ha
            simp only [xv]
            exact G.act _ hac W X.pn X.xe p1 pos G.tk
          · cases ha
        · exact xCall_ok G ihE
      · exact xCall_ok G ihE
      · rename_i o name apos es cpos
        split
        · rename_i hh
          simp only [Bool.and_eq_true, decide_eq_true_eq] at hh
          obtain ⟨⟨⟨⟨⟨h1, h2⟩, h3⟩, h4⟩, h5⟩, h6⟩ := hh
          have h5 := eq_of_beq h5
          subst h5
          cases es with
          | nil => cases h6
          | cons e es =>
            simp only [xv]
            exact pxv_append (ihE o) (xEs_ok ihE _ h3) h1 h2 h3 h4
        · simp only [xv]; exact pxv_bad
      · split
        · rename_i o ho; simp only [xv]; exact pxv_bin (bo_ok ho) (ihE _) (ihE _)
        · simp only [xv]; exact pxv_bad
      · simp only [xv]; exact pxv_not (ihE _)
      · exact xBs_and ihE _
      · exact xBs_or ihE _
      · simp only [xv]; exact pxv_if (ihT _) (ihE _) (ihE _)
      · split
        · rename_i hs; simp only [xv]; exact pxv_cmp (coX_ok G _) (ihE _) (ihE _) (behind_of hs)
        · simp only [xv]; exact pxv_bad
      · split
        · rename_i hs; simp only [xv]; exact pxv_tup (xEs_ok ihE _ hs)
        · simp only [xv]; exact pxv_bad
      · split
        · rename_i hs; simp only [xv]; exact pxv_lst (xEs_ok ihE _ hs)
        · simp only [xv]; exact pxv_bad
      · simp only [xv]; exact pxv_bad
    have plain : ∀ e, plainT e = true → PT X e (rdXT p W (xv (cXE C (fun C t e => cXX n C t e) true e) V α)) := fun e h1 => by
      have e1 : cXE C (fun C t e => cXX n C t e) true e = cXE C (fun C t e => cXX n C t e) false e := by
        unfold cXE
        split <;> first | rfl | cases h1 | (split <;> first | rfl | simp_all)
      rw [e1]
      exact pxt_val (pe e) (true_of h1)
    have pt : ∀ e, PT X e (rdXT p W (xv (cXE C (fun C t e => cXX n C t e) true e) V α)) := fun e => by
      cases e with
      | UnaryOp op x p =>
        cases op with
        | Not => unfold cXE; simp only [xv]; exact pxt_not (ihT _)
        | USub => exact plain _ rfl
        | UAdd => exact plain _ rfl
        | Invert => exact plain _ rfl
      | BoolOp op vs p =>
        cases op with
        | And => unfold cXE; exact (xBs_andT ihT _).pt
        | Or => unfold cXE; exact (xBs_orT ihT _).pt
      | IfExp c a b p => unfold cXE; simp only [xv]; exact pxt_bad
      | Compare a ops cs p =>
        unfold cXE
        split <;> try (rename_i h; cases h; done)
        all_goals try (simp only [xv]; exact pxt_bad)
        rename_i h; cases h
        split
        · rename_i hs; simp only [xv]; exact pxt_cmp (coX_ok G _) (ihE _) (ihE _) (behind_of hs)
        · simp only [xv]; exact pxt_bad
      | _ => exact plain _ rfl
    refine ⟨fun e => ?_, fun e => ?_⟩
    · unfold cXX
      split
      · simp only [xv]; exact pxv_old (oE e).nox
      · exact pe e
    · unfold cXX
      split
      · simp only [xv]; exact pxt_old (oT e).nox
      · exact pt e
end
end Sw

/-! B9: the translation of statements that may raise is right. -/
namespace Sw
open PySem PySem.Spec PyProof.Rows L2
section
variable {C : XC} {X : Cx} {V : XEv} {p p' : XP} {W W' : WX} {α : Act} {k : Nat} {e : Expr} {es : List Expr} {pos : Pos} {x n : Str}
theorem lookN (G : GoodX C X V p W α k) {x : Str} {kk : NameKind} (h : C.c.sc.names.lookup x = some kk) : X.env.scope.names.lookup x = some kk := by
  rw [show X.env.scope = C.c.sc from G.old.sc]
  exact h
theorem ndX_of (G : GoodX C X V p W α k) : X.N.Nodup := by rw [show X.N = C.c.N from G.old.N]; exact G.old.nd
theorem at_of (G : GoodX C X V p W α k) {i : Nat} (h : C.c.N.findIdx? (· == x) = some i) : X.N[i]? = some x := by rw [show X.N = C.c.N from G.old.N]; exact find_at h
/-! ### the suite -/
/-- a suite's context -/
structure SuX (X Y : Cx) : Prop where
  N : Y.N = X.N
  env : Y.env = X.env
  fn : Y.fn = X.fn
theorem seV_old {Y : Cx} {f : Ev} (h : PE Y e (rdE f)) : PE Y e (rdXE p' W' fun ρ S => (f ρ S).x) := pxv_old h
theorem seName_ok (G : GoodX C X V p W α k) {Y : Cx} (hY : SuX X Y) {fn : List Str} {fs : List (Str × D)} : PE Y (.Name x pos) (rdXE p' W' (seV fn fs (seName C x))) := by
  unfold seName
  split
  · rename_i i hd hl hi
    simp only [seV]
    refine seV_old (pev_var (by rw [hY.N]; exact at_of G hi) ?_ (dbg1 hd) (dbg2 hd))
    rw [hY.env]
    exact .inl (lookN G hl)
  · simp only [seV]; exact pxv_bad
theorem sEs_ok {Y : Cx} {fn : List Str} {fs : List (Str × D)} {f : Expr → SE} (hf : ∀ e, PE Y e (rdXE p' W' (seV fn fs (f e)))) : ∀ es : List Expr, es.all noStar = true → PA Y es (rdXA p' W' (seVs fn fs (sEs f es)))
  | [], _ => by simp only [sEs, seVs]; exact pxa_nil
  | e :: es, h => by
    simp only [List.all_cons, Bool.and_eq_true] at h
    simp only [sEs, seVs]
    exact pxa_cons (hf e) (sEs_ok hf es h.2) (star_cons h.1)
theorem cSE_ok (G : GoodX C X V p W α k) {Y : Cx} (hY : SuX X Y) {n : Str} {fn : List Str} {fs : List (Str × D)} (hxf : ∀ (f : Str) (p1 pos : Pos), fn.contains f = true → PE Y (.Attribute (.Name n p1) f pos) (rdXE p' W' (xXf fs f))) :
    ∀ (j : Nat) (e : Expr), PE Y e (rdXE p' W' (seV fn fs (cSE j C n e)))
  | 0, e => by simp only [cSE, seV]; exact pxv_bad
  | j + 1, e => by
    have ih := cSE_ok G hY hxf j
    unfold cSE
    split
    · simp only [seV]; exact seV_old pev_non
    · simp only [seV]; exact seV_old pev_bl
    · simp only [seV]; exact seV_old pev_int
    · simp only [seV]; exact seV_old pev_str
    · exact seName_ok G hY
    · split
      · rename_i hb
        have hb := eq_of_beq hb
        subst hb
        simp only [seV]
        split
        · rename_i hc; exact hxf _ _ _ hc
        · exact pxv_bad
      · simp only [seV]; exact pxv_bad
    · split
      · rename_i hs; simp only [seV]; exact pxv_lst (sEs_ok ih _ hs)
      · simp only [seV]; exact pxv_bad
    · simp only [seV]; exact pxv_bad
theorem cSU_ok (G : GoodX C X V p W α k) {Y : Cx} (hY : SuX X Y) {j i : Nat} {fn : List Str} {fs : List (Str × D)} {st : Stmt} (hpin : p'.pin = i :: p.pin) (hxf : ∀ (f : Str) (p1 pos : Pos), fn.contains f = true → PE Y (.Attribute (.Name n p1) f pos) (rdXE p' W' (xXf fs f))) :
    PS Y st (rdXS p' W' (suV fn fs (cSU j C n i st))) := by
  unfold cSU
  split
  · split
    · rename_i i1 hn hl hi
      split
      · rename_i hp
        simp only [suV]
        refine psx_set (.inl (by rw [hpin, G.pin]; simpa using hp)) (by rw [hY.N]; exact ndX_of G) (by rw [hY.N]; exact at_of G hi) (by rw [hY.env]; exact .inl (lookN G hl)) (cSE_ok G hY hxf _ _) (swap_of hn) (.inr (by rw [hY.env]; exact lookN G hl))
      · simp only [suV]; exact psx_bad
    · simp only [suV]; exact psx_bad
  · split
    · rename_i i1 hd hl hi
      split
      · rename_i hh
        simp only [Bool.and_eq_true] at hh
        obtain ⟨⟨h1, h2⟩, h3⟩ := hh
        have h3 := eq_of_beq h3
        subst h3
        simp only [suV]
        refine psx_expr (pxv_append (seV_old (pev_var (by rw [hY.N]; exact at_of G hi) (by rw [hY.env]; exact .inl (lookN G hl)) (dbg1 hd) (dbg2 hd))) (pxa_cons (cSE_ok G hY hxf _ _) pxa_nil (star_cons h2)) rfl h1 (by simpa using h2) (by simp)) rfl
      · simp only [suV]; exact psx_bad
    · simp only [suV]; exact psx_bad
  · simp only [suV]; exact psx_bad
theorem xfOf (G : GoodX C X V p W α k) {a : Addr} {oe : Obj} {d : Option Addr} {pn : List (Addr × Obj)} {c : Str} {fn : List Str} {fs : List (Str × D)} {i : Nat} (he : V.ek.lookup c = some fn) (hz : Zc (p.cn c) d oe) (hf : ∃ vs, oe.data = .fields vs)
    (hd : isDbg n = false) (hl : C.c.sc.names.lookup n = some .local) (hi : C.c.N.findIdx? (· == n) = some i) (f : Str) (p1 pos : Pos) (hc : fn.contains f = true) : PE (X.suite a ((a, oe) :: pn)) (.Attribute (.Name n p1) f pos) (rdXE (pIn p i a d fs) wNo (xXf fs f)) := by
  obtain ⟨Ca, e1, K1, K2, _, _, _⟩ := G.ek c fn he
  rw [e1] at hz
  exact pxv_xf K2 (K1.noat f (by simpa using hc)) hz hf (at_of G hi) (.inl (lookN G hl)) (dbg1 hd) (dbg2 hd) (by rfl)
/-! ### the statements -/
theorem off_ok (G : GoodX C X V p W α k) {g : Sw.G} (h : offPin C g = true) : (∀ i ∈ p.pin, i ∉ g.slots) ∨ p.J0 := .inl fun i hi hg => by
  unfold offPin at h
  have := List.all_eq_true.mp h i hg
  rw [G.pin] at hi
  simp [hi] at this
theorem cOld_ok (G : GoodX C X V p W α k) {j : Nat} {st : Stmt} : PS X st (rdXS p W (xsv (cOld C j st) V α)) := by
  unfold cOld
  split
  · rename_i hp
    simp only [xsv]
    exact psx_old (G.j0 hp) ⟨fun pins s σ H D I h => wpAny_mono ((cT_ok (F := V.F) G.old j st).run pins s σ H D (I.wish _) h) (fun _ _ q => q.unwish) fun _ _ z => (show False from z).elim⟩
  · simp only [xsv]; exact psx_bad
theorem own_ok (G : GoodX C X V p W α k) {i : Nat} (h : ownSlot C x = some i) : i ∉ p.pin ∧ X.N[i]? = some x ∧ Loc X.env.scope x ∧ (X.fn x = true ∨ X.env.scope.names.lookup x = some .local) := by
  unfold ownSlot at h
  split at h
  · rename_i hl hi
    split at h
    · rename_i hp
      cases h
      exact ⟨by rw [G.pin]; simpa using hp, at_of G hi, .inl (lookN G hl), .inr (lookN G hl)⟩
    · cases h
  · rename_i hl hf hi
    split at h
    · rename_i hp
      cases h
      exact ⟨by rw [G.pin]; simpa using hp, at_of G hi, .inr (lookN G hl), .inl (by rw [show X.fn x = C.c.fn x from G.old.fn x]; exact hf)⟩
    · cases h
  · cases h
theorem xAsg_ok (G : GoodX C X V p W α k) {j : Nat} {tg v : Expr} {old : XT} (ho : PS X (.Assign [tg] v pos) (rdXS p W (xsv old V α))) : PS X (.Assign [tg] v pos) (rdXS p W (xsv (xAsg j C tg v old) V α)) := by
  have ihE := (cXX_ok (p := p) j C X V W α k G).1
  unfold xAsg
  split
  · exact ho
  · split
    · split
      · rename_i i hn hi
        obtain ⟨h1, h2, h3, h4⟩ := own_ok G hi
        simp only [xsv]
        exact psx_set (.inl h1) (ndX_of G) h2 h3 (ihE _) (swap_of hn) h4
      · simp only [xsv]; exact psx_bad
    · rename_i ts kk pp
      split
      · rename_i vs k2 p2
        split
        · rename_i hw
          split
          · rename_i hh
            obtain ⟨hs, hoff⟩ := Bool.and_eq_true_iff.mp hh
            simp only [xsv]
            refine psx_asg (sl := (cGs C.c j ts).slots) (off_ok (g := .tup ts.length (cGs C.c j ts)) G hoff) (ihE _) (by simp only [gv]; exact PG.nox (pgv_tup G.old.calm (cGs_ok G.old j ts hs fun _ h => h) (asg_len hs).1 (asg_len hs).2)) rfl (swp_ok G.old hw) rfl
          · simp only [xsv]; exact psx_bad
        · simp only [xsv]; exact psx_bad
      · rename_i hv
        split
        · rename_i hh
          simp only [Bool.and_eq_true] at hh
          obtain ⟨⟨hs, hn⟩, hoff⟩ := hh
          simp only [xsv]
          refine psx_asg (sl := (cGs C.c j ts).slots) (off_ok (g := .tup ts.length (cGs C.c j ts)) G hoff) (ihE _) (by simp only [gv]; exact PG.nox (pgv_tup G.old.calm (cGs_ok G.old j ts hs fun _ h => h) (asg_len hs).1 (asg_len hs).2)) (show swapsWithSole [.Tuple ts kk pp] v pos.line X.env = pure false from swap_of (t := some (.Tuple ts kk pp)) (l := pos.line) (env := X.env) hn) (sws_of ?_) rfl
          cases v <;> first | rfl | exact absurd rfl (hv _ _ _)
        · simp only [xsv]; exact psx_bad
    · simp only [xsv]; exact psx_bad
end
section
variable {p : XP}
mutual
theorem cXT_ok : ∀ (n : Nat) (C : XC) (X : Cx) (V : XEv) (W : WX) (α : Act) (k : Nat), GoodX C X V p W α k → ∀ st : Stmt, PS X st (rdXS p W (xsv (cXT n C st) V α))
  | 0, C, X, V, W, α, k, G, st => by simp only [cXT, xsv]; exact psx_bad
  | n + 1, C, X, V, W, α, k, G, st => by
    obtain ⟨ihE, ihT⟩ := cXX_ok (p := p) n C X V W α k G
    unfold cXT
    split
    · split
      · rename_i hn; simp only [xsv]; exact psx_expr (ihE _) (swap_of hn)
      · simp only [xsv]; exact psx_bad
    · simp only [xsv]; exact psx_ret (ihE _)
    · exact xAsg_ok G (cOld_ok G)
    · simp only [xsv]; exact psx_if (ihT _) (cXTs_ok n C X V W α k G _) (cXTs_ok n C X V W α k G _)
    · rename_i tg iter b pos
      split
      · rename_i hh
        obtain ⟨hs, hoff⟩ := Bool.and_eq_true_iff.mp hh
        simp only [xsv]
        exact psx_for (sl := (cG C.c n tg).slots) (off_ok G hoff) G.po G.old.calm (PI.nox (cI_ok G.old (cX_ok (F := V.F) n C.c X.nox G.old).1)) (PG.nox (cG_ok G.old n tg fun _ h => h)) (cXTs_ok n C X V W α k G _) (folded_of hs)
      · simp only [xsv]; exact psx_bad
    · rename_i x p1 es p2 p3
      split
      · rename_i fn hh he
        obtain ⟨h1, h2⟩ := Bool.and_eq_true_iff.mp hh
        obtain ⟨hg, hd⟩ := isGl_X G h1
        rw [G.eC] at he
        obtain ⟨Ca, e1, K1, K2, hm, hl, hdb⟩ := G.ek x fn he
        simp only [xsv]
        have ha := cEs_ok (F := V.F) (cX_ok (F := V.F) n C.c X.nox G.old).1 es
        cases es with
        | nil =>
          cases fn with
          | nil => simp only [cEs, evs]; exact psx_raise0 e1 K1 G.old.room hg hm G.old.calm G.tk hdb
          | cons f fn =>
            simp only [cEs, evs]
            refine PS.of ps_never fun D σ H h => ?_
            obtain ⟨m, S, ρ, s, q⟩ := h
            exact q
        | cons e es =>
          have hs' : noStar e = true ∧ es.all noStar = true := by simpa using h2
          exact psx_raise (st := x) e1 K1 G.old.room hl hg hm G.old.calm G.tk (PA.nox ha) hdb (star_cons hs'.1) (star_plain hs'.2)
      · simp only [xsv]; exact psx_bad
    · rename_i body x np nm su hp pos
      split
      · rename_i i hh hln hi
        simp only [Bool.and_eq_true, Bool.not_eq_true'] at hh
        obtain ⟨⟨h1, h2⟩, h3⟩ := hh
        obtain ⟨hg, hd⟩ := isGl_X G h1
        obtain ⟨hm, hdb⟩ := G.cl x (by simpa using h2)
        split
        · rename_i hpin
          simp only [xsv]
          refine psx_try (n := nm) (c := x) G.stk G.frm (ndX_of G) (at_of G hi) (lookN G hln) ⟨hg, hdb, .inl hm⟩ G.tk (.inl (by rw [G.pin]; simpa using hpin)) (fun c1 b hb => G.sb c1 x b hb)
            (fun W2 pn xe tk2 po2 => cXTs_ok n C (X.tr pn xe) V W2 α k (G.tr tk2 po2) body) (fun a oe c1 d pn fs hs hz hfl => ?_)
          unfold suOf
          split
          · rename_i fn hek
            exact PSs.of (pss_one (cSU_ok (p' := pIn p i a d fs) (W' := wNo) (n := nm) G (Y := X.suite a ((a, oe) :: pn)) ⟨rfl, rfl, rfl⟩ rfl (xfOf G hek hz hfl h3 hln hi))) fun _ _ _ h => h
          · exact PSs.of (pss_one psx_bad) fun _ _ _ h => h
        · simp only [xsv]; exact psx_bad
      · simp only [xsv]; exact psx_bad
    · exact cOld_ok G
theorem cXTs_ok : ∀ (n : Nat) (C : XC) (X : Cx) (V : XEv) (W : WX) (α : Act) (k : Nat), GoodX C X V p W α k → ∀ ss : List Stmt, PSs X ss (rdXS p W (xsvs (cXTs n C ss) V α))
  | 0, C, X, V, W, α, k, G, ss => by
    simp only [cXTs, xsvs, xsv]
    exact PSs.of pss_never fun D σ H h => by
      obtain ⟨m, S, ρ, s, q⟩ := h
      exact q
  | n + 1, C, X, V, W, α, k, G, ss => by
    unfold cXTs
    cases ss with
    | nil => simp only [xsvs]; exact psx_nil
    | cons s r => simp only [xsvs]; exact psx_cons (cXT_ok n C X V W α k G s) (cXTs_ok n C X V W α k G r)
end
end
end Sw

/-! Eng21: laws that look at their script. -/
namespace Sw
open PySem PySem.Spec PyProof.Rows L2
def spN : Sp := fun vs H Q _ => ∃ (a : Addr) (ns : List Int) (o : Obj), vs = [.ref a] ∧ ns.length ≤ 63 ∧ H a = some (.frz o (.lst (ns.map V.int))) ∧ ∀ H', Q (.bl true) H'
theorem spN_of {K : Frg} {H : Hp} {a : Addr} {ns : List Int} (hn : noLists K = true) (hl : ns.length ≤ 63) (hO : Only H) (hS : SqL K H a (ns.map V.int)) : spN [.ref a] H (fun v _ => v = .bl true) fun _ _ _ => False := by
  rcases hS with (h | ⟨o, h⟩) | ⟨o, its, n, h, hc, _⟩
  · rcases hO a with z | ⟨o, xs, z⟩
    · rw [z] at h; cases h
    · rw [z] at h; cases h
  · exact ⟨a, ns, o, rfl, hl, h, fun _ => rfl⟩
  · exact absurd hc (noLists_ok hn h)
theorem rds_ints {m : Nat → Addr} {k : Nat} {H : Hp} : ∀ ns : List Int, RDs m k H (ns.map D.int) (ns.map V.int)
  | [] => rfl
  | i :: r => ⟨_, _, rfl, rfl, rds_ints r⟩
theorem law_drawn {P : Program} {w : World} {K : Frg} {mg : Str → Option Value} {base : Heap} {fs : List Str} {cs : List (Str × D)} {fu k : Nat} {bs : List Bd} {d : Df} {b : Bd} {f : Addr} {fd : FuncData}
    (hA : AllOk K mg fs cs fu fs bs) (hH : Home mg cs) (h : DfOk K mg fs cs fu d b) (h1 : d.ps.length = 1) (F : FunD K d.x d.x (defArgs d.st) (defBody d.st) (defScope d.st) [] [] f fd)
    (ev : ∀ ns : List Int, ns.length ≤ 63 → isRT (svs (tabL bs k) b.b (some (.ref 0) :: List.replicate (d.N.length - 1) none) ⟨[.frz (ns.map D.int)], [], false⟩) = true) (hN : 1 ≤ d.N.length) : FnG P w K mg base (k + 1) f fd d.ps spN := by
  refine fnG_of F h.sc (fun vs H Q E q => ?_) (fun cdv A outer s H vs Q E hr hn q => ?_)
  · obtain ⟨a, ns, o, rfl, _⟩ := q
    exact h1.symm
  have G : Good (d.cc fs cs) (cxOf CX0 P w K mg base d.N d.x (defScope d.st) f cdv A outer s H E).nox (tabL bs k) k :=
    { N := rfl, nd := h.sc.nd, sc := rfl, kind := h.sc.kind, fn := fun _ => rfl, calm := rfl, xe := rfl, room := hr, nog := hn, defs := fun i x e => defs_okL hA hH k i x e, con := hH.con, blt := hH.blt, pl := h.pk }
  have T := cTs_ok G fu (defBody d.st)
  rw [h.tx] at T
  obtain ⟨a, ns, o, rfl, hl, ha, q⟩ := q
  refine ⟨_, PSs.nox T, fun _ => a, ⟨[.frz (ns.map D.int)], [], false⟩, some (.ref 0) :: List.replicate (d.N.length - 1) none, ⟨fun n o' e => ?_, fun i j hi hj _ => ?_, fun _ b hb => by simp at hb, fun b hb => by simp at hb, fun b hb => by simp at hb⟩, ⟨?_, fun i d' e => ?_⟩, ?_⟩
  · cases n with
    | zero =>
      simp only [List.getElem?_cons_zero, Option.some.injEq] at e
      subst e
      exact ⟨_, o, ha, rds_ints ns⟩
    | succ n => simp at e
  · simp [Sto.len] at hi hj; omega
  · simp only [List.length_cons, List.length_replicate, L2.start, List.length_append, List.length_map, List.length_nil]
    omega
  · cases i with
    | zero =>
      simp only [List.getElem?_cons_zero, Option.some.injEq] at e
      subst e
      exact ⟨.ref a, rfl, by simp [Sto.len], rfl⟩
    | succ i =>
      rw [List.getElem?_cons_succ, List.getElem?_replicate] at e
      split at e <;> cases e
  · have ev := ev ns hl
    unfold isRT at ev
    split at ev
    · rename_i S' hS
      rw [hS]
      intro m' H' v X r
      rw [show v = .bl true from r]
      exact q H'
    · cases ev
end Sw

/-! B10: the defs that may raise, all at once, by depth of calls. -/
namespace Sw
open PySem PySem.Spec PyProof.Rows L2
structure XM where
  fs : List Str
  cs : List (Str × D)
  fu : Nat
  bs : List Bd
  xs : List Str
  xb : List (Nat × Nat × XTs)
  gs : List Str
  gb : List (Nat × XTs)
  sb : List ((Str × Str) × Bool)
  ek : List (Str × List Str)
  cl : List Str
def XM.xc (M : XM) (d : Df) (lam : Bool) : XC := ⟨d.cc M.fs M.cs, M.xs, M.gs, none, [], M.sb, M.ek, M.cl, lam⟩
def XM.gc (M : XM) (d : Df) : XC := ⟨d.cc M.fs M.cs, M.xs, [], d.ps.head?, [0], M.sb, M.ek, M.cl, false⟩
/-- G's tables -/
def XM.gev (M : XM) (j : Nat) (b : Nat → FnX) : XEv := ⟨tabL M.bs j, b, badG, fun _ => badFn, fun _ => badFnX, M.sb, M.ek⟩
def evK (M : XM) (a b c : Nat → FnX) : Nat → XEv
  | j + 2 => ⟨tabL M.bs (j + 2), a, fun g α S => match M.gb[g]? with
    | some d => fnGSem d.1 (xsvs d.2 (M.gev (j + 1) b)) α S
    | none => .bad, tabL M.bs j, c, M.sb, M.ek⟩
  | k => ⟨tabL M.bs k, a, badG, fun _ => badFn, fun _ => badFnX, M.sb, M.ek⟩
def tbH (M : XM) : Nat → (Nat → FnX) × (Nat → FnX) × (Nat → FnX)
  | 0 => (fun _ => badFnX, fun _ => badFnX, fun _ => badFnX)
  | k + 1 => (fun i => match M.xb[i]? with
    | some d => fnXSem d.1 d.2.1 (xsvs d.2.2 (evK M (tbH M k).1 (tbH M k).2.1 (tbH M k).2.2 k) badAct)
    | none => badFnX, (tbH M k).1, (tbH M k).2.1)
def evAt (M : XM) (k : Nat) : XEv := evK M (tbH M k).1 (tbH M k).2.1 (tbH M k).2.2 k
def lamQ (x : Str) : Str := (x ++ ".<locals>.") ++ "<lambda>"
structure DxOk (K : Frg) (mg : Str → Option Value) (base : Heap) (T : List (Addr × Str)) (M : XM) (d : Df) (lam : Bool) (b : Nat × Nat × XTs) : Prop where
  fn : ∃ f fd, FunD K d.x d.x (defArgs d.st) (defBody d.st) (defScope d.st) [] [] f fd ∧ mg d.x = some (.ref f)
  sc : FnScope d.N d.ps (defScope d.st)
  bd : ∀ (kV doc pm : Value) (an : Option Addr) (cdv ct : Value) (us : List Value), us.length = d.ps.length → bindArgs (PySem.W.fnOf d.x d.x (defArgs d.st) (defBody d.st) (defScope d.st) .none kV doc pm an cdv ct) ⟨us, []⟩ = pure (d.ps.zip us)
  tx : cXTs M.fu (M.xc d lam) (defBody d.st) = b.2.2
  n : d.N.length = b.1
  ar : d.ps.length = b.2.1
  pk : ∀ x ps, d.pl.lookup x = some ps → PsOk K mg x ps
  lm : lam = true → ∃ f c Pt, mg d.x = some (.ref f) ∧ (∀ oc od fd osl, K.lookup f = some ⟨oc, od, .func fd, osl⟩ → fd.code = .ref c) ∧ LamX.TabB base mg c Pt ∧ (Pt, lamQ d.x) ∈ T ∧ ∀ q ∈ T, q.1 = Pt → q.2 = lamQ d.x
structure DgOk (K : Frg) (mg : Str → Option Value) (M : XM) (d : Df) (b : Nat × XTs) : Prop where
  fn : ∃ f fd, FunD K d.x d.x (defArgs d.st) (defBody d.st) (defScope d.st) [] [] f fd ∧ mg d.x = some (.ref f)
  sc : FnScope d.N d.ps (defScope d.st)
  bd : ∀ (kV doc pm : Value) (an : Option Addr) (cdv ct : Value) (us : List Value), us.length = d.ps.length → bindArgs (PySem.W.fnOf d.x d.x (defArgs d.st) (defBody d.st) (defScope d.st) .none kV doc pm an cdv ct) ⟨us, []⟩ = pure (d.ps.zip us)
  tx : cXTs M.fu (M.gc d) (defBody d.st) = b.2
  n : d.N.length = b.1
  pk : ∀ x ps, d.pl.lookup x = some ps → PsOk K mg x ps
  ps : ∃ a, d.ps = [a] ∧ d.N[0]? = some a ∧ isDbg a = false
inductive AllX (K : Frg) (mg : Str → Option Value) (base : Heap) (T : List (Addr × Str)) (M : XM) : List Str → List (Nat × Nat × XTs) → Prop where
  | nil : AllX K mg base T M [] []
  | cons {d : Df} {lam : Bool} {b : Nat × Nat × XTs} {xs : List Str} {bs : List (Nat × Nat × XTs)} (h : DxOk K mg base T M d lam b) (r : AllX K mg base T M xs bs) : AllX K mg base T M (d.x :: xs) (b :: bs)
theorem AllX.get {K : Frg} {mg : Str → Option Value} {base : Heap} {T : List (Addr × Str)} {M : XM} : ∀ {xs : List Str} {bs : List (Nat × Nat × XTs)}, AllX K mg base T M xs bs → ∀ (i : Nat) (x : Str), xs[i]? = some x → ∃ d lam b, DxOk K mg base T M d lam b ∧ d.x = x ∧ bs[i]? = some b
  | _, _, .nil, i, x, h => by simp at h
  | _, _, .cons h r, 0, x, e => ⟨_, _, _, h, by simpa using e, rfl⟩
  | _, _, .cons h r, i + 1, x, e => r.get i x (by simpa using e)
inductive AllG (K : Frg) (mg : Str → Option Value) (M : XM) : List Str → List (Nat × XTs) → Prop where
  | nil : AllG K mg M [] []
  | cons {d : Df} {b : Nat × XTs} {xs : List Str} {bs : List (Nat × XTs)} (h : DgOk K mg M d b) (r : AllG K mg M xs bs) : AllG K mg M (d.x :: xs) (b :: bs)
theorem AllG.get {K : Frg} {mg : Str → Option Value} {M : XM} : ∀ {xs : List Str} {bs : List (Nat × XTs)}, AllG K mg M xs bs → ∀ (i : Nat) (x : Str), xs[i]? = some x → ∃ d b, DgOk K mg M d b ∧ d.x = x ∧ bs[i]? = some b
  | _, _, .nil, i, x, h => by simp at h
  | _, _, .cons h r, 0, x, e => ⟨_, _, h, by simpa using e, rfl⟩
  | _, _, .cons h r, i + 1, x, e => r.get i x (by simpa using e)
/-- no wish of the slots -/
def pB (T : List (Addr × Str)) (cn : Str → Value) : XP where
  T := T
  cn := cn
  J := fun _ _ _ _ => True
  pin := []
  hJ := fun _ _ _ _ _ _ _ _ h => h
  hX := fun _ _ _ _ _ _ _ _ h => h
  J0 := True
  hJ0 := fun _ _ _ _ _ => trivial
structure XOk (P : Program) (w : World) (K : Frg) (mg : Str → Option Value) (base : Heap) (T : List (Addr × Str)) (cn : Str → Value) (M : XM) : Prop where
  A : AllOk K mg M.fs M.cs M.fu M.fs M.bs
  H : Home mg M.cs
  X : AllX K mg base T M M.xs M.xb
  G : AllG K mg M M.gs M.gb
  sb : ∀ c1 c b, M.sb.lookup (c1, c) = some b → PySem.W.exmOne K (cn c1) (cn c) = some b
  ek : ∀ c fn, M.ek.lookup c = some fn → ∃ Ca, cn c = .ref Ca ∧ ExK P K Ca fn ∧ XfC K Ca ∧ mg c = some (.ref Ca) ∧ fn.length ≤ 800 ∧ (c == ("__debug__" : Str)) = false
  cl : ∀ c, c ∈ M.cl → mg c = some (cn c) ∧ (c == ("__debug__" : Str)) = false
section
variable {P : Program} {w : World} {K : Frg} {mg : Str → Option Value} {base : Heap} {T : List (Addr × Str)} {cn : Str → Value} {M : XM}
theorem defX_bad {d : Df} {lam : Bool} {b : Nat × Nat × XTs} (h : DxOk K mg base T M d lam b) {k : Nat} : DefX (pB T cn) P w K mg base k d.x b.2.1 badFnX := by
  obtain ⟨f, fd, F, hm⟩ := h.fn
  exact ⟨⟨f, fd, d.ps, ⟨fun vs H Q E q => q.1.trans h.ar.symm, fun A outer s H args us vs Q E _ _ _ _ _ q => by
    obtain ⟨_, _, _, _, _, _, _, q⟩ := q
    exact q.elim⟩, hm, F.kp, F.bindsN h.bd⟩, fun _ _ _ => rfl⟩
/-- the elder part of a context -/
theorem old_ok (O : XOk P w K mg base T cn M) {d : Df} (sc : FnScope d.N d.ps (defScope d.st)) (pk : ∀ x ps, d.pl.lookup x = some ps → PsOk K mg x ps) {f : Addr} {cdv : Value} {A : Around} {outer : List Env} {s : Shared} {H : Hp} {E : XK} {CX : CXT} {k : Nat}
    (hr : Room k (A.deeper (envOfC d.x (defScope d.st) s.heap.objs.size f cdv))) (hn : NoG (A.deeper (envOfC d.x (defScope d.st) s.heap.objs.size f cdv))) : Good (d.cc M.fs M.cs) (cxOf CX P w K mg base d.N d.x (defScope d.st) f cdv A outer s H E).nox (tabL M.bs k) k :=
  { N := rfl, nd := sc.nd, sc := rfl, kind := sc.kind, fn := fun _ => rfl, calm := rfl, xe := rfl, room := hr, nog := hn, defs := fun i x e => defs_okL O.A O.H k i x e, con := O.H.con, blt := O.H.blt, pl := pk }
theorem evAt_FX (k : Nat) : (evAt M k).FX = (tbH M k).1 := by
  unfold evAt evK
  cases k with
  | zero => rfl
  | succ k => cases k <;> rfl
theorem evAt_F (k : Nat) : (evAt M k).F = tabL M.bs k := by
  unfold evAt evK
  cases k with
  | zero => rfl
  | succ k => cases k <;> rfl
theorem evAt_sb (k : Nat) : (evAt M k).sb = M.sb ∧ (evAt M k).ek = M.ek := by
  unfold evAt evK
  cases k with
  | zero => exact ⟨rfl, rfl⟩
  | succ k => cases k <;> exact ⟨rfl, rfl⟩
theorem goodG (O : XOk P w K mg base T cn M) {d : Df} {b : Nat × XTs} (h : DgOk K mg M d b) {pp : XP} (hT : pp.T = T) (hc : pp.cn = cn) (hp : pp.pin = [0]) {f : Addr} {cdv : Value} {A : Around} {outer : List Env} {s : Shared} {H : Hp} {E : XK} {k : Nat} {α : Act} {a : Str} (ha : d.ps = [a])
    (hr : Room k (A.deeper (envOfC d.x (defScope d.st) s.heap.objs.size f cdv))) (hn : NoG (A.deeper (envOfC d.x (defScope d.st) s.heap.objs.size f cdv))) (hx : ∀ i x, M.xs[i]? = some x → ∃ ar, DefX (pB T cn) P w K mg base k x ar ((tbH M k).1 i))
    (hact : ∀ (W : WX) (pn : List (Addr × Obj)) (xe : Value → Shared → Prop) (p1 p2 : Pos), Takes ((cxOf (L2.CX P w) P w K mg base d.N d.x (defScope d.st) f cdv A outer s H E).tr pn xe) W → PE ((cxOf (L2.CX P w) P w K mg base d.N d.x (defScope d.st) f cdv A outer s H E).tr pn xe) (.Call (.Name a p1) [] [] p2) (rdXE pp W (fun _ S => α S))) :
    GoodX (M.gc d) (cxOf (L2.CX P w) P w K mg base d.N d.x (defScope d.st) f cdv A outer s H E) (M.gev k (tbH M k).1) pp (wE E) α k where
  old := old_ok O h.sc h.pk hr hn
  tk := takes_cx
  po := PassesOwn.leaving
  stk := rfl
  frm := rfl
  xd := fun i x e => let ⟨ar, D⟩ := hx i x e; ⟨ar, DefX.cast (p := pB T cn) (p' := pp) hT hc D⟩
  pin := hp
  j0 := fun z => nomatch (show [0] = [] from z)
  act := fun a' z => by
    have z : d.ps.head? = some a' := z
    rw [ha] at z
    cases z
    exact hact
  lam := fun z => nomatch z
  sb := fun c1 c b z => by rw [hc]; exact O.sb c1 c b z
  ek := fun c fn z => by rw [hc]; exact O.ek c fn z
  eC := rfl
  cl := fun c z => by rw [hc]; exact O.cl c z
theorem defG_ok (O : XOk P w K mg base T cn M) {k : Nat} (hx : ∀ i x, M.xs[i]? = some x → ∃ ar, DefX (pB T cn) P w K mg base k x ar ((tbH M k).1 i)) {i : Nat} {x : Str} (e : M.gs[i]? = some x) :
    ∃ b, M.gb[i]? = some b ∧ DefG T cn P w K mg base k x (fnGSem b.1 (xsvs b.2 (M.gev k (tbH M k).1))) := by
  obtain ⟨d, b, h, rfl, eb⟩ := O.G.get i x e
  obtain ⟨f, fd, F, hm⟩ := h.fn
  obtain ⟨a, ha, hN, hd⟩ := h.ps
  obtain ⟨oc, od, dV, kV, doc, pm, an, cdv, ct, osl, e1, lk, hcd, _, _⟩ := F.ex
  have hb := F.bindsN h.bd
  rw [ha, e1] at hb
  have hs := h.sc
  rw [ha] at hs
  have hv : Vis (defScope d.st) a := (hs.par a List.mem_cons_self).elim .inl fun z => .inr (.inl z)
  refine ⟨b, eb, f, d.N, a, b.1, xsvs b.2 (M.gev k (tbH M k).1), defArgs d.st, defBody d.st, defScope d.st, dV, kV, doc, pm, cdv, ct, oc, an, od, osl, hm, F.kp, by rw [← e1]; exact lk, hcd, hb, hs, hN, hv, dbg1 hd, dbg2 hd, h.n, rfl, fun α pp A outer s H E hT hc hp hr hn hact => ?_⟩
  have G := goodG (f := f) (cdv := cdv) (A := A) (outer := outer) (s := s) (H := H) (E := E) O h hT hc hp ha hr hn hx hact
  have T1 := cXTs_ok (p := pp) M.fu _ _ _ _ _ _ G (defBody d.st)
  rw [h.tx] at T1
  exact T1
theorem goodD (O : XOk P w K mg base T cn M) {d : Df} {lam : Bool} {b : Nat × Nat × XTs} (h : DxOk K mg base T M d lam b) {f : Addr} {fd : FuncData} (F : FunD K d.x d.x (defArgs d.st) (defBody d.st) (defScope d.st) [] [] f fd) (hm : mg d.x = some (.ref f)) {cdv : Value} (hcd : fd.code = cdv) {A : Around} {outer : List Env} {s : Shared} {H : Hp} {E : XK} {k : Nat}
    (hr : Room k (A.deeper (envOfC d.x (defScope d.st) s.heap.objs.size f cdv))) (hn : NoG (A.deeper (envOfC d.x (defScope d.st) s.heap.objs.size f cdv))) (hx : ∀ j, j ≤ k → ∀ i x, M.xs[i]? = some x → ∃ ar, DefX (pB T cn) P w K mg base j x ar ((tbH M j).1 i)) :
    GoodX (M.xc d lam) (cxOf (L2.CX P w) P w K mg base d.N d.x (defScope d.st) f cdv A outer s H E) (evAt M k) (pB T cn) (wE E) badAct k where
  old := by rw [evAt_F]; exact old_ok O h.sc h.pk hr hn
  tk := takes_cx
  po := PassesOwn.leaving
  stk := rfl
  frm := rfl
  xd := by rw [evAt_FX]; exact hx k (Nat.le_refl k)
  pin := rfl
  j0 := fun _ => trivial
  act := fun a' z => nomatch (show (none : Option Str) = some a' from z)
  lam := fun z => by
    cases k with
    | zero => exact .inl fun _ _ => rfl
    | succ k =>
      cases k with
      | zero => exact .inl fun _ _ => rfl
      | succ j =>
        obtain ⟨f', c, Pt, m1, m2, m3, m4, m5⟩ := h.lm z
        rw [hm] at m1
        cases m1
        obtain ⟨oc, od, dV, kV, doc, pm, an, cdv', ct, osl, e1, lk, _, _, _⟩ := F.ex
        have ec := m2 _ _ _ _ lk
        rw [hcd] at ec
        refine .inr ⟨j, rfl, trivial, ⟨c, Pt, m3, ec, m4, m5⟩, fun i x e => ?_, fun i x e => defs_okL O.A O.H j i x e, hx j (by omega)⟩
        obtain ⟨b2, e2, DG⟩ := defG_ok (T := T) (cn := cn) O (hx (j + 1) (by omega)) e
        have eG : (evAt M (j + 1 + 1)).G i = fnGSem b2.1 (xsvs b2.2 (M.gev (j + 1) (tbH M (j + 1)).1)) := by
          funext α S
          show (match M.gb[i]? with
            | some d => fnGSem d.1 (xsvs d.2 (M.gev (j + 1) (tbH M (j + 1)).1)) α S
            | none => .bad) = _
          rw [e2]
        rw [eG]
        exact DG
  sb := fun c1 c b z => by rw [(evAt_sb k).1] at z; exact O.sb c1 c b z
  ek := fun c fn z => by rw [(evAt_sb k).2] at z; exact O.ek c fn z
  eC := (evAt_sb k).2.symm
  cl := O.cl
theorem fnE_def (O : XOk P w K mg base T cn M) {d : Df} {lam : Bool} {b : Nat × Nat × XTs} (h : DxOk K mg base T M d lam b) {f : Addr} {fd : FuncData} (F : FunD K d.x d.x (defArgs d.st) (defBody d.st) (defScope d.st) [] [] f fd) (hm : mg d.x = some (.ref f)) {k : Nat}
    (hx : ∀ j, j ≤ k → ∀ i x, M.xs[i]? = some x → ∃ ar, DefX (pB T cn) P w K mg base j x ar ((tbH M j).1 i)) : FnE P w K mg base (k + 1) f fd d.ps (spX (pB T cn) b.2.1 (fnXSem b.1 b.2.1 (xsvs b.2.2 (evAt M k) badAct))) :=
  fnE_of F h.sc (fun vs H Q E q => q.1.trans h.ar.symm) fun cdv A outer s H vs Q E hcd hr hn q => by
    have G := goodD (A := A) (outer := outer) (s := s) (H := H) (E := E) O h F hm hcd hr hn hx
    have T1 := cXTs_ok (p := pB T cn) M.fu _ _ _ _ _ _ G (defBody d.st)
    rw [h.tx] at T1
    exact ⟨_, T1, rd_fnX h.n (fun _ _ _ => trivial) q.1 q.2⟩
theorem defsX_ok (O : XOk P w K mg base T cn M) : ∀ (k : Nat), ∀ j, j ≤ k → ∀ i x, M.xs[i]? = some x → ∃ ar, DefX (pB T cn) P w K mg base j x ar ((tbH M j).1 i)
  | 0, j, hj, i, x, e => by
    obtain ⟨d, lam, b, h, rfl, _⟩ := O.X.get i x e
    obtain rfl : j = 0 := Nat.le_zero.mp hj
    exact ⟨b.2.1, defX_bad h⟩
  | k + 1, j, hj, i, x, e => by
    by_cases hk : j ≤ k
    · exact defsX_ok O k j hk i x e
    · obtain rfl : j = k + 1 := Nat.le_antisymm hj (Nat.lt_of_not_le hk)
      obtain ⟨d, lam, b, h, rfl, eb⟩ := O.X.get i x e
      obtain ⟨f, fd, F, hm⟩ := h.fn
      have e1 : (tbH M (k + 1)).1 i = fnXSem b.1 b.2.1 (xsvs b.2.2 (evAt M k) badAct) := by
        show (match M.xb[i]? with
          | some d => fnXSem d.1 d.2.1 (xsvs d.2.2 (evK M (tbH M k).1 (tbH M k).2.1 (tbH M k).2.2 k) badAct)
          | none => badFnX) = _
        rw [eb]
        rfl
      rw [e1]
      refine ⟨b.2.1, ⟨f, fd, d.ps, fnE_def O h F hm (defsX_ok O k), hm, F.kp, F.bindsN h.bd⟩, fun ds S hl => ?_⟩
      unfold fnXSem
      cases e2 : Nat.beq ds.length b.2.1 with
      | false => rfl
      | true => exact absurd (Nat.eq_of_beq_eq_true e2) hl
end
end Sw

/-! B11: the call of a law whose defs make lambdas; its end. -/
namespace Sw
open PySem PySem.Spec PyProof.Rows L2
/-- tracked: the tables, the script -/
def OnlyT (cs : List (Addr × Addr)) (H : Hp) : Prop := ∀ b, H b = none ∨ b ∈ cs.map (·.2) ∨ ∃ o xs, H b = some (.frz o (.lst xs))
theorem law_callX {P : Program} {w : World} {K : Frg} {mg mb : Str → Option Value} {k : Nat} {fa a : Addr} {cs : List (Addr × Addr)} {fd : FuncData} {x : Str} {sp : Sp} {s1 : Shared} {vs : List Value} {ns : List Int}
    (KX : K.In s1.heap) (g0 : s1.heap.Ns mainGlobals mg) (gb : s1.heap.Ns builtinsNs mb) (bb : ∀ x : Str, x ≠ "__name__" → mb x = bootBuiltins x) (nolim : s1.heap.NoLimit) (gens : s1.gens = #[])
    (tE : ∀ p ∈ cs, s1.heap.get? p.2 = some { cls := .none, data := .fields #[] }) (tN : ∀ p ∈ cs, K.lookup p.2 = none) (tC : ∀ p ∈ cs, PySem.W.CodeHd s1.heap p.1 p.2)
    (hbm : ∃ (bm : Addr) (ob : Obj), mg "__builtins__" = some (.ref bm) ∧ bm ≠ builtinsNs ∧ s1.heap.get? bm = some ob ∧ ob.cls = .type "module" ∧ ob.dict = some builtinsNs ∧ ob.data = .plain)
    (ha : s1.heap.get? a = some { cls := .type "list", data := .seq vs.toArray }) (hi : IntsAre vs ns) (hl : ns.length ≤ sizeLine) (hr : Room k callerA)
    (F : ∀ base : Heap, K.In base → base.Ns mainGlobals mg → (∀ p ∈ cs, LamX.TabB base mg p.1 p.2) → FnE P w K mg base k fa fd [x] sp) (bind : ∀ (s : Shared) (u : Value), BindsTo s fd ⟨[u], []⟩ [(x, u)])
    (hsp : ∀ H : Hp, (∀ p ∈ cs, H p.2 = some (.tbl #[])) → OnlyT cs H → SqL K H a (ns.map V.int) → sp [.ref a] H (fun v _ => v = .bl true) fun _ _ _ => False) :
    codeAny (model P w) callerA (.call (.ref fa) ⟨[.ref a], []⟩) (fun r s' => r = .ok (.ret (.bool true)) ∧ OldK s1.heap s'.heap ∧ s'.os = s1.os ∧ AllBare s'.gens) s1 := by
  have rv := vals_ints hi
  have tab : ∀ b : Addr, b ∈ cs.map (·.2) → s1.heap.get? b = some { cls := .none, data := .fields #[] } := fun b hb => by
    obtain ⟨q, hq, rfl⟩ := List.mem_map.mp hb
    exact tE q hq
  have noTabA : a ∉ cs.map (·.2) := fun hb => by
    have e := tab a hb
    rw [ha] at e
    exact nomatch (show Data.seq vs.toArray _ = Data.fields #[] from congrArg Obj.data (Option.some.inj e))
  have inT : ∀ q ∈ cs, q.2 ∈ cs.map (·.2) := fun q hq => List.mem_map_of_mem hq
  have core : ∀ H : Hp, (∀ q ∈ cs, H q.2 = some (.tbl #[])) → OnlyT cs H → SqL K H a (ns.map V.int) → HOk P w H s1.heap → (∀ b, H b ≠ none → b = a ∨ b ∈ cs.map (·.2)) → (H a ≠ none → K.lookup a = none) →
      codeAny (model P w) callerA (.call (.ref fa) ⟨[.ref a], []⟩) (fun r s' => r = .ok (.ret (.bool true)) ∧ OldK s1.heap s'.heap ∧ s'.os = s1.os ∧ AllBare s'.gens) s1 := fun H hH only sq hok onlyA offK => by
    have plain : ∀ {b : Addr} {o : Obj}, s1.heap.get? b = some o → (∀ us n, o.data ≠ .seq us n) → o.data ≠ .fields #[] → H b = none := fun {b o} e n1 n2 => by
      cases hq : H b with
      | none => rfl
      | some u =>
        exfalso
        rcases onlyA b (by rw [hq]; simp) with eb | eb
        · rw [eb, ha] at e
          cases e
          exact n1 _ _ rfl
        · rw [tab b eb] at e
          cases e
          exact n2 rfl
    have dictH : ∀ {b : Addr} {o : Obj} {es : Array DictEntry} {ep : Nat}, s1.heap.get? b = some o → o.data = .dict es ep → H b = none := fun {b o es ep} e d => plain e (fun us n z => by rw [d] at z; cases z) (fun z => by rw [d] at z; cases z)
    have nsH : ∀ {b : Addr} {m : Str → Option Value}, s1.heap.Ns b m → (hidT s1.heap H).Ns b m := fun {b m} ⟨o, es, ep, z, d, r⟩ => ⟨o, es, ep, hidT_get z (dictH z d), d, r⟩
    have kH : K.In (hidT s1.heap H) := fun b o z => hidT_get (KX b o z) (by
      cases hq : H b with
      | none => rfl
      | some u =>
        exfalso
        rcases onlyA b (by rw [hq]; simp) with eb | eb
        · have no := offK (by rw [← eb, hq]; simp)
          rw [eb, no] at z
          cases z
        · obtain ⟨q, hq2, e2⟩ := List.mem_map.mp eb
          rw [← e2, tN q hq2] at z
          cases z)
    have md : Mod K mg (hidT s1.heap H) := ⟨kH, nsH g0, ⟨mb, nsH gb, bb⟩, let ⟨mc, z1, z2⟩ := nolim; ⟨mc, nsH z1, z2⟩⟩
    have tb : ∀ q ∈ cs, LamX.TabB (hidT s1.heap H) mg q.1 q.2 := fun q hq => by
      have eq0 := tE q hq
      refine ⟨?_, ?_, fun z => ?_⟩
      · obtain ⟨o, us, file, tf, flags, tg, inF, text, tt, f1, r1, r2, r3, r4, r5, r6, r7, r8, hne⟩ := tC q hq
        refine ⟨o, us, file, tf, flags, tg, inF, text, tt, hidT_get f1 (plain f1 (fun vs n z => by rw [r2] at z; cases z) fun z => ?_), r1, r2, r3, r4, r5, r6, r7, r8, hne⟩
        rw [r2] at z
        cases z
        simp at r3
      · obtain ⟨bm, ob, b1, b2, b3, b4, b5, b6⟩ := hbm
        refine ⟨bm, ob, b1, b2, fun z => ?_, fun z => ?_, hidT_get b3 (plain b3 (fun vs n z => by rw [b6] at z; cases z) fun z => by rw [b6] at z; cases z), b4, b5, b6⟩
        · obtain ⟨o, es, ep, f1, hd, _⟩ := g0
          rw [z, f1] at b3
          cases b3
          rw [hd] at b6
          cases b6
        · rw [z, eq0] at b3
          cases b3
          cases b6
      · obtain ⟨o, es, ep, f1, hd, _⟩ := g0
        rw [z, eq0] at f1
        cases f1
        cases hd
    have e0 : Env0 P w K mg (hidT s1.heap H) callerA [] s1 H := ⟨rfl, md, fun b o z => of_hidT z, Nat.le_of_eq (hidT_size _ _), trivial, fun b hb => absurd (show b ∈ ([] : List Addr) from hb) (by simp), hok, .of_eq gens⟩
    refine codeAny_mono ((F _ kH (nsH g0) tb).run callerA [] s1 H ⟨[.ref a], []⟩ [.ref a] [.ref a] _ _ hr rfl e0 (bind s1 (.ref a)) (.cons rfl .nil) (hsp H hH only sq)) fun r s' h => ?_
    cases r with
    | error e =>
      obtain ⟨_, _, _, _, _, _, _, _, _, _, _, _, hE⟩ := (show L2.CX P w [] H s1 (fun _ _ _ => False) e s' from h)
      exact hE.elim
    | ok fl => cases fl with
      | next => exact (show False from h).elim
      | brk => exact (show False from h).elim
      | cont => exact (show False from h).elim
      | ret u =>
        obtain ⟨v, H', os, bare, un, hok', r', q⟩ := h
        have q : v = .bl true := q
        subst q
        obtain rfl : u = Value.bool true := r'
        have same : ∀ b o, b ∉ cs.map (·.2) → s1.heap.get? b = some o → s'.heap.get? b = some o := fun b o nb z => by
          rcases only b with n | n | ⟨ob, xs, n⟩
          · exact un.keep b o z n (by intro y; exact absurd (show b ∈ ([] : List Addr) from y) (by simp)) (by simp)
          · exact absurd n nb
          · obtain ⟨e1, _⟩ := hok b _ n
            obtain ⟨e2, _⟩ := hok' b _ (un.frzs b ob _ n)
            rw [z] at e1
            cases e1
            exact e2
        have more : ∀ q ∈ cs, ∃ us : Array Value, s'.heap.get? q.2 = some { cls := .none, data := .fields us } := fun q hq => by
          obtain ⟨us, z⟩ := un.tbls q.2 #[] (hH q hq)
          exact ⟨_, hok' q.2 _ z⟩
        refine ⟨rfl, ⟨fun b o z => ?_, fun b o z => ?_⟩, os, bare⟩
        · by_cases hb : b ∈ cs.map (·.2)
          · obtain ⟨q, hq, rfl⟩ := List.mem_map.mp hb
            obtain ⟨us, hu⟩ := more q hq
            rw [tE q hq] at z
            cases z
            exact .inr (.inl ⟨((tC q hq).tab (tE q hq)).isCodeTable, rfl, #[], us, rfl, by rw [Array.empty_append]; exact hu⟩)
          · exact .inl (same b o hb z)
        · by_cases hb : b ∈ cs.map (·.2)
          · obtain ⟨q, hq, rfl⟩ := List.mem_map.mp hb
            obtain ⟨us, hu⟩ := more q hq
            exact ⟨_, hu⟩
          · exact ⟨o, same b o hb z⟩
  cases hk : K.lookup a with
  | some o =>
    have z := KX a o hk
    rw [ha] at z
    cases z
    refine core (fun b => if b ∈ cs.map (·.2) then some (.tbl #[]) else none) (fun q hq => if_pos (inT q hq)) (fun b => ?_) (.inr ⟨_, vs.toArray, _, hk, rfl, rfl, rfl, by rw [List.size_toArray, hi.length]; exact hl, by simpa using rv⟩) (fun b u y => ?_) (fun b y => ?_) fun y => absurd (if_neg noTabA) y
    · by_cases hb : b ∈ cs.map (·.2)
      · exact .inr (.inl hb)
      · exact .inl (if_neg hb)
    · by_cases hb : b ∈ cs.map (·.2)
      · have y := (if_pos hb).symm.trans y
        cases y
        exact tab b hb
      · have y := (if_neg hb).symm.trans y
        cases y
    · by_cases hb : b ∈ cs.map (·.2)
      · exact .inr hb
      · exact absurd (if_neg hb) y
  | none =>
    refine core (upd (fun b => if b ∈ cs.map (·.2) then some (.tbl #[]) else none) a (.frz { cls := .type "list", data := .seq vs.toArray } (.lst (ns.map V.int)))) (fun q hq => ?_) (fun b => ?_) (.inl (.inr ⟨_, upd_same⟩)) (fun b u y => ?_) (fun b y => ?_) fun _ => hk
    · rw [upd_ne (fun z => noTabA (by rw [← z]; exact inT q hq))]
      exact if_pos (inT q hq)
    · by_cases hb : b = a
      · rw [hb]; exact .inr (.inr ⟨_, _, upd_same⟩)
      · by_cases h2 : b ∈ cs.map (·.2)
        · exact .inr (.inl h2)
        · exact .inl ((upd_ne hb).trans (if_neg h2))
    · by_cases hb : b = a
      · rw [hb, upd_same] at y
        cases y
        rw [hb]
        exact ⟨ha, by rw [List.length_map]; exact hl, vs, _, rv, ha⟩
      · rw [upd_ne hb] at y
        by_cases h2 : b ∈ cs.map (·.2)
        · have y := (if_pos h2).symm.trans y
          cases y
          exact tab b h2
        · have y := (if_neg h2).symm.trans y
          cases y
    · by_cases hb : b = a
      · exact .inl hb
      · by_cases h2 : b ∈ cs.map (·.2)
        · exact .inr h2
        · exact absurd ((upd_ne hb).trans (if_neg h2)) y
/-- what is known of the law's promise at the head's heap -/
def LawAtX (l : PySem.W.OpenLaw) (w : World) (k n : Nat) (x : Str) (mg : Str → Option Value) (fa : Addr) (h : Heap) : Prop := ∃ (K : Frg) (fd : FuncData) (cs : List (Addr × Addr)) (sp : Sp), K.In h ∧
  (∀ p ∈ cs, h.get? p.2 = some { cls := .none, data := .fields #[] }) ∧ (∀ p ∈ cs, K.lookup p.2 = none) ∧ (∀ p ∈ cs, PySem.W.CodeHd h p.1 p.2) ∧ (∀ (s : Shared) (u : Value), BindsTo s fd ⟨[u], []⟩ [(x, u)]) ∧
  (∀ (H : Hp) (a : Addr) (ns : List Int), ns.length ≤ n → (∀ p ∈ cs, H p.2 = some (.tbl #[])) → OnlyT cs H → SqL K H a (ns.map V.int) → sp [.ref a] H (fun v _ => v = .bl true) fun _ _ _ => False) ∧
  ∀ base : Heap, K.In base → base.Ns mainGlobals mg → (∀ p ∈ cs, LamX.TabB base mg p.1 p.2) → FnE l.prog w K mg base k fa fd [x] sp
theorem walk_ofX {l : PySem.W.OpenLaw} {n k : Nat} {q : Program} {loose : List Str} {XP : (Str → Option Value) → Heap → Prop} {YP : World → Heap → Prop} {d : DefRec} {x : Str} (hn : l.most = some n) (hn2 : n ≤ sizeLine) (hdf : d.params.defaults = []) (hr : Room k callerA)
    (F : ∀ (w : World) (mg : Str → Option Value) (fa : Addr) (h : Heap), YP w h → h.Ns mainGlobals mg → mg d.name = some (.ref fa) → LawAtX l w k n x mg fa h) : PySem.W.WalkO q loose XP YP l.row.toRowW d [] (fun f vs => PySem.call f vs) := by
  refine Att.attach_callB hn hdf fun w s0 s1 mg mb fa o pm cd doc a vs ns G Y ho hd hcd hmg hobj hints hlen hbits hg => ?_
  obtain ⟨K, fd, cs, sp, KX, t1, t2, t3, hb, hsp, hF⟩ := F w mg fa _ Y G.T.g hmg
  exact law_callX KX G.T.g G.T.b G.T.builtins G.T.nolimit hg t1 t2 t3 G.T.bmain hobj hints (Nat.le_trans hlen hn2) hr hF hb fun H hH hO hS => hsp H a ns hlen hH hO hS
/-! ### a law that looks at nothing -/
def isRTX : SX → Bool
  | .rt (.bl true) _ => true
  | _ => false
def spGX (T : List (Addr × Str)) : Sp := fun vs H Q _ => vs.length = 1 ∧ LamX.Tabs T H ∧ ∀ H', Q (.bl true) H'
section
variable {P : Program} {w : World} {K : Frg} {mg : Str → Option Value} {base : Heap} {T : List (Addr × Str)} {cn : Str → Value} {M : XM} {d : Df} {lam : Bool} {b : Nat × Nat × XTs} {f : Addr} {fd : FuncData} {k : Nat}
theorem law_groundX (O : XOk P w K mg base T cn M) (h : DxOk K mg base T M d lam b) (h1 : d.ps.length = 1) (F : FunD K d.x d.x (defArgs d.st) (defBody d.st) (defScope d.st) [] [] f fd) (hm : mg d.x = some (.ref f))
    (ev : isRTX (xsvs b.2.2 (evAt M k) badAct (List.replicate d.N.length none) ⟨[], [], false⟩) = true) (hN : 1 ≤ d.N.length) : FnE P w K mg base (k + 1) f fd d.ps (spGX T) :=
  fnE_of F h.sc (fun vs H Q E q => q.1.trans h1.symm) fun cdv A outer s H vs Q E hcd hr hn q => by
    have G := goodD (A := A) (outer := outer) (s := s) (H := H) (E := E) O h F hm hcd hr hn (defsX_ok O k)
    have T1 := cXTs_ok (p := pB T cn) M.fu _ _ _ _ _ _ G (defBody d.st)
    rw [h.tx] at T1
    refine ⟨_, T1, fun _ => 0, ⟨[], [], false⟩, List.replicate d.N.length none, ⟨⟨fun n o e => by simp at e, fun i j hi => absurd hi (by simp [Sto.len]), fun _ b hb => by simp at hb, fun b hb => by simp at hb, fun b hb => by simp at hb⟩, q.2.1, ⟨?_, fun i d e => ?_⟩, trivial⟩, ?_⟩
    · simp only [List.length_replicate, L2.start, List.length_append, List.length_map, q.1]
      omega
    · rw [List.getElem?_replicate] at e
      split at e <;> cases e
    · unfold isRTX at ev
      split at ev
      · rename_i S' hS
        rw [hS]
        intro m' H' v X t r
        rw [show v = .bl true from r]
        exact q.2.2 H'
      · cases ev
/-! ### a law that looks at its script -/
def spNX (T : List (Addr × Str)) : Sp := fun vs H Q _ => LamX.Tabs T H ∧ ∃ (a : Addr) (ns : List Int) (o : Obj), vs = [.ref a] ∧ ns.length ≤ 63 ∧ H a = some (.frz o (.lst (ns.map V.int))) ∧ ∀ H', Q (.bl true) H'
theorem law_drawnX (O : XOk P w K mg base T cn M) (h : DxOk K mg base T M d lam b) (h1 : d.ps.length = 1) (F : FunD K d.x d.x (defArgs d.st) (defBody d.st) (defScope d.st) [] [] f fd) (hm : mg d.x = some (.ref f))
    (ev : ∀ ns : List Int, ns.length ≤ 63 → isRTX (xsvs b.2.2 (evAt M k) badAct (some (.ref 0) :: List.replicate (d.N.length - 1) none) ⟨[.frz (ns.map D.int)], [], false⟩) = true) (hN : 1 ≤ d.N.length) : FnE P w K mg base (k + 1) f fd d.ps (spNX T) :=
  fnE_of F h.sc (fun vs H Q E q => by obtain ⟨_, a, ns, o, rfl, _⟩ := q; exact h1.symm) fun cdv A outer s H vs Q E hcd hr hn q => by
    have G := goodD (A := A) (outer := outer) (s := s) (H := H) (E := E) O h F hm hcd hr hn (defsX_ok O k)
    have T1 := cXTs_ok (p := pB T cn) M.fu _ _ _ _ _ _ G (defBody d.st)
    rw [h.tx] at T1
    obtain ⟨tb, a, ns, o, rfl, hl, ha, q⟩ := q
    refine ⟨_, T1, fun _ => a, ⟨[.frz (ns.map D.int)], [], false⟩, some (.ref 0) :: List.replicate (d.N.length - 1) none, ⟨⟨fun n o' e => ?_, fun i j hi hj _ => ?_, fun _ b hb => by simp at hb, fun b hb => by simp at hb, fun b hb => by simp at hb⟩, tb, ⟨?_, fun i d' e => ?_⟩, trivial⟩, ?_⟩
    · cases n with
      | zero =>
        simp only [List.getElem?_cons_zero, Option.some.injEq] at e
        subst e
        exact ⟨_, o, ha, rds_ints ns⟩
      | succ n => simp at e
    · simp [Sto.len] at hi hj; omega
    · simp only [List.length_cons, List.length_replicate, L2.start, List.length_append, List.length_map, List.length_nil]
      omega
    · cases i with
      | zero =>
        simp only [List.getElem?_cons_zero, Option.some.injEq] at e
        subst e
        exact ⟨.ref a, rfl, by simp [Sto.len], rfl⟩
      | succ i =>
        rw [List.getElem?_cons_succ, List.getElem?_replicate] at e
        split at e <;> cases e
    · have ev := ev ns hl
      unfold isRTX at ev
      split at ev
      · rename_i S' hS
        rw [hS]
        intro m' H' v X t r
        rw [show v = .bl true from r]
        exact q H'
      · cases ev
end
/-! ### from the head's facts -/
def tT (K : Frg) (tf : List He.DefD) : List (Addr × Str) := tf.map fun d => ((He.cT K d.at_).2, lamQ d.at_.1)
def tC (K : Frg) (tf : List He.DefD) : List (Addr × Addr) := tf.map fun d => He.cT K d.at_
def cnK (K : Frg) : Str → Value := fun x => .ref (He.ga K x)
theorem tabs_of {K : Frg} {tf : List He.DefD} {H : Hp} (h : ∀ p ∈ tC K tf, H p.2 = some (.tbl #[])) : LamX.Tabs (tT K tf) H := fun p hp => by
  obtain ⟨d, hd, rfl⟩ := List.mem_map.mp hp
  exact LamX.TabS.nil (h _ (List.mem_map_of_mem hd))
theorem nodup_inj {α β : Type} {f : α → β} : ∀ {l : List α}, (l.map f).Nodup → ∀ {a b : α}, a ∈ l → b ∈ l → f a = f b → a = b
  | [], _, a, b, h, _, _ => nomatch h
  | x :: r, nd, a, b, ha, hb, e => by
    have nd2 := List.nodup_cons.mp nd
    rcases List.mem_cons.mp ha with e1 | h1
    · rcases List.mem_cons.mp hb with e2 | h2
      · rw [e1, e2]
      · exact absurd (show f x ∈ r.map f by rw [← e1, e]; exact List.mem_map_of_mem h2) nd2.1
    · rcases List.mem_cons.mp hb with e2 | h2
      · exact absurd (show f x ∈ r.map f by rw [← e2, ← e]; exact List.mem_map_of_mem h1) nd2.1
      · exact nodup_inj nd2.2 h1 h2 e
/-- the lambdas of a def -/
theorem lm_of {K : Frg} {D : XHd} {h base : Heap} {mg : Str → Option Value} {d : Df} {e : He.DefD} (c : SaysX D h K) (hF : ∃ f fd, FunD K d.x d.x (defArgs d.st) (defBody d.st) (defScope d.st) [] [] f fd ∧ mg d.x = some (.ref f)) (he : e ∈ D.tf) (hx : e.at_ = (d.x, none)) (hm : mg d.x = some (.ref (He.ga K d.x))) (tb : ∀ p ∈ tC K D.tf, LamX.TabB base mg p.1 p.2) :
    ∃ f c Pt, mg d.x = some (.ref f) ∧ (∀ oc od fd osl, K.lookup f = some ⟨oc, od, .func fd, osl⟩ → fd.code = .ref c) ∧ LamX.TabB base mg c Pt ∧ (Pt, lamQ d.x) ∈ tT K D.tf ∧ ∀ q ∈ tT K D.tf, q.1 = Pt → q.2 = lamQ d.x := by
  have hc := c.hd e he
  refine ⟨He.ga K d.x, (He.cT K e.at_).1, (He.cT K e.at_).2, hm, fun oc od fd osl lk => ?_, tb _ (List.mem_map_of_mem he), ?_, fun q hq hP => ?_⟩
  · have e1 : He.fAd K e.at_ = He.ga K d.x := by rw [hx]; rfl
    obtain ⟨f2, fd2, F, hm2⟩ := hF
    rw [hm] at hm2
    cases hm2
    obtain ⟨oc2, od2, dV, kV, doc, pm, an, cdv, ct, osl2, e2, lk2, hcd2, _, _⟩ := F.ex
    rw [lk] at lk2
    cases lk2
    obtain ⟨c1, e3⟩ := He.codeIn_ref hcd2
    have e4 : fd.code = .ref c1 := by rw [e2]; exact e3
    rw [e4]
    exact congrArg Value.ref (He.codeOf_eq (p := e.at_) (by rw [e1]; exact lk) e4).symm
  · have := List.mem_map_of_mem (f := fun d : He.DefD => ((He.cT K d.at_).2, lamQ d.at_.1)) he
    rw [hx] at this ⊢
    exact this
  · obtain ⟨d2, hd2, rfl⟩ := List.mem_map.mp hq
    have := nodup_inj c.nd hd2 he hP
    rw [this, hx]
end Sw

/-! B12: what the end of a law with exceptions leans on. -/
namespace Sw
open PySem PySem.Spec PyProof.Rows L2
/-- __init__ of a class as written -/
def initSt (s : Stmt) : Stmt := match s with
  | .ClassDef _ _ _ body _ _ _ _ _ _ _ => (body.find? fun t => match t with
    | .FunctionDef n _ _ _ _ _ _ _ _ _ => n == ("__init__" : Str)
    | _ => false).getD s
  | _ => s
section
variable {D : XHd} {h : Heap} {K : Frg} {P : Program} {mg : Str → Option Value}
theorem ek_of (c : SaysX D h K) {d : ExD} (hd : d ∈ D.ec) (hs : d.syn = true) (hf : ((P.main.file : Str) == D.fl) = true) (hsup : (P.main.scope.names.lookup ("super" : Str)).isSome = false)
    (hb : ∀ (q : Str) (kV doc pm cdv ct : Value) (an : Option Addr) (cc : Addr) (us : List Value), us.length = d.fn.length + 1 → bindArgs (PySem.W.ksFn "__init__" q d.params d.body d.scope .none kV doc pm an cdv ct cc) ⟨us, []⟩ = pure ((("self" : Str) :: d.fn).zip us))
    (hm : mg d.x = some (.ref (He.ga K d.x))) (hx : (d.x == ("__debug__" : Str)) = false) (hl : d.fn.length ≤ 800) : ∃ Ca, cnK K d.x = .ref Ca ∧ ExK P K Ca d.fn ∧ XfC K Ca ∧ mg d.x = some (.ref Ca) ∧ d.fn.length ≤ 800 ∧ (d.x == ("__debug__" : Str)) = false := by
  obtain ⟨K0, s, hga, hB, hV⟩ := c.ex d hd
  obtain ⟨h1, h2⟩ := exB_ok hB hV hs hf hsup hb
  rw [hga] at h1 h2
  exact ⟨_, rfl, h1.mono s, XfC.mono s h2, hm, hl, hx⟩
theorem ek_nil : ∀ c fn, ([] : List (Str × List Str)).lookup c = some fn → ∃ Ca, cnK K c = .ref Ca ∧ ExK P K Ca fn ∧ XfC K Ca ∧ mg c = some (.ref Ca) ∧ fn.length ≤ 800 ∧ (c == ("__debug__" : Str)) = false := fun _ _ h => nomatch h
theorem ek_cons {x : Str} {f : List Str} {l : List (Str × List Str)} (h : ∃ Ca, cnK K x = .ref Ca ∧ ExK P K Ca f ∧ XfC K Ca ∧ mg x = some (.ref Ca) ∧ f.length ≤ 800 ∧ (x == ("__debug__" : Str)) = false) (r : ∀ c fn, l.lookup c = some fn → ∃ Ca, cnK K c = .ref Ca ∧ ExK P K Ca fn ∧ XfC K Ca ∧ mg c = some (.ref Ca) ∧ fn.length ≤ 800 ∧ (c == ("__debug__" : Str)) = false) :
    ∀ c fn, ((x, f) :: l).lookup c = some fn → ∃ Ca, cnK K c = .ref Ca ∧ ExK P K Ca fn ∧ XfC K Ca ∧ mg c = some (.ref Ca) ∧ fn.length ≤ 800 ∧ (c == ("__debug__" : Str)) = false := fun c fn hl => by
  rw [List.lookup_cons] at hl
  split at hl
  · rename_i hb
    cases hl
    rw [eq_of_beq hb]
    exact h
  · exact r c fn hl
theorem lookup_memS {α β : Type} [BEq α] [LawfulBEq α] {k : α} {v : β} : ∀ {l : List (α × β)}, l.lookup k = some v → (k, v) ∈ l
  | [], h => nomatch h
  | (a, b) :: r, h => by
    rw [List.lookup_cons] at h
    split at h
    · rename_i hb
      cases h
      rw [eq_of_beq hb]
      exact List.mem_cons_self
    · exact List.mem_cons_of_mem _ (lookup_memS h)
theorem sb_of (c : SaysX D h K) : ∀ c1 c2 b, D.sb.lookup (c1, c2) = some b → PySem.W.exmOne K (cnK K c1) (cnK K c2) = some b := fun c1 c2 b hl => c.sb _ (lookup_memS hl)
/-- the walk's facts of the law's call -/
theorem lawAt_of {l : PySem.W.OpenLaw} {w : World} {k n : Nat} {x : Str} {fa : Addr} {fd : FuncData} (KX : K.In h) (c : SaysX D h K) (hb : ∀ (s : Shared) (u : Value), BindsTo s fd ⟨[u], []⟩ [(x, u)])
    (F : ∀ base : Heap, K.In base → base.Ns mainGlobals mg → (∀ p ∈ tC K D.tf, LamX.TabB base mg p.1 p.2) → FnE l.prog w K mg base k fa fd [x] (spGX (tT K D.tf))) : LawAtX l w k n x mg fa h :=
  ⟨K, fd, tC K D.tf, spGX (tT K D.tf), KX, fun p hp => by obtain ⟨d, hd, rfl⟩ := List.mem_map.mp hp; exact c.empty d hd, fun p hp => by obtain ⟨d, hd, rfl⟩ := List.mem_map.mp hp; exact c.out d hd,
    fun p hp => by obtain ⟨d, hd, rfl⟩ := List.mem_map.mp hp; exact PySem.W.codeHd_of_K KX (c.hd d hd), hb, fun H a ns _ hH _ _ => ⟨rfl, tabs_of hH, fun _ => rfl⟩, F⟩
theorem lawAt_ofN {l : PySem.W.OpenLaw} {w : World} {k : Nat} {x : Str} {fa : Addr} {fd : FuncData} (KX : K.In h) (c : SaysX D h K) (hb : ∀ (s : Shared) (u : Value), BindsTo s fd ⟨[u], []⟩ [(x, u)])
    (F : ∀ base : Heap, K.In base → base.Ns mainGlobals mg → (∀ p ∈ tC K D.tf, LamX.TabB base mg p.1 p.2) → FnE l.prog w K mg base k fa fd [x] (spNX (tT K D.tf))) : LawAtX l w k 63 x mg fa h :=
  ⟨K, fd, tC K D.tf, spNX (tT K D.tf), KX, fun p hp => by obtain ⟨d, hd, rfl⟩ := List.mem_map.mp hp; exact c.empty d hd, fun p hp => by obtain ⟨d, hd, rfl⟩ := List.mem_map.mp hp; exact c.out d hd,
    fun p hp => by obtain ⟨d, hd, rfl⟩ := List.mem_map.mp hp; exact PySem.W.codeHd_of_K KX (c.hd d hd), hb, fun H a ns hl hH hO hS => ⟨tabs_of hH, by
      rcases hS with (hs | ⟨o, hs⟩) | ⟨o, its, n, hs, hc, _⟩
      · rcases hO a with z | z | ⟨o, xs, z⟩
        · rw [z] at hs; cases hs
        · obtain ⟨q, hq, e⟩ := List.mem_map.mp z
          have := hH q hq
          rw [e, hs] at this
          cases this
        · rw [z] at hs; cases hs
      · exact ⟨a, ns, o, rfl, hl, hs, fun _ => rfl⟩
      · exact absurd hc (noLists_ok c.n.2 hs)⟩, F⟩
end
end Sw

namespace K21
open PySem PySem.Spec PyProof.Rows L2 Sw
def top (i : Nat) : Stmt := PySem.Challenge.pw_swaprails_k21_papers_by_hand.main.body.getD i (.Pass ⟨0, 0, 0, 0⟩)
def d0 : Df := ⟨"is_integer", top 12, ["value", "least", "most"], ["value", "least", "most"], false, 200, [], false⟩
def b0 : Bd := ⟨3, 3, (.cons (.ret (.and (.isi [.int] (.var 0)) (.and (.not (.isi [.bool] (.var 0))) (.chain .le .le (.var 1) (.var 0) (.var 2))))) .nil)⟩
def d1 : Df := ⟨"are_lengths", top 13, ["value"], ["value", "one"], false, 200, [], false⟩
def b1 : Bd := ⟨2, 1, (.cons (.ite (.or (.not (.isi [.tuple] (.var 0))) (.not (.chain .le .le (.lit (.int 1)) (.bi .len (.cons (.var 0) .nil)) (.lit (.int 10))))) (.cons (.ret (.lit (.bl false))) .nil) .nil) (.cons (.ret (.bi .all (.cons (.comp (.e (.var 0)) [1] (.name 1) (.lit (.bl true)) (.call 0 (.cons (.var 1) (.cons (.lit (.int 2)) (.cons (.lit (.int 9)) .nil))))) .nil))) .nil))⟩
def d2 : Df := ⟨"is_pair_to", top 14, ["value", "most"], ["value", "most"], false, 200, [], false⟩
def b2 : Bd := ⟨2, 2, (.cons (.ret (.and (.isi [.tuple] (.var 0)) (.and (.cmp .eq (.bi .len (.cons (.var 0) .nil)) (.lit (.int 2))) (.and (.call 0 (.cons (.ix (.var 0) (.lit (.int 0))) (.cons (.lit (.int 0)) (.cons (.var 1) .nil)))) (.call 0 (.cons (.ix (.var 0) (.lit (.int 1))) (.cons (.lit (.int 0)) (.cons (.lit (.int 1)) .nil)))))))) .nil)⟩
def d3 : Df := ⟨"is_branch", top 15, ["value", "most"], ["value", "most"], false, 200, [], false⟩
def b3 : Bd := ⟨2, 2, (.cons (.ret (.and (.isi [.tuple] (.var 0)) (.and (.cmp .eq (.bi .len (.cons (.var 0) .nil)) (.lit (.int 2))) (.and (.call 2 (.cons (.ix (.var 0) (.lit (.int 0))) (.cons (.var 1) .nil))) (.call 0 (.cons (.ix (.var 0) (.lit (.int 1))) (.cons (.lit (.int 0)) (.cons (.lit (.int 1)) .nil)))))))) .nil)⟩
def d4 : Df := ⟨"is_joint", top 16, ["value", "most"], ["value", "most", "one"], false, 200, [], false⟩
def b4 : Bd := ⟨3, 2, (.cons (.ite (.or (.not (.isi [.tuple] (.var 0))) (.or (.cmp .ne (.bi .len (.cons (.var 0) .nil)) (.lit (.int 2))) (.not (.call 2 (.cons (.ix (.var 0) (.lit (.int 0))) (.cons (.var 1) .nil)))))) (.cons (.ret (.lit (.bl false))) .nil) .nil) (.cons (.ite (.or (.not (.isi [.tuple] (.ix (.var 0) (.lit (.int 1))))) (.not (.chain .le .le (.lit (.int 1)) (.bi .len (.cons (.ix (.var 0) (.lit (.int 1))) .nil)) (.lit (.int 3))))) (.cons (.ret (.lit (.bl false))) .nil) .nil) (.cons (.ret (.bi .all (.cons (.comp (.e (.ix (.var 0) (.lit (.int 1)))) [2] (.name 2) (.lit (.bl true)) (.call 3 (.cons (.var 2) (.cons (.var 1) .nil)))) .nil))) .nil)))⟩
def d5 : Df := ⟨"all_ends", top 17, ["joint"], ["joint", "branch"], false, 200, [], false⟩
def b5 : Bd := ⟨2, 1, (.cons (.ret (.bin .add (.lst (.cons (.ix (.var 0) (.lit (.int 0))) .nil)) (.comp (.e (.ix (.var 0) (.lit (.int 1)))) [1] (.name 1) (.lit (.bl true)) (.ix (.var 1) (.lit (.int 0)))))) .nil)⟩
def d6 : Df := ⟨"are_feeds", top 18, ["value", "most"], ["value", "most", "one", "other"], false, 200, [], false⟩
def b6 : Bd := ⟨4, 2, (.cons (.ite (.or (.not (.isi [.tuple] (.var 0))) (.not (.bi .all (.cons (.comp (.e (.var 0)) [2] (.name 2) (.lit (.bl true)) (.call 2 (.cons (.var 2) (.cons (.var 1) .nil)))) .nil)))) (.cons (.ret (.lit (.bl false))) .nil) .nil) (.cons (.ret (.bi .all (.cons (.comp (.zip (.cons (.var 0) (.cons (.sl (.var 0) (.some (.lit (.int 1))) .none) .nil))) [2, 3] (.tup 2 (.cons (.name 2) (.cons (.name 3) .nil))) (.lit (.bl true)) (.cmp .lt (.ix (.var 2) (.lit (.int 0))) (.ix (.var 3) (.lit (.int 0))))) .nil))) .nil))⟩
def d7 : Df := ⟨"wrong_joint", top 19, ["joints", "most"], ["joints", "most", "met", "number", "joint", "end"], false, 200, [], false⟩
def b7 : Bd := ⟨6, 2, (.cons (.asg (.lst .nil) (.name 2)) (.cons (.fo (.enum (.cons (.var 0) .nil)) (.tup 2 (.cons (.name 3) (.cons (.name 4) .nil))) (.cons (.ite (.not (.call 4 (.cons (.var 4) (.cons (.var 1) .nil)))) (.cons (.ret (.var 3)) .nil) .nil) (.cons (.fo (.e (.call 5 (.cons (.var 4) .nil))) (.name 5) (.cons (.ite (.cmp .is_in (.var 5) (.var 2)) (.cons (.ret (.var 3)) .nil) .nil) (.cons (.expr (.meth .append (.var 2) (.cons (.var 5) .nil))) .nil))) .nil))) (.cons (.ret (.lit .non)) .nil)))⟩
def d8 : Df := ⟨"need_layout", top 20, ["thing"], ["thing", "most", "number"], false, 200, [], false⟩
def b8 : Bd := ⟨3, 1, (.cons (.ite (.or (.not (.isi [.tuple] (.var 0))) (.cmp .ne (.bi .len (.cons (.var 0) .nil)) (.lit (.int 3)))) (.cons .bad .nil) .nil) (.cons (.ite (.not (.call 1 (.cons (.ix (.var 0) (.lit (.int 0))) .nil))) (.cons .bad .nil) .nil) (.cons (.asg (.bin .sub (.bi .len (.cons (.ix (.var 0) (.lit (.int 0))) .nil)) (.lit (.int 1))) (.name 1)) (.cons (.ite (.or (.not (.isi [.tuple] (.ix (.var 0) (.lit (.int 1))))) (.cmp .gt (.bi .len (.cons (.ix (.var 0) (.lit (.int 1))) .nil)) (.lit (.int 10)))) (.cons .bad .nil) .nil) (.cons (.asg (.call 7 (.cons (.ix (.var 0) (.lit (.int 1))) (.cons (.var 1) .nil))) (.name 2)) (.cons (.ite (.cmp .isNot (.var 2) (.lit .non)) (.cons .bad .nil) .nil) (.cons (.ite (.not (.call 6 (.cons (.ix (.var 0) (.lit (.int 2))) (.cons (.var 1) .nil)))) (.cons .bad .nil) .nil) (.cons (.ret (.var 0)) .nil))))))))⟩
def d9 : Df := ⟨"links_of", top 21, ["layout"], ["layout", "found", "number", "joint", "place"], false, 200, [], false⟩
def b9 : Bd := ⟨5, 1, (.cons (.asg (.lst .nil) (.name 1)) (.cons (.fo (.enum (.cons (.ix (.var 0) (.lit (.int 1))) .nil)) (.tup 2 (.cons (.name 2) (.cons (.name 3) .nil))) (.cons (.aug 1 .add (.comp (.range1 (.cons (.bi .len (.cons (.ix (.var 3) (.lit (.int 1))) .nil)) .nil)) [4] (.name 4) (.lit (.bl true)) (.tup (.cons (.var 2) (.cons (.var 4) .nil))))) .nil)) (.cons (.ret (.var 1)) .nil)))⟩
def d10 : Df := ⟨"is_link", top 22, ["layout", "value"], ["layout", "value"], false, 200, [], false⟩
def b10 : Bd := ⟨2, 2, (.cons (.ite (.or (.not (.isi [.tuple] (.var 1))) (.or (.cmp .ne (.bi .len (.cons (.var 1) .nil)) (.lit (.int 2))) (.not (.call 0 (.cons (.ix (.var 1) (.lit (.int 0))) (.cons (.lit (.int 0)) (.cons (.bin .sub (.bi .len (.cons (.ix (.var 0) (.lit (.int 1))) .nil)) (.lit (.int 1))) .nil))))))) (.cons (.ret (.lit (.bl false))) .nil) .nil) (.cons (.ret (.call 0 (.cons (.ix (.var 1) (.lit (.int 1))) (.cons (.lit (.int 0)) (.cons (.bin .sub (.bi .len (.cons (.ix (.ix (.ix (.var 0) (.lit (.int 1))) (.ix (.var 1) (.lit (.int 0)))) (.lit (.int 1))) .nil)) (.lit (.int 1))) .nil))))) .nil))⟩
def d11 : Df := ⟨"ends_in", top 23, ["layout", "link"], ["layout", "link", "joint"], false, 200, [], false⟩
def b11 : Bd := ⟨3, 2, (.cons (.asg (.ix (.ix (.var 0) (.lit (.int 1))) (.ix (.var 1) (.lit (.int 0)))) (.name 2)) (.cons (.ret (.tup (.cons (.ix (.var 2) (.lit (.int 0))) (.cons (.ix (.ix (.ix (.var 2) (.lit (.int 1))) (.ix (.var 1) (.lit (.int 1)))) (.lit (.int 0))) .nil)))) .nil))⟩
def d12 : Df := ⟨"is_cut_in", top 24, ["layout", "link"], ["layout", "link"], false, 200, [], false⟩
def b12 : Bd := ⟨2, 2, (.cons (.ret (.cmp .eq (.ix (.ix (.ix (.ix (.ix (.var 0) (.lit (.int 1))) (.ix (.var 1) (.lit (.int 0)))) (.lit (.int 1))) (.ix (.var 1) (.lit (.int 1)))) (.lit (.int 1))) (.lit (.int 1)))) .nil)⟩
def d13 : Df := ⟨"crossing", top 25, ["layout", "link"], ["layout", "link", "one", "other"], false, 200, [], false⟩
def b13 : Bd := ⟨4, 2, (.cons (.asg (.call 11 (.cons (.var 0) (.cons (.var 1) .nil))) (.tup 2 (.cons (.name 2) (.cons (.name 3) .nil)))) (.cons (.ret (.bi .int (.cons (.cmp .eq (.ix (.var 2) (.lit (.int 1))) (.ix (.var 3) (.lit (.int 1)))) .nil))) .nil))⟩
def d14 : Df := ⟨"link_between", top 26, ["layout", "one", "other"], ["layout", "one", "other", "link"], false, 200, [], false⟩
def b14 : Bd := ⟨4, 3, (.cons (.fo (.e (.call 9 (.cons (.var 0) .nil))) (.name 3) (.cons (.ite (.cmp .is_in (.call 11 (.cons (.var 0) (.cons (.var 3) .nil))) (.tup (.cons (.tup (.cons (.var 1) (.cons (.var 2) .nil))) (.cons (.tup (.cons (.var 2) (.cons (.var 1) .nil))) .nil)))) (.cons (.ret (.var 3)) .nil) .nil) .nil)) (.cons (.ret (.lit .non)) .nil))⟩
def d15 : Df := ⟨"need_span", top 31, ["layout", "span"], ["layout", "span", "link"], false, 200, [], false⟩
def b15 : Bd := ⟨3, 2, (.cons (.expr (.call 8 (.cons (.var 0) .nil))) (.cons (.ite (.or (.not (.isi [.list, .tuple] (.var 1))) (.not (.bi .all (.cons (.comp (.e (.var 1)) [2] (.name 2) (.lit (.bl true)) (.call 10 (.cons (.var 0) (.cons (.var 2) .nil)))) .nil)))) (.cons .bad .nil) .nil) .nil))⟩
def d16 : Df := ⟨"ties_in", top 32, ["layout", "span"], ["layout", "span", "found", "link", "one", "other", "piece", "bit"], false, 200, [], false⟩
def b16 : Bd := ⟨8, 2, (.cons (.asg (.lst .nil) (.name 2)) (.cons (.fo (.e (.call 9 (.cons (.var 0) .nil))) (.name 3) (.cons (.ite (.or (.not (.call 12 (.cons (.var 0) (.cons (.var 3) .nil)))) (.cmp .is_in (.var 3) (.var 1))) (.cons (.asg (.call 11 (.cons (.var 0) (.cons (.var 3) .nil))) (.tup 2 (.cons (.name 4) (.cons (.name 5) .nil)))) (.cons (.expr (.meth .append (.var 2) (.cons (.tup (.cons (.ix (.var 4) (.lit (.int 0))) (.cons (.ix (.var 5) (.lit (.int 0))) (.cons (.call 13 (.cons (.var 0) (.cons (.var 3) .nil))) (.cons (.tup (.cons (.lit (.str "link")) (.cons (.ix (.var 3) (.lit (.int 0))) (.cons (.ix (.var 3) (.lit (.int 1))) .nil)))) .nil))))) .nil))) .nil)) .nil) .nil)) (.cons (.ret (.bin .add (.var 2) (.comp (.e (.ix (.var 0) (.lit (.int 2)))) [6, 7] (.tup 2 (.cons (.name 6) (.cons (.name 7) .nil))) (.lit (.bl true)) (.tup (.cons (.var 6) (.cons (.lit (.int (-1))) (.cons (.var 7) (.cons (.tup (.cons (.lit (.str "feed")) (.cons (.var 6) .nil))) .nil)))))))) .nil)))⟩
def d17 : Df := ⟨"spread", top 33, ["ties", "node", "sign", "known"], ["ties", "node", "sign", "known", "waiting", "here", "one", "other", "unlike", "step", "near", "far", "due"], false, 200, [], false⟩
def b17 : Bd := ⟨13, 4, (.cons (.put (.var 3) (.var 1) (.var 2)) (.cons (.asg (.lst (.cons (.var 1) .nil)) (.name 4)) (.cons (.wh 200 (.cmp .ne (.var 4) (.lst .nil)) (.cons (.asg (.meth .pop (.var 4) .nil) (.name 5)) (.cons (.fo (.e (.var 0)) (.tup 4 (.cons (.name 6) (.cons (.name 7) (.cons (.name 8) (.cons (.name 9) .nil))))) (.cons (.fo (.e (.tup (.cons (.tup (.cons (.var 6) (.cons (.var 7) .nil))) (.cons (.tup (.cons (.var 7) (.cons (.var 6) .nil))) .nil)))) (.tup 2 (.cons (.name 10) (.cons (.name 11) .nil))) (.cons (.ite (.cmp .eq (.var 10) (.var 5)) (.cons (.asg (.bi .int (.cons (.cmp .ne (.ix (.var 3) (.var 10)) (.var 8)) .nil)) (.name 12)) (.cons (.ite (.cmp .notIn (.var 11) (.var 3)) (.cons (.put (.var 3) (.var 11) (.var 12)) (.cons (.expr (.meth .append (.var 4) (.cons (.var 11) .nil))) .nil)) (.cons (.ite (.cmp .ne (.ix (.var 3) (.var 11)) (.var 12)) (.cons (.ret (.lit (.bl false))) .nil) .nil) .nil)) .nil)) .nil) .nil)) .nil)) .nil))) (.cons (.ret (.lit (.bl true))) .nil))))⟩
def d18 : Df := ⟨"signs_in", top 34, ["layout", "span"], ["layout", "span", "piece", "ties", "known"], false, 200, [], false⟩
def b18 : Bd := ⟨5, 2, (.cons (.asg (.tup (.cons (.call 16 (.cons (.var 0) (.cons (.var 1) .nil))) (.cons (.dnew false) .nil))) (.tup 2 (.cons (.name 3) (.cons (.name 4) .nil)))) (.cons (.ite (.not (.call 17 (.cons (.var 3) (.cons (.lit (.int (-1))) (.cons (.lit (.int 0)) (.cons (.var 4) .nil)))))) (.cons (.ret (.lit .non)) .nil) .nil) (.cons (.fo (.range1 (.cons (.bi .len (.cons (.ix (.var 0) (.lit (.int 0))) .nil)) .nil)) (.name 2) (.cons (.ite (.and (.cmp .notIn (.var 2) (.var 4)) (.not (.call 17 (.cons (.var 3) (.cons (.var 2) (.cons (.lit (.int 0)) (.cons (.var 4) .nil))))))) (.cons (.ret (.lit .non)) .nil) .nil) .nil)) (.cons (.ret (.bi .tuple (.cons (.comp (.range1 (.cons (.bi .len (.cons (.ix (.var 0) (.lit (.int 0))) .nil)) .nil)) [2] (.name 2) (.lit (.bl true)) (.ix (.var 4) (.var 2))) .nil))) .nil))))⟩
def d19 : Df := ⟨"is_round", top 35, ["ties", "begin", "value"], ["ties", "begin", "value", "step", "here", "odd", "some", "one", "other", "unlike", "same", "tie"], false, 200, [], false⟩
def b19 : Bd := ⟨12, 3, (.cons (.asg (.tup (.cons (.var 1) (.cons (.lit (.int 0)) .nil))) (.tup 2 (.cons (.name 4) (.cons (.name 5) .nil)))) (.cons (.fo (.e (.var 2)) (.name 3) (.cons (.asg (.comp (.e (.var 0)) [11] (.name 11) (.and (.cmp .eq (.ix (.var 11) (.lit (.int 3))) (.var 3)) (.cmp .is_in (.var 4) (.sl (.var 11) .none (.some (.lit (.int 2)))))) (.var 11)) (.name 6)) (.cons (.ite (.cmp .eq (.var 6) (.lst .nil)) (.cons (.ret (.lit (.bl false))) .nil) .nil) (.cons (.asg (.ix (.var 6) (.lit (.int 0))) (.tup 4 (.cons (.name 7) (.cons (.name 8) (.cons (.name 9) (.cons (.name 10) .nil)))))) (.cons (.asg (.tup (.cons (.ite (.cmp .eq (.var 4) (.var 7)) (.var 8) (.var 7)) (.cons (.bi .int (.cons (.cmp .ne (.var 5) (.var 9)) .nil)) .nil))) (.tup 2 (.cons (.name 4) (.cons (.name 5) .nil)))) .nil))))) (.cons (.ret (.and (.cmp .eq (.var 4) (.var 1)) (.cmp .eq (.var 5) (.lit (.int 1))))) .nil)))⟩
def d20 : Df := ⟨"is_step", top 36, ["layout", "value"], ["layout", "value"], false, 200, [], false⟩
def b20 : Bd := ⟨2, 2, (.cons (.ite (.or (.not (.isi [.tuple] (.var 1))) (.or (.cmp .eq (.var 1) (.tup .nil)) (.not (.isi [.str] (.ix (.var 1) (.lit (.int 0))))))) (.cons (.ret (.lit (.bl false))) .nil) .nil) (.cons (.ite (.cmp .eq (.ix (.var 1) (.lit (.int 0))) (.lit (.str "link"))) (.cons (.ret (.call 10 (.cons (.var 0) (.cons (.sl (.var 1) (.some (.lit (.int 1))) .none) .nil)))) .nil) .nil) (.cons (.ret (.and (.cmp .eq (.ix (.var 1) (.lit (.int 0))) (.lit (.str "feed"))) (.and (.cmp .eq (.bi .len (.cons (.var 1) .nil)) (.lit (.int 2))) (.call 0 (.cons (.ix (.var 1) (.lit (.int 1))) (.cons (.lit (.int 0)) (.cons (.bin .sub (.bi .len (.cons (.ix (.var 0) (.lit (.int 0))) .nil)) (.lit (.int 1))) .nil))))))) .nil)))⟩
def d21 : Df := ⟨"is_odd_in", top 37, ["layout", "span", "value"], ["layout", "span", "value", "ties", "begin", "step"], false, 200, [], false⟩
def b21 : Bd := ⟨6, 3, (.cons (.ite (.or (.not (.isi [.tuple] (.var 2))) (.or (.cmp .eq (.var 2) (.tup .nil)) (.not (.bi .all (.cons (.comp (.e (.var 2)) [5] (.name 5) (.lit (.bl true)) (.call 20 (.cons (.var 0) (.cons (.var 5) .nil)))) .nil))))) (.cons (.ret (.lit (.bl false))) .nil) .nil) (.cons (.asg (.call 16 (.cons (.var 0) (.cons (.var 1) .nil))) (.name 3)) (.cons (.ret (.bi .any (.cons (.comp (.range2 (.cons (.lit (.int (-1))) (.cons (.bi .len (.cons (.ix (.var 0) (.lit (.int 0))) .nil)) .nil))) [4] (.name 4) (.lit (.bl true)) (.call 19 (.cons (.var 3) (.cons (.var 4) (.cons (.var 2) .nil))))) .nil))) .nil)))⟩
def d22 : Df := ⟨"is_odd", top 38, ["layout", "span", "value"], ["layout", "span", "value"], false, 200, [], false⟩
def b22 : Bd := ⟨3, 3, (.cons (.expr (.call 15 (.cons (.var 0) (.cons (.var 1) .nil)))) (.cons (.ret (.call 21 (.cons (.var 0) (.cons (.var 1) (.cons (.var 2) .nil))))) .nil))⟩
def d23 : Df := ⟨"links_along", top 40, ["layout", "route"], ["layout", "route", "found", "piece", "to", "other", "way"], false, 200, [], false⟩
def b23 : Bd := ⟨7, 2, (.cons (.asg (.lst .nil) (.name 2)) (.cons (.fo (.zip (.cons (.var 1) (.cons (.sl (.var 1) (.some (.lit (.int 1))) .none) .nil))) (.tup 2 (.cons (.tup 2 (.cons (.name 3) (.cons (.name 4) .nil))) (.cons (.tup 2 (.cons (.name 5) (.cons (.name 6) .nil))) .nil))) (.cons (.expr (.meth .append (.var 2) (.cons (.call 14 (.cons (.var 0) (.cons (.tup (.cons (.var 3) (.cons (.var 4) .nil))) (.cons (.tup (.cons (.var 5) (.cons (.bin .sub (.lit (.int 1)) (.var 6)) .nil))) .nil)))) .nil))) .nil)) (.cons (.ret (.var 2)) .nil)))⟩
def d24 : Df := ⟨"is_route", top 41, ["layout", "value"], ["layout", "value", "inner", "one"], false, 200, [], false⟩
def b24 : Bd := ⟨4, 2, (.cons (.ite (.or (.not (.isi [.tuple] (.var 1))) (.or (.cmp .eq (.var 1) (.tup .nil)) (.not (.bi .all (.cons (.comp (.e (.var 1)) [3] (.name 3) (.lit (.bl true)) (.call 2 (.cons (.var 3) (.cons (.bin .sub (.bi .len (.cons (.ix (.var 0) (.lit (.int 0))) .nil)) (.lit (.int 1))) .nil)))) .nil))))) (.cons (.ret (.lit (.bl false))) .nil) .nil) (.cons (.asg (.ite (.and (.cmp .gt (.bi .len (.cons (.var 1) .nil)) (.lit (.int 1))) (.cmp .eq (.ix (.var 1) (.lit (.int 0))) (.ix (.var 1) (.neg (.lit (.int 1)))))) (.sl (.var 1) .none (.some (.neg (.lit (.int 1))))) (.var 1)) (.name 2)) (.cons (.ite (.cmp .lt (.scl (.e (.var 2)) [3] (.name 3) (.lit (.bl true)) (.ix (.var 3) (.lit (.int 0)))) (.bi .len (.cons (.var 2) .nil))) (.cons (.ret (.lit (.bl false))) .nil) .nil) (.cons (.ret (.cmp .notIn (.lit .non) (.call 23 (.cons (.var 0) (.cons (.var 1) .nil))))) .nil))))⟩
def d25 : Df := ⟨"is_stand_in", top 42, ["layout", "value"], ["layout", "value", "route", "tail", "head", "first", "last"], false, 200, [], false⟩
def b25 : Bd := ⟨7, 2, (.cons (.ite (.or (.not (.isi [.tuple] (.var 1))) (.or (.cmp .ne (.bi .len (.cons (.var 1) .nil)) (.lit (.int 3))) (.not (.call 24 (.cons (.var 0) (.cons (.ix (.var 1) (.lit (.int 0))) .nil)))))) (.cons (.ret (.lit (.bl false))) .nil) .nil) (.cons (.asg (.var 1) (.tup 3 (.cons (.name 2) (.cons (.name 3) (.cons (.name 4) .nil))))) (.cons (.asg (.tup (.cons (.ix (.ix (.var 0) (.lit (.int 0))) (.ix (.ix (.var 2) (.lit (.int 0))) (.lit (.int 0)))) (.cons (.ix (.ix (.var 0) (.lit (.int 0))) (.ix (.ix (.var 2) (.neg (.lit (.int 1)))) (.lit (.int 0)))) .nil))) (.tup 2 (.cons (.name 5) (.cons (.name 6) .nil)))) (.cons (.ite (.or (.not (.call 0 (.cons (.var 3) (.cons (.lit (.int 0)) (.cons (.bin .sub (.var 5) (.lit (.int 1))) .nil))))) (.not (.call 0 (.cons (.var 4) (.cons (.lit (.int 1)) (.cons (.var 6) .nil)))))) (.cons (.ret (.lit (.bl false))) .nil) .nil) (.cons (.ite (.cmp .eq (.bi .len (.cons (.var 2) .nil)) (.lit (.int 1))) (.cons (.ret (.cmp .ge (.bin .sub (.var 4) (.var 3)) (.lit (.int 2)))) .nil) .nil) (.cons (.ret (.or (.cmp .ne (.ix (.ix (.var 2) (.lit (.int 0))) (.lit (.int 0))) (.ix (.ix (.var 2) (.neg (.lit (.int 1)))) (.lit (.int 0)))) (.cmp .le (.var 4) (.var 3)))) .nil))))))⟩
def d26 : Df := ⟨"cells_in", top 43, ["layout", "stand"], ["layout", "stand", "found", "route", "tail", "head", "place", "many", "row", "piece", "to", "begin", "end", "number"], false, 200, [], false⟩
def b26 : Bd := ⟨14, 2, (.cons (.asg (.var 1) (.tup 3 (.cons (.name 3) (.cons (.name 4) (.cons (.name 5) .nil))))) (.cons (.asg (.lst .nil) (.name 2)) (.cons (.fo (.enum (.cons (.var 3) .nil)) (.tup 2 (.cons (.name 6) (.cons (.tup 2 (.cons (.name 9) (.cons (.name 10) .nil))) .nil))) (.cons (.asg (.ix (.ix (.var 0) (.lit (.int 0))) (.var 9)) (.name 7)) (.cons (.asg (.comp (.range1 (.cons (.var 7) .nil)) [13] (.name 13) (.lit (.bl true)) (.tup (.cons (.var 9) (.cons (.ite (.cmp .eq (.var 10) (.lit (.int 1))) (.var 13) (.bin .sub (.bin .sub (.var 7) (.lit (.int 1))) (.var 13))) .nil)))) (.name 8)) (.cons (.asg (.tup (.cons (.ite (.cmp .eq (.var 6) (.lit (.int 0))) (.var 4) (.lit (.int 0))) (.cons (.ite (.cmp .eq (.var 6) (.bin .sub (.bi .len (.cons (.var 3) .nil)) (.lit (.int 1)))) (.var 5) (.var 7)) .nil))) (.tup 2 (.cons (.name 11) (.cons (.name 12) .nil)))) (.cons (.aug 2 .add (.sl (.var 8) (.some (.var 11)) (.some (.var 12)))) .nil))))) (.cons (.ret (.var 2)) .nil))))⟩
def d27 : Df := ⟨"need_sound", top 45, ["layout"], ["layout"], false, 200, [], false⟩
def b27 : Bd := ⟨1, 1, (.cons (.ite (.cmp .is (.call 18 (.cons (.call 8 (.cons (.var 0) .nil)) (.cons (.tup .nil) .nil))) (.lit .non)) (.cons .bad .nil) .nil) .nil)⟩
def d28 : Df := ⟨"is_bad_by", top 46, ["layout", "stand"], ["layout", "stand"], false, 200, [], false⟩
def b28 : Bd := ⟨2, 2, (.cons (.ret (.cmp .is (.call 18 (.cons (.var 0) (.cons (.call 23 (.cons (.var 0) (.cons (.ix (.var 1) (.lit (.int 0))) .nil))) .nil))) (.lit .non))) .nil)⟩
def d29 : Df := ⟨"settings_in", top 48, ["layout"], ["layout", "found", "joint", "setting", "place"], false, 200, [], false⟩
def b29 : Bd := ⟨5, 1, (.cons (.asg (.lst (.cons (.tup .nil) .nil)) (.name 1)) (.cons (.fo (.e (.ix (.var 0) (.lit (.int 1)))) (.name 2) (.cons (.asg (.comp2 (.e (.var 1)) [3, 4] (.name 3) (.lit (.bl true)) (.range1 (.cons (.bi .len (.cons (.ix (.var 2) (.lit (.int 1))) .nil)) .nil)) [4] (.name 4) (.lit (.bl true)) (.tup (.star (.var 3) (.cons (.var 4) .nil)))) (.name 1)) .nil)) (.cons (.ret (.var 1)) .nil)))⟩
def d30 : Df := ⟨"chosen_in", top 49, ["setting"], ["setting"], false, 200, [], false⟩
def b30 : Bd := ⟨1, 1, (.cons (.ret (.lenum (.cons (.var 0) .nil))) .nil)⟩
def d31 : Df := ⟨"is_crowd_in", top 50, ["layout", "value"], ["layout", "value", "link", "one", "other"], false, 200, [], false⟩
def b31 : Bd := ⟨5, 2, (.cons (.ite (.or (.not (.isi [.tuple] (.var 1))) (.not (.bi .all (.cons (.comp (.e (.var 1)) [2] (.name 2) (.lit (.bl true)) (.call 10 (.cons (.var 0) (.cons (.var 2) .nil)))) .nil)))) (.cons (.ret (.lit (.bl false))) .nil) .nil) (.cons (.ite (.not (.bi .all (.cons (.comp (.zip (.cons (.var 1) (.cons (.sl (.var 1) (.some (.lit (.int 1))) .none) .nil))) [3, 4] (.tup 2 (.cons (.name 3) (.cons (.name 4) .nil))) (.lit (.bl true)) (.cmp .lt (.ix (.var 3) (.lit (.int 0))) (.ix (.var 4) (.lit (.int 0))))) .nil))) (.cons (.ret (.lit (.bl false))) .nil) .nil) (.cons (.ret (.cmp .is (.call 18 (.cons (.var 0) (.cons (.var 1) .nil))) (.lit .non))) .nil)))⟩
def d32 : Df := ⟨"is_crowd", top 51, ["layout", "value"], ["layout", "value"], false, 200, [], false⟩
def b32 : Bd := ⟨2, 2, (.cons (.expr (.call 27 (.cons (.var 0) .nil))) (.cons (.ret (.call 31 (.cons (.var 0) (.cons (.var 1) .nil)))) .nil))⟩
def d33 : Df := ⟨"do_fit", top 56, ["layout", "span", "value"], ["layout", "span", "value", "whole", "bit", "one", "other", "unlike", "step"], false, 200, [], false⟩
def b33 : Bd := ⟨9, 3, (.cons (.ite (.or (.not (.isi [.tuple] (.var 2))) (.cmp .ne (.bi .len (.cons (.var 2) .nil)) (.bi .len (.cons (.ix (.var 0) (.lit (.int 0))) .nil)))) (.cons (.ret (.lit (.bl false))) .nil) .nil) (.cons (.ite (.not (.bi .all (.cons (.comp (.e (.var 2)) [4] (.name 4) (.lit (.bl true)) (.call 0 (.cons (.var 4) (.cons (.lit (.int 0)) (.cons (.lit (.int 1)) .nil))))) .nil))) (.cons (.ret (.lit (.bl false))) .nil) .nil) (.cons (.asg (.bin .add (.var 2) (.tup (.cons (.lit (.int 0)) .nil))) (.name 3)) (.cons (.ret (.bi .all (.cons (.comp (.e (.call 16 (.cons (.var 0) (.cons (.var 1) .nil)))) [5, 6, 7, 8] (.tup 4 (.cons (.name 5) (.cons (.name 6) (.cons (.name 7) (.cons (.name 8) .nil))))) (.lit (.bl true)) (.cmp .eq (.bi .int (.cons (.cmp .ne (.ix (.var 3) (.var 5)) (.ix (.var 3) (.var 6))) .nil)) (.var 7))) .nil))) .nil))))⟩
def d34 : Df := ⟨"are_rows", top 59, ["layout", "value"], ["layout", "value", "whole", "setting", "row"], false, 200, [], false⟩
def b34 : Bd := ⟨5, 2, (.cons (.asg (.call 29 (.cons (.var 0) .nil)) (.name 2)) (.cons (.ite (.or (.not (.isi [.tuple] (.var 1))) (.cmp .ne (.bi .len (.cons (.var 1) .nil)) (.bi .len (.cons (.var 2) .nil)))) (.cons (.ret (.lit (.bl false))) .nil) .nil) (.cons (.ret (.bi .all (.cons (.comp (.zip (.cons (.var 2) (.cons (.var 1) .nil))) [3, 4] (.tup 2 (.cons (.name 3) (.cons (.name 4) .nil))) (.lit (.bl true)) (.call 33 (.cons (.var 0) (.cons (.call 30 (.cons (.var 3) .nil)) (.cons (.var 4) .nil))))) .nil))) .nil)))⟩
def fs : List Str := d0.x :: d1.x :: d2.x :: d3.x :: d4.x :: d5.x :: d6.x :: d7.x :: d8.x :: d9.x :: d10.x :: d11.x :: d12.x :: d13.x :: d14.x :: d15.x :: d16.x :: d17.x :: d18.x :: d19.x :: d20.x :: d21.x :: d22.x :: d23.x :: d24.x :: d25.x :: d26.x :: d27.x :: d28.x :: d29.x :: d30.x :: d31.x :: d32.x :: d33.x :: d34.x :: []
def cs : List (Str × D) := [("MOST_PIECES", .int 10), ("LEAST_CELLS", .int 2), ("MOST_CELLS", .int 9), ("MOST_JOINTS", .int 10), ("MOST_BRANCHES", .int 3), ("POWER", .int (-1)), ("LINK", .str "link"), ("FEED", .str "feed"), ("SIGNS", .str "signs"), ("ODD", .str "odd"), ("BAD", .str "bad")]
def bs : List Bd := b0 :: b1 :: b2 :: b3 :: b4 :: b5 :: b6 :: b7 :: b8 :: b9 :: b10 :: b11 :: b12 :: b13 :: b14 :: b15 :: b16 :: b17 :: b18 :: b19 :: b20 :: b21 :: b22 :: b23 :: b24 :: b25 :: b26 :: b27 :: b28 :: b29 :: b30 :: b31 :: b32 :: b33 :: b34 :: []
def x0 : Df := ⟨"need_form", top 57, ["paper", "sizes"], ["paper", "sizes"], false, 200, [], false⟩
def y0 : Nat × Nat × XTs := (2, 2, (.cons (.ite (.o (.or (.not (.isi [.tuple] (.var 0))) (.or (.cmp .eq (.var 0) (.tup .nil)) (.not (.isi [.str] (.ix (.var 0) (.lit (.int 0)))))))) (.cons (.rais "BadPaper" ["word"] (.cons (.lit (.str "form")) .nil)) .nil) .nil) (.cons (.ite (.o (.cmp .ne (.bi .len (.cons (.var 0) .nil)) (.meth .get (.var 1) (.cons (.ix (.var 0) (.lit (.int 0))) .nil)))) (.cons (.rais "BadPaper" ["word"] (.cons (.lit (.str "form")) .nil)) .nil) .nil) .nil)))
def x1 : Df := ⟨"check_sound", top 58, ["layout", "paper"], ["layout", "paper", "is_right"], false, 200, [], false⟩
def y1 : Nat × Nat × XTs := (3, 2, (.cons (.expr (.o (.call 8 (.cons (.var 0) .nil)))) (.cons (.expr (.call 0 (.cons (.o (.var 1)) (.cons (.o (.dispk (.cons (.lit (.str "signs")) (.cons (.lit (.int 2)) (.cons (.lit (.str "odd")) (.cons (.lit (.int 2)) .nil)))))) .nil)))) (.cons (.ite (.o (.cmp .eq (.ix (.var 1) (.lit (.int 0))) (.lit (.str "signs")))) (.cons (.o (.asg (.call 33 (.cons (.var 0) (.cons (.tup .nil) (.cons (.ix (.var 1) (.lit (.int 1))) .nil)))) (.name 2))) .nil) (.cons (.o (.asg (.call 21 (.cons (.var 0) (.cons (.tup .nil) (.cons (.ix (.var 1) (.lit (.int 1))) .nil)))) (.name 2))) .nil)) (.cons (.ite (.o (.not (.var 2))) (.cons (.rais "BadPaper" ["word"] (.cons (.ix (.var 1) (.lit (.int 0))) .nil)) .nil) .nil) (.cons (.ret (.o (.ix (.var 1) (.lit (.int 0))))) .nil))))))
def x2 : Df := ⟨"check_free", top 60, ["layout", "paper"], ["layout", "paper", "is_right"], false, 200, [], false⟩
def y2 : Nat × Nat × XTs := (3, 2, (.cons (.expr (.o (.call 27 (.cons (.var 0) .nil)))) (.cons (.expr (.call 0 (.cons (.o (.var 1)) (.cons (.o (.dispk (.cons (.lit (.str "signs")) (.cons (.lit (.int 2)) (.cons (.lit (.str "odd")) (.cons (.lit (.int 3)) .nil)))))) .nil)))) (.cons (.ite (.o (.cmp .eq (.ix (.var 1) (.lit (.int 0))) (.lit (.str "signs")))) (.cons (.o (.asg (.call 34 (.cons (.var 0) (.cons (.ix (.var 1) (.lit (.int 1))) .nil))) (.name 2))) .nil) (.cons (.o (.asg (.and (.call 31 (.cons (.var 0) (.cons (.ix (.var 1) (.lit (.int 1))) .nil))) (.call 21 (.cons (.var 0) (.cons (.ix (.var 1) (.lit (.int 1))) (.cons (.ix (.var 1) (.lit (.int 2))) .nil))))) (.name 2))) .nil)) (.cons (.ite (.o (.not (.var 2))) (.cons (.rais "BadPaper" ["word"] (.cons (.ix (.var 1) (.lit (.int 0))) .nil)) .nil) .nil) (.cons (.ret (.o (.ix (.var 1) (.lit (.int 0))))) .nil))))))
def x3 : Df := ⟨"check_bad", top 61, ["layout", "paper"], ["layout", "paper"], false, 200, [], false⟩
def y3 : Nat × Nat × XTs := (2, 2, (.cons (.expr (.o (.call 27 (.cons (.var 0) .nil)))) (.cons (.expr (.call 0 (.cons (.o (.var 1)) (.cons (.o (.dispk (.cons (.lit (.str "bad")) (.cons (.lit (.int 3)) .nil)))) .nil)))) (.cons (.ite (.o (.or (.not (.call 25 (.cons (.var 0) (.cons (.ix (.var 1) (.lit (.int 1))) .nil)))) (.not (.call 28 (.cons (.var 0) (.cons (.ix (.var 1) (.lit (.int 1))) .nil)))))) (.cons (.rais "BadPaper" ["word"] (.cons (.lit (.str "bad")) .nil)) .nil) .nil) (.cons (.ite (.o (.not (.call 21 (.cons (.var 0) (.cons (.call 23 (.cons (.var 0) (.cons (.ix (.ix (.var 1) (.lit (.int 1))) (.lit (.int 0))) .nil))) (.cons (.ix (.var 1) (.lit (.int 2))) .nil)))))) (.cons (.rais "BadPaper" ["word"] (.cons (.lit (.str "bad")) .nil)) .nil) .nil) (.cons (.ret (.o (.bin .sub (.bi .len (.cons (.call 26 (.cons (.var 0) (.cons (.ix (.var 1) (.lit (.int 1))) .nil))) .nil)) (.lit (.int 1))))) .nil))))))
def x4 : Df := ⟨"_law_empty_right", top 64, ["_law_loop_so", "_law_both", "_law_walk"], ["_law_loop_so", "_law_both", "_law_walk", "_law_told", "_law_crowd_so"], false, 200, [], false⟩
def y4 : Nat × Nat × XTs := (5, 3, (.cons (.ite (.o (.or (.not (.call 22 (.cons (.var 0) (.cons (.var 1) (.cons (.var 2) .nil))))) (.or (.call 22 (.cons (.var 0) (.cons (.sl (.var 1) .none (.some (.lit (.int 1)))) (.cons (.var 2) .nil)))) (.call 32 (.cons (.var 0) (.cons (.var 1) .nil)))))) (.cons (.ret (.o (.lit (.bl false)))) .nil) .nil) (.cons (.set 3 (.lst (.cons (.lam 0 (.call 2 (.cons (.o (.var 0)) (.cons (.o (.tup (.cons (.lit (.str "odd")) (.cons (.var 1) (.cons (.var 2) .nil))))) .nil)))) .nil))) (.cons (.fo (.e (.tup (.cons (.sl (.var 1) .none (.some (.lit (.int 1)))) (.cons (.bi .list (.cons (.var 1) .nil)) (.cons (.rev (.var 1)) (.cons (.tup .nil) .nil)))))) (.name 4) (.cons (.expr (.app (.o (.var 3)) (.cons (.lam 0 (.call 2 (.cons (.o (.var 0)) (.cons (.o (.tup (.cons (.lit (.str "odd")) (.cons (.var 4) (.cons (.var 2) .nil))))) .nil)))) .nil))) .nil)) (.cons (.expr (.app (.o (.var 3)) (.cons (.lam 0 (.call 1 (.cons (.o (.var 0)) (.cons (.o (.tup (.cons (.lit (.str "odd")) (.cons (.var 2) .nil)))) .nil)))) .nil))) (.cons (.ite (.o (.cmp .ne (.var 3) (.bin .mul (.lst (.cons (.lst (.cons (.lit (.str "odd")) .nil)) .nil)) (.lit (.int 6))))) (.cons (.ret (.o (.lit (.bl false)))) .nil) .nil) (.cons (.set 3 (.lst (.cons (.lam 0 (.call 1 (.cons (.o (.var 0)) (.cons (.o (.tup (.cons (.lit (.str "signs")) (.cons (.tup (.cons (.lit (.int 0)) (.cons (.lit (.int 1)) .nil))) .nil)))) .nil)))) .nil))) (.cons (.expr (.app (.o (.var 3)) (.cons (.lam 0 (.call 2 (.cons (.o (.var 0)) (.cons (.o (.tup (.cons (.lit (.str "signs")) (.cons (.tup (.cons (.tup (.cons (.lit (.int 1)) (.cons (.lit (.int 1)) .nil))) (.cons (.tup (.cons (.lit (.int 1)) (.cons (.lit (.int 0)) .nil))) .nil))) .nil)))) .nil)))) .nil))) (.cons (.ret (.o (.cmp .eq (.var 3) (.lst (.cons (.lit (.str "signs")) (.cons (.lit (.str "signs")) .nil)))))) .nil)))))))))
def x5 : Df := ⟨"law", top 65, ["_law_script"], ["_law_script", "_law_joints", "_law_told", "_law_loop_so", "_law_fed", "_law_both", "_law_walk", "_law_stand", "_law_good"], false, 200, [], false⟩
def y5 : Nat × Nat × XTs := (9, 1, (.cons (.o (.asg (.tup (.cons (.tup (.cons (.tup (.cons (.lit (.int 0)) (.cons (.lit (.int 1)) .nil))) (.cons (.tup (.cons (.tup (.cons (.tup (.cons (.lit (.int 1)) (.cons (.lit (.int 0)) .nil))) (.cons (.lit (.int 1)) .nil))) (.cons (.tup (.cons (.tup (.cons (.lit (.int 1)) (.cons (.lit (.int 1)) .nil))) (.cons (.lit (.int 1)) .nil))) .nil))) .nil))) .nil)) (.name 1))) (.cons (.o (.asg (.tup (.cons (.tup (.cons (.tup (.cons (.lit (.int 4)) (.cons (.lit (.int 9)) .nil))) (.cons (.var 1) (.cons (.tup .nil) .nil)))) (.cons (.tup (.cons (.tup (.cons (.lit (.int 4)) (.cons (.lit (.int 9)) .nil))) (.cons (.var 1) (.cons (.tup (.cons (.tup (.cons (.lit (.int 0)) (.cons (.lit (.int 0)) .nil))) (.cons (.tup (.cons (.lit (.int 1)) (.cons (.lit (.int 0)) .nil))) .nil))) .nil)))) .nil))) (.tup 2 (.cons (.name 3) (.cons (.name 4) .nil))))) (.cons (.o (.asg (.tup (.cons (.tup (.cons (.tup (.cons (.lit (.int 0)) (.cons (.lit (.int 0)) .nil))) (.cons (.tup (.cons (.lit (.int 0)) (.cons (.lit (.int 1)) .nil))) .nil))) (.cons (.tup (.cons (.tup (.cons (.lit (.str "link")) (.cons (.lit (.int 0)) (.cons (.lit (.int 0)) .nil)))) (.cons (.tup (.cons (.lit (.str "link")) (.cons (.lit (.int 0)) (.cons (.lit (.int 1)) .nil)))) .nil))) .nil))) (.tup 2 (.cons (.name 5) (.cons (.name 6) .nil))))) (.cons (.ite (.not (.call 4 (.cons (.o (.var 3)) (.cons (.o (.var 5)) (.cons (.o (.var 6)) .nil))))) (.cons (.ret (.o (.lit (.bl false)))) .nil) .nil) (.cons (.o (.asg (.tup (.cons (.tup (.cons (.tup (.cons (.tup (.cons (.lit (.int 0)) (.cons (.lit (.int 1)) .nil))) (.cons (.tup (.cons (.lit (.int 1)) (.cons (.lit (.int 0)) .nil))) .nil))) (.cons (.lit (.int 3)) (.cons (.lit (.int 1)) .nil)))) (.cons (.tup (.cons (.tup (.cons (.lit (.str "feed")) (.cons (.lit (.int 0)) .nil))) (.cons (.tup (.cons (.lit (.str "link")) (.cons (.lit (.int 0)) (.cons (.lit (.int 1)) .nil)))) (.cons (.tup (.cons (.lit (.str "feed")) (.cons (.lit (.int 1)) .nil))) .nil)))) .nil))) (.tup 2 (.cons (.name 7) (.cons (.name 8) .nil))))) (.cons (.set 2 (.lst (.cons (.lam 0 (.call 3 (.cons (.o (.var 4)) (.cons (.o (.tup (.cons (.lit (.str "bad")) (.cons (.var 7) (.cons (.var 8) .nil))))) .nil)))) .nil))) (.cons (.expr (.app (.o (.var 2)) (.cons (.lam 0 (.call 3 (.cons (.o (.var 4)) (.cons (.o (.tup (.cons (.lit (.str "bad")) (.cons (.var 7) (.cons (.bin .mul (.var 8) (.lit (.int 3))) .nil))))) .nil)))) .nil))) (.cons (.expr (.app (.o (.var 2)) (.cons (.lam 0 (.call 3 (.cons (.o (.var 4)) (.cons (.o (.tup (.cons (.lit (.str "bad")) (.cons (.var 7) (.cons (.var 6) .nil))))) .nil)))) .nil))) (.cons (.expr (.app (.o (.var 2)) (.cons (.lam 0 (.call 2 (.cons (.o (.var 4)) (.cons (.o (.tup (.cons (.lit (.str "odd")) (.cons (.sl (.var 5) (.some (.lit (.int 1))) .none) (.cons (.var 8) .nil))))) .nil)))) .nil))) (.cons (.expr (.app (.o (.var 2)) (.cons (.lam 0 (.call 2 (.cons (.o (.var 4)) (.cons (.o (.tup (.cons (.lit (.str "odd")) (.cons (.sl (.var 5) (.some (.lit (.int 1))) .none) (.cons (.bin .mul (.var 8) (.lit (.int 3))) .nil))))) .nil)))) .nil))) (.cons (.expr (.app (.o (.var 2)) (.cons (.lam 0 (.call 2 (.cons (.o (.var 4)) (.cons (.o (.tup (.cons (.lit (.str "odd")) (.cons (.sl (.var 5) .none (.some (.lit (.int 1)))) (.cons (.var 8) .nil))))) .nil)))) .nil))) (.cons (.ite (.o (.cmp .ne (.var 2) (.lst (.cons (.lit (.int 1)) (.cons (.lit (.int 1)) (.cons (.lst (.cons (.lit (.str "bad")) .nil)) (.cons (.lit (.str "odd")) (.cons (.lit (.str "odd")) (.cons (.lst (.cons (.lit (.str "odd")) .nil)) .nil))))))))) (.cons (.ret (.o (.lit (.bl false)))) .nil) .nil) (.cons (.set 2 (.lst (.cons (.lam 0 (.call 1 (.cons (.o (.var 4)) (.cons (.o (.tup (.cons (.lit (.str "bad")) (.cons (.lit (.int 5)) (.cons (.tup .nil) .nil))))) .nil)))) .nil))) (.cons (.expr (.app (.o (.var 2)) (.cons (.lam 0 (.call 2 (.cons (.o (.var 4)) (.cons (.o (.tup (.cons (.lit (.str "bad")) (.cons (.lit (.int 5)) (.cons (.tup .nil) .nil))))) .nil)))) .nil))) (.cons (.expr (.app (.o (.var 2)) (.cons (.lam 0 (.call 1 (.cons (.o (.var 4)) (.cons (.o (.tup (.cons (.lit (.str "odd")) (.cons (.tup .nil) (.cons (.tup .nil) .nil))))) .nil)))) .nil))) (.cons (.expr (.app (.o (.var 2)) (.cons (.lam 0 (.call 2 (.cons (.o (.var 4)) (.cons (.o (.tup (.cons (.lit (.str "odd")) (.cons (.tup .nil) .nil)))) .nil)))) .nil))) (.cons (.expr (.app (.o (.var 2)) (.cons (.lam 0 (.call 3 (.cons (.o (.var 4)) (.cons (.o (.tup (.cons (.lit (.str "odd")) (.cons (.tup .nil) (.cons (.tup .nil) .nil))))) .nil)))) .nil))) (.cons (.ret (.o (.cmp .eq (.var 2) (.bin .mul (.lst (.cons (.lst (.cons (.lit (.str "form")) .nil)) .nil)) (.lit (.int 5)))))) .nil)))))))))))))))))))
def g0 : Df := ⟨"_law_word", top 63, ["_law_call"], ["_law_call", "_law_found", "e"], false, 200, [], false⟩
def z0 : Nat × XTs := (3, (.cons (.set 1 (.o (.lit .non))) (.cons (.tri "BadPaper" 2 (.cons (.set 1 .act) .nil) (.set 1 (.lst (.cons (.xf "word") .nil)))) (.cons (.ret (.o (.var 1))) .nil))))
def xs : List Str := x0.x :: x1.x :: x2.x :: x3.x :: x4.x :: x5.x :: []
def xb : List (Nat × Nat × XTs) := y0 :: y1 :: y2 :: y3 :: y4 :: y5 :: []
def gs : List Str := g0.x :: []
def gb : List (Nat × XTs) := z0 :: []
def sb : List ((Str × Str) × Bool) := ((("BadPaper", "BadPaper")), true) :: []
def ek : List (Str × List Str) := ("BadPaper", ["word"]) :: []
def XK : XM := ⟨fs, cs, 60, bs, xs, xb, gs, gb, sb, ek, ["BadPaper"]⟩
section
variable {K : Frg} {mg : Str → Option Value} {base : Heap} {T : List (Addr × Str)}
theorem o0 (h : ∃ f fd, FunD K "is_integer" "is_integer" (defArgs (top 12)) (defBody (top 12)) (defScope (top 12)) [] [] f fd ∧ mg "is_integer" = some (.ref f)) : DfOk K mg fs cs 60 d0 b0 where
  fn := h
  sc := ⟨rfl, rfl, rfl, by decide +kernel, rfl, by decide +kernel, by decide +kernel⟩
  bd := fun _ _ _ _ _ _ us hl => match us, hl with | [_, _, _], _ => rfl
  tx := by kernel_rfl
  n := rfl
  ar := rfl
theorem o1 (h : ∃ f fd, FunD K "are_lengths" "are_lengths" (defArgs (top 13)) (defBody (top 13)) (defScope (top 13)) [] [] f fd ∧ mg "are_lengths" = some (.ref f)) : DfOk K mg fs cs 60 d1 b1 where
  fn := h
  sc := ⟨rfl, rfl, rfl, by decide +kernel, rfl, by decide +kernel, by decide +kernel⟩
  bd := fun _ _ _ _ _ _ us hl => match us, hl with | [_], _ => rfl
  tx := by kernel_rfl
  n := rfl
  ar := rfl
theorem o2 (h : ∃ f fd, FunD K "is_pair_to" "is_pair_to" (defArgs (top 14)) (defBody (top 14)) (defScope (top 14)) [] [] f fd ∧ mg "is_pair_to" = some (.ref f)) : DfOk K mg fs cs 60 d2 b2 where
  fn := h
  sc := ⟨rfl, rfl, rfl, by decide +kernel, rfl, by decide +kernel, by decide +kernel⟩
  bd := fun _ _ _ _ _ _ us hl => match us, hl with | [_, _], _ => rfl
  tx := by kernel_rfl
  n := rfl
  ar := rfl
theorem o3 (h : ∃ f fd, FunD K "is_branch" "is_branch" (defArgs (top 15)) (defBody (top 15)) (defScope (top 15)) [] [] f fd ∧ mg "is_branch" = some (.ref f)) : DfOk K mg fs cs 60 d3 b3 where
  fn := h
  sc := ⟨rfl, rfl, rfl, by decide +kernel, rfl, by decide +kernel, by decide +kernel⟩
  bd := fun _ _ _ _ _ _ us hl => match us, hl with | [_, _], _ => rfl
  tx := by kernel_rfl
  n := rfl
  ar := rfl
theorem o4 (h : ∃ f fd, FunD K "is_joint" "is_joint" (defArgs (top 16)) (defBody (top 16)) (defScope (top 16)) [] [] f fd ∧ mg "is_joint" = some (.ref f)) : DfOk K mg fs cs 60 d4 b4 where
  fn := h
  sc := ⟨rfl, rfl, rfl, by decide +kernel, rfl, by decide +kernel, by decide +kernel⟩
  bd := fun _ _ _ _ _ _ us hl => match us, hl with | [_, _], _ => rfl
  tx := by kernel_rfl
  n := rfl
  ar := rfl
theorem o5 (h : ∃ f fd, FunD K "all_ends" "all_ends" (defArgs (top 17)) (defBody (top 17)) (defScope (top 17)) [] [] f fd ∧ mg "all_ends" = some (.ref f)) : DfOk K mg fs cs 60 d5 b5 where
  fn := h
  sc := ⟨rfl, rfl, rfl, by decide +kernel, rfl, by decide +kernel, by decide +kernel⟩
  bd := fun _ _ _ _ _ _ us hl => match us, hl with | [_], _ => rfl
  tx := by kernel_rfl
  n := rfl
  ar := rfl
theorem o6 (h : ∃ f fd, FunD K "are_feeds" "are_feeds" (defArgs (top 18)) (defBody (top 18)) (defScope (top 18)) [] [] f fd ∧ mg "are_feeds" = some (.ref f)) : DfOk K mg fs cs 60 d6 b6 where
  fn := h
  sc := ⟨rfl, rfl, rfl, by decide +kernel, rfl, by decide +kernel, by decide +kernel⟩
  bd := fun _ _ _ _ _ _ us hl => match us, hl with | [_, _], _ => rfl
  tx := by kernel_rfl
  n := rfl
  ar := rfl
theorem o7 (h : ∃ f fd, FunD K "wrong_joint" "wrong_joint" (defArgs (top 19)) (defBody (top 19)) (defScope (top 19)) [] [] f fd ∧ mg "wrong_joint" = some (.ref f)) : DfOk K mg fs cs 60 d7 b7 where
  fn := h
  sc := ⟨rfl, rfl, rfl, by decide +kernel, rfl, by decide +kernel, by decide +kernel⟩
  bd := fun _ _ _ _ _ _ us hl => match us, hl with | [_, _], _ => rfl
  tx := by kernel_rfl
  n := rfl
  ar := rfl
theorem o8 (h : ∃ f fd, FunD K "need_layout" "need_layout" (defArgs (top 20)) (defBody (top 20)) (defScope (top 20)) [] [] f fd ∧ mg "need_layout" = some (.ref f)) : DfOk K mg fs cs 60 d8 b8 where
  fn := h
  sc := ⟨rfl, rfl, rfl, by decide +kernel, rfl, by decide +kernel, by decide +kernel⟩
  bd := fun _ _ _ _ _ _ us hl => match us, hl with | [_], _ => rfl
  tx := by kernel_rfl
  n := rfl
  ar := rfl
theorem o9 (h : ∃ f fd, FunD K "links_of" "links_of" (defArgs (top 21)) (defBody (top 21)) (defScope (top 21)) [] [] f fd ∧ mg "links_of" = some (.ref f)) : DfOk K mg fs cs 60 d9 b9 where
  fn := h
  sc := ⟨rfl, rfl, rfl, by decide +kernel, rfl, by decide +kernel, by decide +kernel⟩
  bd := fun _ _ _ _ _ _ us hl => match us, hl with | [_], _ => rfl
  tx := by kernel_rfl
  n := rfl
  ar := rfl
theorem o10 (h : ∃ f fd, FunD K "is_link" "is_link" (defArgs (top 22)) (defBody (top 22)) (defScope (top 22)) [] [] f fd ∧ mg "is_link" = some (.ref f)) : DfOk K mg fs cs 60 d10 b10 where
  fn := h
  sc := ⟨rfl, rfl, rfl, by decide +kernel, rfl, by decide +kernel, by decide +kernel⟩
  bd := fun _ _ _ _ _ _ us hl => match us, hl with | [_, _], _ => rfl
  tx := by kernel_rfl
  n := rfl
  ar := rfl
theorem o11 (h : ∃ f fd, FunD K "ends_in" "ends_in" (defArgs (top 23)) (defBody (top 23)) (defScope (top 23)) [] [] f fd ∧ mg "ends_in" = some (.ref f)) : DfOk K mg fs cs 60 d11 b11 where
  fn := h
  sc := ⟨rfl, rfl, rfl, by decide +kernel, rfl, by decide +kernel, by decide +kernel⟩
  bd := fun _ _ _ _ _ _ us hl => match us, hl with | [_, _], _ => rfl
  tx := by kernel_rfl
  n := rfl
  ar := rfl
theorem o12 (h : ∃ f fd, FunD K "is_cut_in" "is_cut_in" (defArgs (top 24)) (defBody (top 24)) (defScope (top 24)) [] [] f fd ∧ mg "is_cut_in" = some (.ref f)) : DfOk K mg fs cs 60 d12 b12 where
  fn := h
  sc := ⟨rfl, rfl, rfl, by decide +kernel, rfl, by decide +kernel, by decide +kernel⟩
  bd := fun _ _ _ _ _ _ us hl => match us, hl with | [_, _], _ => rfl
  tx := by kernel_rfl
  n := rfl
  ar := rfl
theorem o13 (h : ∃ f fd, FunD K "crossing" "crossing" (defArgs (top 25)) (defBody (top 25)) (defScope (top 25)) [] [] f fd ∧ mg "crossing" = some (.ref f)) : DfOk K mg fs cs 60 d13 b13 where
  fn := h
  sc := ⟨rfl, rfl, rfl, by decide +kernel, rfl, by decide +kernel, by decide +kernel⟩
  bd := fun _ _ _ _ _ _ us hl => match us, hl with | [_, _], _ => rfl
  tx := by kernel_rfl
  n := rfl
  ar := rfl
theorem o14 (h : ∃ f fd, FunD K "link_between" "link_between" (defArgs (top 26)) (defBody (top 26)) (defScope (top 26)) [] [] f fd ∧ mg "link_between" = some (.ref f)) : DfOk K mg fs cs 60 d14 b14 where
  fn := h
  sc := ⟨rfl, rfl, rfl, by decide +kernel, rfl, by decide +kernel, by decide +kernel⟩
  bd := fun _ _ _ _ _ _ us hl => match us, hl with | [_, _, _], _ => rfl
  tx := by kernel_rfl
  n := rfl
  ar := rfl
theorem o15 (h : ∃ f fd, FunD K "need_span" "need_span" (defArgs (top 31)) (defBody (top 31)) (defScope (top 31)) [] [] f fd ∧ mg "need_span" = some (.ref f)) : DfOk K mg fs cs 60 d15 b15 where
  fn := h
  sc := ⟨rfl, rfl, rfl, by decide +kernel, rfl, by decide +kernel, by decide +kernel⟩
  bd := fun _ _ _ _ _ _ us hl => match us, hl with | [_, _], _ => rfl
  tx := by kernel_rfl
  n := rfl
  ar := rfl
theorem o16 (h : ∃ f fd, FunD K "ties_in" "ties_in" (defArgs (top 32)) (defBody (top 32)) (defScope (top 32)) [] [] f fd ∧ mg "ties_in" = some (.ref f)) : DfOk K mg fs cs 60 d16 b16 where
  fn := h
  sc := ⟨rfl, rfl, rfl, by decide +kernel, rfl, by decide +kernel, by decide +kernel⟩
  bd := fun _ _ _ _ _ _ us hl => match us, hl with | [_, _], _ => rfl
  tx := by kernel_rfl
  n := rfl
  ar := rfl
theorem o17 (h : ∃ f fd, FunD K "spread" "spread" (defArgs (top 33)) (defBody (top 33)) (defScope (top 33)) [] [] f fd ∧ mg "spread" = some (.ref f)) : DfOk K mg fs cs 60 d17 b17 where
  fn := h
  sc := ⟨rfl, rfl, rfl, by decide +kernel, rfl, by decide +kernel, by decide +kernel⟩
  bd := fun _ _ _ _ _ _ us hl => match us, hl with | [_, _, _, _], _ => rfl
  tx := by kernel_rfl
  n := rfl
  ar := rfl
theorem o18 (h : ∃ f fd, FunD K "signs_in" "signs_in" (defArgs (top 34)) (defBody (top 34)) (defScope (top 34)) [] [] f fd ∧ mg "signs_in" = some (.ref f)) : DfOk K mg fs cs 60 d18 b18 where
  fn := h
  sc := ⟨rfl, rfl, rfl, by decide +kernel, rfl, by decide +kernel, by decide +kernel⟩
  bd := fun _ _ _ _ _ _ us hl => match us, hl with | [_, _], _ => rfl
  tx := by kernel_rfl
  n := rfl
  ar := rfl
theorem o19 (h : ∃ f fd, FunD K "is_round" "is_round" (defArgs (top 35)) (defBody (top 35)) (defScope (top 35)) [] [] f fd ∧ mg "is_round" = some (.ref f)) : DfOk K mg fs cs 60 d19 b19 where
  fn := h
  sc := ⟨rfl, rfl, rfl, by decide +kernel, rfl, by decide +kernel, by decide +kernel⟩
  bd := fun _ _ _ _ _ _ us hl => match us, hl with | [_, _, _], _ => rfl
  tx := by kernel_rfl
  n := rfl
  ar := rfl
theorem o20 (h : ∃ f fd, FunD K "is_step" "is_step" (defArgs (top 36)) (defBody (top 36)) (defScope (top 36)) [] [] f fd ∧ mg "is_step" = some (.ref f)) : DfOk K mg fs cs 60 d20 b20 where
  fn := h
  sc := ⟨rfl, rfl, rfl, by decide +kernel, rfl, by decide +kernel, by decide +kernel⟩
  bd := fun _ _ _ _ _ _ us hl => match us, hl with | [_, _], _ => rfl
  tx := by kernel_rfl
  n := rfl
  ar := rfl
theorem o21 (h : ∃ f fd, FunD K "is_odd_in" "is_odd_in" (defArgs (top 37)) (defBody (top 37)) (defScope (top 37)) [] [] f fd ∧ mg "is_odd_in" = some (.ref f)) : DfOk K mg fs cs 60 d21 b21 where
  fn := h
  sc := ⟨rfl, rfl, rfl, by decide +kernel, rfl, by decide +kernel, by decide +kernel⟩
  bd := fun _ _ _ _ _ _ us hl => match us, hl with | [_, _, _], _ => rfl
  tx := by kernel_rfl
  n := rfl
  ar := rfl
theorem o22 (h : ∃ f fd, FunD K "is_odd" "is_odd" (defArgs (top 38)) (defBody (top 38)) (defScope (top 38)) [] [] f fd ∧ mg "is_odd" = some (.ref f)) : DfOk K mg fs cs 60 d22 b22 where
  fn := h
  sc := ⟨rfl, rfl, rfl, by decide +kernel, rfl, by decide +kernel, by decide +kernel⟩
  bd := fun _ _ _ _ _ _ us hl => match us, hl with | [_, _, _], _ => rfl
  tx := by kernel_rfl
  n := rfl
  ar := rfl
theorem o23 (h : ∃ f fd, FunD K "links_along" "links_along" (defArgs (top 40)) (defBody (top 40)) (defScope (top 40)) [] [] f fd ∧ mg "links_along" = some (.ref f)) : DfOk K mg fs cs 60 d23 b23 where
  fn := h
  sc := ⟨rfl, rfl, rfl, by decide +kernel, rfl, by decide +kernel, by decide +kernel⟩
  bd := fun _ _ _ _ _ _ us hl => match us, hl with | [_, _], _ => rfl
  tx := by kernel_rfl
  n := rfl
  ar := rfl
theorem o24 (h : ∃ f fd, FunD K "is_route" "is_route" (defArgs (top 41)) (defBody (top 41)) (defScope (top 41)) [] [] f fd ∧ mg "is_route" = some (.ref f)) : DfOk K mg fs cs 60 d24 b24 where
  fn := h
  sc := ⟨rfl, rfl, rfl, by decide +kernel, rfl, by decide +kernel, by decide +kernel⟩
  bd := fun _ _ _ _ _ _ us hl => match us, hl with | [_, _], _ => rfl
  tx := by kernel_rfl
  n := rfl
  ar := rfl
theorem o25 (h : ∃ f fd, FunD K "is_stand_in" "is_stand_in" (defArgs (top 42)) (defBody (top 42)) (defScope (top 42)) [] [] f fd ∧ mg "is_stand_in" = some (.ref f)) : DfOk K mg fs cs 60 d25 b25 where
  fn := h
  sc := ⟨rfl, rfl, rfl, by decide +kernel, rfl, by decide +kernel, by decide +kernel⟩
  bd := fun _ _ _ _ _ _ us hl => match us, hl with | [_, _], _ => rfl
  tx := by kernel_rfl
  n := rfl
  ar := rfl
theorem o26 (h : ∃ f fd, FunD K "cells_in" "cells_in" (defArgs (top 43)) (defBody (top 43)) (defScope (top 43)) [] [] f fd ∧ mg "cells_in" = some (.ref f)) : DfOk K mg fs cs 60 d26 b26 where
  fn := h
  sc := ⟨rfl, rfl, rfl, by decide +kernel, rfl, by decide +kernel, by decide +kernel⟩
  bd := fun _ _ _ _ _ _ us hl => match us, hl with | [_, _], _ => rfl
  tx := by kernel_rfl
  n := rfl
  ar := rfl
theorem o27 (h : ∃ f fd, FunD K "need_sound" "need_sound" (defArgs (top 45)) (defBody (top 45)) (defScope (top 45)) [] [] f fd ∧ mg "need_sound" = some (.ref f)) : DfOk K mg fs cs 60 d27 b27 where
  fn := h
  sc := ⟨rfl, rfl, rfl, by decide +kernel, rfl, by decide +kernel, by decide +kernel⟩
  bd := fun _ _ _ _ _ _ us hl => match us, hl with | [_], _ => rfl
  tx := by kernel_rfl
  n := rfl
  ar := rfl
theorem o28 (h : ∃ f fd, FunD K "is_bad_by" "is_bad_by" (defArgs (top 46)) (defBody (top 46)) (defScope (top 46)) [] [] f fd ∧ mg "is_bad_by" = some (.ref f)) : DfOk K mg fs cs 60 d28 b28 where
  fn := h
  sc := ⟨rfl, rfl, rfl, by decide +kernel, rfl, by decide +kernel, by decide +kernel⟩
  bd := fun _ _ _ _ _ _ us hl => match us, hl with | [_, _], _ => rfl
  tx := by kernel_rfl
  n := rfl
  ar := rfl
theorem o29 (h : ∃ f fd, FunD K "settings_in" "settings_in" (defArgs (top 48)) (defBody (top 48)) (defScope (top 48)) [] [] f fd ∧ mg "settings_in" = some (.ref f)) : DfOk K mg fs cs 60 d29 b29 where
  fn := h
  sc := ⟨rfl, rfl, rfl, by decide +kernel, rfl, by decide +kernel, by decide +kernel⟩
  bd := fun _ _ _ _ _ _ us hl => match us, hl with | [_], _ => rfl
  tx := by kernel_rfl
  n := rfl
  ar := rfl
theorem o30 (h : ∃ f fd, FunD K "chosen_in" "chosen_in" (defArgs (top 49)) (defBody (top 49)) (defScope (top 49)) [] [] f fd ∧ mg "chosen_in" = some (.ref f)) : DfOk K mg fs cs 60 d30 b30 where
  fn := h
  sc := ⟨rfl, rfl, rfl, by decide +kernel, rfl, by decide +kernel, by decide +kernel⟩
  bd := fun _ _ _ _ _ _ us hl => match us, hl with | [_], _ => rfl
  tx := by kernel_rfl
  n := rfl
  ar := rfl
theorem o31 (h : ∃ f fd, FunD K "is_crowd_in" "is_crowd_in" (defArgs (top 50)) (defBody (top 50)) (defScope (top 50)) [] [] f fd ∧ mg "is_crowd_in" = some (.ref f)) : DfOk K mg fs cs 60 d31 b31 where
  fn := h
  sc := ⟨rfl, rfl, rfl, by decide +kernel, rfl, by decide +kernel, by decide +kernel⟩
  bd := fun _ _ _ _ _ _ us hl => match us, hl with | [_, _], _ => rfl
  tx := by kernel_rfl
  n := rfl
  ar := rfl
theorem o32 (h : ∃ f fd, FunD K "is_crowd" "is_crowd" (defArgs (top 51)) (defBody (top 51)) (defScope (top 51)) [] [] f fd ∧ mg "is_crowd" = some (.ref f)) : DfOk K mg fs cs 60 d32 b32 where
  fn := h
  sc := ⟨rfl, rfl, rfl, by decide +kernel, rfl, by decide +kernel, by decide +kernel⟩
  bd := fun _ _ _ _ _ _ us hl => match us, hl with | [_, _], _ => rfl
  tx := by kernel_rfl
  n := rfl
  ar := rfl
theorem o33 (h : ∃ f fd, FunD K "do_fit" "do_fit" (defArgs (top 56)) (defBody (top 56)) (defScope (top 56)) [] [] f fd ∧ mg "do_fit" = some (.ref f)) : DfOk K mg fs cs 60 d33 b33 where
  fn := h
  sc := ⟨rfl, rfl, rfl, by decide +kernel, rfl, by decide +kernel, by decide +kernel⟩
  bd := fun _ _ _ _ _ _ us hl => match us, hl with | [_, _, _], _ => rfl
  tx := by kernel_rfl
  n := rfl
  ar := rfl
theorem o34 (h : ∃ f fd, FunD K "are_rows" "are_rows" (defArgs (top 59)) (defBody (top 59)) (defScope (top 59)) [] [] f fd ∧ mg "are_rows" = some (.ref f)) : DfOk K mg fs cs 60 d34 b34 where
  fn := h
  sc := ⟨rfl, rfl, rfl, by decide +kernel, rfl, by decide +kernel, by decide +kernel⟩
  bd := fun _ _ _ _ _ _ us hl => match us, hl with | [_, _], _ => rfl
  tx := by kernel_rfl
  n := rfl
  ar := rfl
theorem ox0 (h : ∃ f fd, FunD K "need_form" "need_form" (defArgs (top 57)) (defBody (top 57)) (defScope (top 57)) [] [] f fd ∧ mg "need_form" = some (.ref f))  : DxOk K mg base T XK x0 false y0 where
  fn := h
  sc := ⟨rfl, rfl, rfl, by decide +kernel, rfl, by decide +kernel, by decide +kernel⟩
  bd := fun _ _ _ _ _ _ us hl => match us, hl with | [_, _], _ => rfl
  tx := by kernel_rfl
  n := rfl
  ar := rfl
  pk := fun x ps h => nomatch (show (none : Option (List Str)) = some ps from h)
  lm := fun h => nomatch h
theorem ox1 (h : ∃ f fd, FunD K "check_sound" "check_sound" (defArgs (top 58)) (defBody (top 58)) (defScope (top 58)) [] [] f fd ∧ mg "check_sound" = some (.ref f))  : DxOk K mg base T XK x1 false y1 where
  fn := h
  sc := ⟨rfl, rfl, rfl, by decide +kernel, rfl, by decide +kernel, by decide +kernel⟩
  bd := fun _ _ _ _ _ _ us hl => match us, hl with | [_, _], _ => rfl
  tx := by kernel_rfl
  n := rfl
  ar := rfl
  pk := fun x ps h => nomatch (show (none : Option (List Str)) = some ps from h)
  lm := fun h => nomatch h
theorem ox2 (h : ∃ f fd, FunD K "check_free" "check_free" (defArgs (top 60)) (defBody (top 60)) (defScope (top 60)) [] [] f fd ∧ mg "check_free" = some (.ref f))  : DxOk K mg base T XK x2 false y2 where
  fn := h
  sc := ⟨rfl, rfl, rfl, by decide +kernel, rfl, by decide +kernel, by decide +kernel⟩
  bd := fun _ _ _ _ _ _ us hl => match us, hl with | [_, _], _ => rfl
  tx := by kernel_rfl
  n := rfl
  ar := rfl
  pk := fun x ps h => nomatch (show (none : Option (List Str)) = some ps from h)
  lm := fun h => nomatch h
theorem ox3 (h : ∃ f fd, FunD K "check_bad" "check_bad" (defArgs (top 61)) (defBody (top 61)) (defScope (top 61)) [] [] f fd ∧ mg "check_bad" = some (.ref f))  : DxOk K mg base T XK x3 false y3 where
  fn := h
  sc := ⟨rfl, rfl, rfl, by decide +kernel, rfl, by decide +kernel, by decide +kernel⟩
  bd := fun _ _ _ _ _ _ us hl => match us, hl with | [_, _], _ => rfl
  tx := by kernel_rfl
  n := rfl
  ar := rfl
  pk := fun x ps h => nomatch (show (none : Option (List Str)) = some ps from h)
  lm := fun h => nomatch h
theorem ox4 (h : ∃ f fd, FunD K "_law_empty_right" "_law_empty_right" (defArgs (top 64)) (defBody (top 64)) (defScope (top 64)) [] [] f fd ∧ mg "_law_empty_right" = some (.ref f)) (l : ∃ f c Pt, mg "_law_empty_right" = some (.ref f) ∧ (∀ oc od fd osl, K.lookup f = some ⟨oc, od, .func fd, osl⟩ → fd.code = .ref c) ∧ LamX.TabB base mg c Pt ∧ (Pt, lamQ "_law_empty_right") ∈ T ∧ ∀ q ∈ T, q.1 = Pt → q.2 = lamQ "_law_empty_right") : DxOk K mg base T XK x4 true y4 where
  fn := h
  sc := ⟨rfl, rfl, rfl, by decide +kernel, rfl, by decide +kernel, by decide +kernel⟩
  bd := fun _ _ _ _ _ _ us hl => match us, hl with | [_, _, _], _ => rfl
  tx := by kernel_rfl
  n := rfl
  ar := rfl
  pk := fun x ps h => nomatch (show (none : Option (List Str)) = some ps from h)
  lm := fun _ => l
theorem ox5 (h : ∃ f fd, FunD K "law" "law" (defArgs (top 65)) (defBody (top 65)) (defScope (top 65)) [] [] f fd ∧ mg "law" = some (.ref f)) (l : ∃ f c Pt, mg "law" = some (.ref f) ∧ (∀ oc od fd osl, K.lookup f = some ⟨oc, od, .func fd, osl⟩ → fd.code = .ref c) ∧ LamX.TabB base mg c Pt ∧ (Pt, lamQ "law") ∈ T ∧ ∀ q ∈ T, q.1 = Pt → q.2 = lamQ "law") : DxOk K mg base T XK x5 true y5 where
  fn := h
  sc := ⟨rfl, rfl, rfl, by decide +kernel, rfl, by decide +kernel, by decide +kernel⟩
  bd := fun _ _ _ _ _ _ us hl => match us, hl with | [_], _ => rfl
  tx := by kernel_rfl
  n := rfl
  ar := rfl
  pk := fun x ps h => nomatch (show (none : Option (List Str)) = some ps from h)
  lm := fun _ => l
theorem og0 (h : ∃ f fd, FunD K "_law_word" "_law_word" (defArgs (top 63)) (defBody (top 63)) (defScope (top 63)) [] [] f fd ∧ mg "_law_word" = some (.ref f)) : DgOk K mg XK g0 z0 where
  fn := h
  sc := ⟨rfl, rfl, rfl, by decide +kernel, rfl, by decide +kernel, by decide +kernel⟩
  bd := fun _ _ _ _ _ _ us hl => match us, hl with | [_], _ => rfl
  tx := by kernel_rfl
  n := rfl
  pk := fun x ps h => nomatch (show (none : Option (List Str)) = some ps from h)
  ps := ⟨_, rfl, rfl, by decide +kernel⟩
end
end K21


namespace K21
open PySem Sw
theorem ev : isRTX (xsvs y5.2.2 (evAt XK 24) badAct (List.replicate x5.N.length none) ⟨[], [], false⟩) = true := by kernel_rfl
end K21


namespace K21
open PySem PySem.Spec PyProof.Rows L2 Sw
section
variable {P : Program} {w : World} {K : PySem.W.Frag} {h base : Heap} {mg : Str → Option Value}
theorem f0 (X : K.In h) (G : h.Ns mainGlobals mg) (c : SaysX hd h K) : ∃ f fd, FunD K "is_integer" "is_integer" (defArgs (top 12)) (defBody (top 12)) (defScope (top 12)) [] [] f fd ∧ mg "is_integer" = some (.ref f) := by
  obtain ⟨fd, F⟩ := c.n.1.def_ 0 (d := e0) rfl
  exact ⟨_, fd, F, He.glo_ok X G (c.n.1.fact 0 (f := .glo "is_integer") rfl)⟩
theorem f1 (X : K.In h) (G : h.Ns mainGlobals mg) (c : SaysX hd h K) : ∃ f fd, FunD K "are_lengths" "are_lengths" (defArgs (top 13)) (defBody (top 13)) (defScope (top 13)) [] [] f fd ∧ mg "are_lengths" = some (.ref f) := by
  obtain ⟨fd, F⟩ := c.n.1.def_ 1 (d := e1) rfl
  exact ⟨_, fd, F, He.glo_ok X G (c.n.1.fact 1 (f := .glo "are_lengths") rfl)⟩
theorem f2 (X : K.In h) (G : h.Ns mainGlobals mg) (c : SaysX hd h K) : ∃ f fd, FunD K "is_pair_to" "is_pair_to" (defArgs (top 14)) (defBody (top 14)) (defScope (top 14)) [] [] f fd ∧ mg "is_pair_to" = some (.ref f) := by
  obtain ⟨fd, F⟩ := c.n.1.def_ 2 (d := e2) rfl
  exact ⟨_, fd, F, He.glo_ok X G (c.n.1.fact 2 (f := .glo "is_pair_to") rfl)⟩
theorem f3 (X : K.In h) (G : h.Ns mainGlobals mg) (c : SaysX hd h K) : ∃ f fd, FunD K "is_branch" "is_branch" (defArgs (top 15)) (defBody (top 15)) (defScope (top 15)) [] [] f fd ∧ mg "is_branch" = some (.ref f) := by
  obtain ⟨fd, F⟩ := c.n.1.def_ 3 (d := e3) rfl
  exact ⟨_, fd, F, He.glo_ok X G (c.n.1.fact 3 (f := .glo "is_branch") rfl)⟩
theorem f4 (X : K.In h) (G : h.Ns mainGlobals mg) (c : SaysX hd h K) : ∃ f fd, FunD K "is_joint" "is_joint" (defArgs (top 16)) (defBody (top 16)) (defScope (top 16)) [] [] f fd ∧ mg "is_joint" = some (.ref f) := by
  obtain ⟨fd, F⟩ := c.n.1.def_ 4 (d := e4) rfl
  exact ⟨_, fd, F, He.glo_ok X G (c.n.1.fact 4 (f := .glo "is_joint") rfl)⟩
theorem f5 (X : K.In h) (G : h.Ns mainGlobals mg) (c : SaysX hd h K) : ∃ f fd, FunD K "all_ends" "all_ends" (defArgs (top 17)) (defBody (top 17)) (defScope (top 17)) [] [] f fd ∧ mg "all_ends" = some (.ref f) := by
  obtain ⟨fd, F⟩ := c.n.1.def_ 5 (d := e5) rfl
  exact ⟨_, fd, F, He.glo_ok X G (c.n.1.fact 5 (f := .glo "all_ends") rfl)⟩
theorem f6 (X : K.In h) (G : h.Ns mainGlobals mg) (c : SaysX hd h K) : ∃ f fd, FunD K "are_feeds" "are_feeds" (defArgs (top 18)) (defBody (top 18)) (defScope (top 18)) [] [] f fd ∧ mg "are_feeds" = some (.ref f) := by
  obtain ⟨fd, F⟩ := c.n.1.def_ 6 (d := e6) rfl
  exact ⟨_, fd, F, He.glo_ok X G (c.n.1.fact 6 (f := .glo "are_feeds") rfl)⟩
theorem f7 (X : K.In h) (G : h.Ns mainGlobals mg) (c : SaysX hd h K) : ∃ f fd, FunD K "wrong_joint" "wrong_joint" (defArgs (top 19)) (defBody (top 19)) (defScope (top 19)) [] [] f fd ∧ mg "wrong_joint" = some (.ref f) := by
  obtain ⟨fd, F⟩ := c.n.1.def_ 7 (d := e7) rfl
  exact ⟨_, fd, F, He.glo_ok X G (c.n.1.fact 7 (f := .glo "wrong_joint") rfl)⟩
theorem f8 (X : K.In h) (G : h.Ns mainGlobals mg) (c : SaysX hd h K) : ∃ f fd, FunD K "need_layout" "need_layout" (defArgs (top 20)) (defBody (top 20)) (defScope (top 20)) [] [] f fd ∧ mg "need_layout" = some (.ref f) := by
  obtain ⟨fd, F⟩ := c.n.1.def_ 8 (d := e8) rfl
  exact ⟨_, fd, F, He.glo_ok X G (c.n.1.fact 8 (f := .glo "need_layout") rfl)⟩
theorem f9 (X : K.In h) (G : h.Ns mainGlobals mg) (c : SaysX hd h K) : ∃ f fd, FunD K "links_of" "links_of" (defArgs (top 21)) (defBody (top 21)) (defScope (top 21)) [] [] f fd ∧ mg "links_of" = some (.ref f) := by
  obtain ⟨fd, F⟩ := c.n.1.def_ 9 (d := e9) rfl
  exact ⟨_, fd, F, He.glo_ok X G (c.n.1.fact 9 (f := .glo "links_of") rfl)⟩
theorem f10 (X : K.In h) (G : h.Ns mainGlobals mg) (c : SaysX hd h K) : ∃ f fd, FunD K "is_link" "is_link" (defArgs (top 22)) (defBody (top 22)) (defScope (top 22)) [] [] f fd ∧ mg "is_link" = some (.ref f) := by
  obtain ⟨fd, F⟩ := c.n.1.def_ 10 (d := e10) rfl
  exact ⟨_, fd, F, He.glo_ok X G (c.n.1.fact 10 (f := .glo "is_link") rfl)⟩
theorem f11 (X : K.In h) (G : h.Ns mainGlobals mg) (c : SaysX hd h K) : ∃ f fd, FunD K "ends_in" "ends_in" (defArgs (top 23)) (defBody (top 23)) (defScope (top 23)) [] [] f fd ∧ mg "ends_in" = some (.ref f) := by
  obtain ⟨fd, F⟩ := c.n.1.def_ 11 (d := e11) rfl
  exact ⟨_, fd, F, He.glo_ok X G (c.n.1.fact 11 (f := .glo "ends_in") rfl)⟩
theorem f12 (X : K.In h) (G : h.Ns mainGlobals mg) (c : SaysX hd h K) : ∃ f fd, FunD K "is_cut_in" "is_cut_in" (defArgs (top 24)) (defBody (top 24)) (defScope (top 24)) [] [] f fd ∧ mg "is_cut_in" = some (.ref f) := by
  obtain ⟨fd, F⟩ := c.n.1.def_ 12 (d := e12) rfl
  exact ⟨_, fd, F, He.glo_ok X G (c.n.1.fact 12 (f := .glo "is_cut_in") rfl)⟩
theorem f13 (X : K.In h) (G : h.Ns mainGlobals mg) (c : SaysX hd h K) : ∃ f fd, FunD K "crossing" "crossing" (defArgs (top 25)) (defBody (top 25)) (defScope (top 25)) [] [] f fd ∧ mg "crossing" = some (.ref f) := by
  obtain ⟨fd, F⟩ := c.n.1.def_ 13 (d := e13) rfl
  exact ⟨_, fd, F, He.glo_ok X G (c.n.1.fact 13 (f := .glo "crossing") rfl)⟩
theorem f14 (X : K.In h) (G : h.Ns mainGlobals mg) (c : SaysX hd h K) : ∃ f fd, FunD K "link_between" "link_between" (defArgs (top 26)) (defBody (top 26)) (defScope (top 26)) [] [] f fd ∧ mg "link_between" = some (.ref f) := by
  obtain ⟨fd, F⟩ := c.n.1.def_ 14 (d := e14) rfl
  exact ⟨_, fd, F, He.glo_ok X G (c.n.1.fact 14 (f := .glo "link_between") rfl)⟩
theorem f15 (X : K.In h) (G : h.Ns mainGlobals mg) (c : SaysX hd h K) : ∃ f fd, FunD K "need_span" "need_span" (defArgs (top 31)) (defBody (top 31)) (defScope (top 31)) [] [] f fd ∧ mg "need_span" = some (.ref f) := by
  obtain ⟨fd, F⟩ := c.n.1.def_ 15 (d := e15) rfl
  exact ⟨_, fd, F, He.glo_ok X G (c.n.1.fact 15 (f := .glo "need_span") rfl)⟩
theorem f16 (X : K.In h) (G : h.Ns mainGlobals mg) (c : SaysX hd h K) : ∃ f fd, FunD K "ties_in" "ties_in" (defArgs (top 32)) (defBody (top 32)) (defScope (top 32)) [] [] f fd ∧ mg "ties_in" = some (.ref f) := by
  obtain ⟨fd, F⟩ := c.n.1.def_ 16 (d := e16) rfl
  exact ⟨_, fd, F, He.glo_ok X G (c.n.1.fact 16 (f := .glo "ties_in") rfl)⟩
theorem f17 (X : K.In h) (G : h.Ns mainGlobals mg) (c : SaysX hd h K) : ∃ f fd, FunD K "spread" "spread" (defArgs (top 33)) (defBody (top 33)) (defScope (top 33)) [] [] f fd ∧ mg "spread" = some (.ref f) := by
  obtain ⟨fd, F⟩ := c.n.1.def_ 17 (d := e17) rfl
  exact ⟨_, fd, F, He.glo_ok X G (c.n.1.fact 17 (f := .glo "spread") rfl)⟩
theorem f18 (X : K.In h) (G : h.Ns mainGlobals mg) (c : SaysX hd h K) : ∃ f fd, FunD K "signs_in" "signs_in" (defArgs (top 34)) (defBody (top 34)) (defScope (top 34)) [] [] f fd ∧ mg "signs_in" = some (.ref f) := by
  obtain ⟨fd, F⟩ := c.n.1.def_ 18 (d := e18) rfl
  exact ⟨_, fd, F, He.glo_ok X G (c.n.1.fact 18 (f := .glo "signs_in") rfl)⟩
theorem f19 (X : K.In h) (G : h.Ns mainGlobals mg) (c : SaysX hd h K) : ∃ f fd, FunD K "is_round" "is_round" (defArgs (top 35)) (defBody (top 35)) (defScope (top 35)) [] [] f fd ∧ mg "is_round" = some (.ref f) := by
  obtain ⟨fd, F⟩ := c.n.1.def_ 19 (d := e19) rfl
  exact ⟨_, fd, F, He.glo_ok X G (c.n.1.fact 19 (f := .glo "is_round") rfl)⟩
theorem f20 (X : K.In h) (G : h.Ns mainGlobals mg) (c : SaysX hd h K) : ∃ f fd, FunD K "is_step" "is_step" (defArgs (top 36)) (defBody (top 36)) (defScope (top 36)) [] [] f fd ∧ mg "is_step" = some (.ref f) := by
  obtain ⟨fd, F⟩ := c.n.1.def_ 20 (d := e20) rfl
  exact ⟨_, fd, F, He.glo_ok X G (c.n.1.fact 20 (f := .glo "is_step") rfl)⟩
theorem f21 (X : K.In h) (G : h.Ns mainGlobals mg) (c : SaysX hd h K) : ∃ f fd, FunD K "is_odd_in" "is_odd_in" (defArgs (top 37)) (defBody (top 37)) (defScope (top 37)) [] [] f fd ∧ mg "is_odd_in" = some (.ref f) := by
  obtain ⟨fd, F⟩ := c.n.1.def_ 21 (d := e21) rfl
  exact ⟨_, fd, F, He.glo_ok X G (c.n.1.fact 21 (f := .glo "is_odd_in") rfl)⟩
theorem f22 (X : K.In h) (G : h.Ns mainGlobals mg) (c : SaysX hd h K) : ∃ f fd, FunD K "is_odd" "is_odd" (defArgs (top 38)) (defBody (top 38)) (defScope (top 38)) [] [] f fd ∧ mg "is_odd" = some (.ref f) := by
  obtain ⟨fd, F⟩ := c.n.1.def_ 22 (d := e22) rfl
  exact ⟨_, fd, F, He.glo_ok X G (c.n.1.fact 22 (f := .glo "is_odd") rfl)⟩
theorem f23 (X : K.In h) (G : h.Ns mainGlobals mg) (c : SaysX hd h K) : ∃ f fd, FunD K "links_along" "links_along" (defArgs (top 40)) (defBody (top 40)) (defScope (top 40)) [] [] f fd ∧ mg "links_along" = some (.ref f) := by
  obtain ⟨fd, F⟩ := c.n.1.def_ 23 (d := e23) rfl
  exact ⟨_, fd, F, He.glo_ok X G (c.n.1.fact 23 (f := .glo "links_along") rfl)⟩
theorem f24 (X : K.In h) (G : h.Ns mainGlobals mg) (c : SaysX hd h K) : ∃ f fd, FunD K "is_route" "is_route" (defArgs (top 41)) (defBody (top 41)) (defScope (top 41)) [] [] f fd ∧ mg "is_route" = some (.ref f) := by
  obtain ⟨fd, F⟩ := c.n.1.def_ 24 (d := e24) rfl
  exact ⟨_, fd, F, He.glo_ok X G (c.n.1.fact 24 (f := .glo "is_route") rfl)⟩
theorem f25 (X : K.In h) (G : h.Ns mainGlobals mg) (c : SaysX hd h K) : ∃ f fd, FunD K "is_stand_in" "is_stand_in" (defArgs (top 42)) (defBody (top 42)) (defScope (top 42)) [] [] f fd ∧ mg "is_stand_in" = some (.ref f) := by
  obtain ⟨fd, F⟩ := c.n.1.def_ 25 (d := e25) rfl
  exact ⟨_, fd, F, He.glo_ok X G (c.n.1.fact 25 (f := .glo "is_stand_in") rfl)⟩
theorem f26 (X : K.In h) (G : h.Ns mainGlobals mg) (c : SaysX hd h K) : ∃ f fd, FunD K "cells_in" "cells_in" (defArgs (top 43)) (defBody (top 43)) (defScope (top 43)) [] [] f fd ∧ mg "cells_in" = some (.ref f) := by
  obtain ⟨fd, F⟩ := c.n.1.def_ 26 (d := e26) rfl
  exact ⟨_, fd, F, He.glo_ok X G (c.n.1.fact 26 (f := .glo "cells_in") rfl)⟩
theorem f27 (X : K.In h) (G : h.Ns mainGlobals mg) (c : SaysX hd h K) : ∃ f fd, FunD K "need_sound" "need_sound" (defArgs (top 45)) (defBody (top 45)) (defScope (top 45)) [] [] f fd ∧ mg "need_sound" = some (.ref f) := by
  obtain ⟨fd, F⟩ := c.n.1.def_ 27 (d := e27) rfl
  exact ⟨_, fd, F, He.glo_ok X G (c.n.1.fact 27 (f := .glo "need_sound") rfl)⟩
theorem f28 (X : K.In h) (G : h.Ns mainGlobals mg) (c : SaysX hd h K) : ∃ f fd, FunD K "is_bad_by" "is_bad_by" (defArgs (top 46)) (defBody (top 46)) (defScope (top 46)) [] [] f fd ∧ mg "is_bad_by" = some (.ref f) := by
  obtain ⟨fd, F⟩ := c.n.1.def_ 28 (d := e28) rfl
  exact ⟨_, fd, F, He.glo_ok X G (c.n.1.fact 28 (f := .glo "is_bad_by") rfl)⟩
theorem f29 (X : K.In h) (G : h.Ns mainGlobals mg) (c : SaysX hd h K) : ∃ f fd, FunD K "settings_in" "settings_in" (defArgs (top 48)) (defBody (top 48)) (defScope (top 48)) [] [] f fd ∧ mg "settings_in" = some (.ref f) := by
  obtain ⟨fd, F⟩ := c.n.1.def_ 29 (d := e29) rfl
  exact ⟨_, fd, F, He.glo_ok X G (c.n.1.fact 29 (f := .glo "settings_in") rfl)⟩
theorem f30 (X : K.In h) (G : h.Ns mainGlobals mg) (c : SaysX hd h K) : ∃ f fd, FunD K "chosen_in" "chosen_in" (defArgs (top 49)) (defBody (top 49)) (defScope (top 49)) [] [] f fd ∧ mg "chosen_in" = some (.ref f) := by
  obtain ⟨fd, F⟩ := c.n.1.def_ 30 (d := e30) rfl
  exact ⟨_, fd, F, He.glo_ok X G (c.n.1.fact 30 (f := .glo "chosen_in") rfl)⟩
theorem f31 (X : K.In h) (G : h.Ns mainGlobals mg) (c : SaysX hd h K) : ∃ f fd, FunD K "is_crowd_in" "is_crowd_in" (defArgs (top 50)) (defBody (top 50)) (defScope (top 50)) [] [] f fd ∧ mg "is_crowd_in" = some (.ref f) := by
  obtain ⟨fd, F⟩ := c.n.1.def_ 31 (d := e31) rfl
  exact ⟨_, fd, F, He.glo_ok X G (c.n.1.fact 31 (f := .glo "is_crowd_in") rfl)⟩
theorem f32 (X : K.In h) (G : h.Ns mainGlobals mg) (c : SaysX hd h K) : ∃ f fd, FunD K "is_crowd" "is_crowd" (defArgs (top 51)) (defBody (top 51)) (defScope (top 51)) [] [] f fd ∧ mg "is_crowd" = some (.ref f) := by
  obtain ⟨fd, F⟩ := c.n.1.def_ 32 (d := e32) rfl
  exact ⟨_, fd, F, He.glo_ok X G (c.n.1.fact 32 (f := .glo "is_crowd") rfl)⟩
theorem f33 (X : K.In h) (G : h.Ns mainGlobals mg) (c : SaysX hd h K) : ∃ f fd, FunD K "do_fit" "do_fit" (defArgs (top 56)) (defBody (top 56)) (defScope (top 56)) [] [] f fd ∧ mg "do_fit" = some (.ref f) := by
  obtain ⟨fd, F⟩ := c.n.1.def_ 33 (d := e33) rfl
  exact ⟨_, fd, F, He.glo_ok X G (c.n.1.fact 33 (f := .glo "do_fit") rfl)⟩
theorem f34 (X : K.In h) (G : h.Ns mainGlobals mg) (c : SaysX hd h K) : ∃ f fd, FunD K "are_rows" "are_rows" (defArgs (top 59)) (defBody (top 59)) (defScope (top 59)) [] [] f fd ∧ mg "are_rows" = some (.ref f) := by
  obtain ⟨fd, F⟩ := c.n.1.def_ 34 (d := e34) rfl
  exact ⟨_, fd, F, He.glo_ok X G (c.n.1.fact 34 (f := .glo "are_rows") rfl)⟩
theorem f35 (X : K.In h) (G : h.Ns mainGlobals mg) (c : SaysX hd h K) : ∃ f fd, FunD K "need_form" "need_form" (defArgs (top 57)) (defBody (top 57)) (defScope (top 57)) [] [] f fd ∧ mg "need_form" = some (.ref f) := by
  obtain ⟨fd, F⟩ := c.n.1.def_ 35 (d := e35) rfl
  exact ⟨_, fd, F, He.glo_ok X G (c.n.1.fact 35 (f := .glo "need_form") rfl)⟩
theorem f36 (X : K.In h) (G : h.Ns mainGlobals mg) (c : SaysX hd h K) : ∃ f fd, FunD K "check_sound" "check_sound" (defArgs (top 58)) (defBody (top 58)) (defScope (top 58)) [] [] f fd ∧ mg "check_sound" = some (.ref f) := by
  obtain ⟨fd, F⟩ := c.n.1.def_ 36 (d := e36) rfl
  exact ⟨_, fd, F, He.glo_ok X G (c.n.1.fact 36 (f := .glo "check_sound") rfl)⟩
theorem f37 (X : K.In h) (G : h.Ns mainGlobals mg) (c : SaysX hd h K) : ∃ f fd, FunD K "check_free" "check_free" (defArgs (top 60)) (defBody (top 60)) (defScope (top 60)) [] [] f fd ∧ mg "check_free" = some (.ref f) := by
  obtain ⟨fd, F⟩ := c.n.1.def_ 37 (d := e37) rfl
  exact ⟨_, fd, F, He.glo_ok X G (c.n.1.fact 37 (f := .glo "check_free") rfl)⟩
theorem f38 (X : K.In h) (G : h.Ns mainGlobals mg) (c : SaysX hd h K) : ∃ f fd, FunD K "check_bad" "check_bad" (defArgs (top 61)) (defBody (top 61)) (defScope (top 61)) [] [] f fd ∧ mg "check_bad" = some (.ref f) := by
  obtain ⟨fd, F⟩ := c.n.1.def_ 38 (d := e38) rfl
  exact ⟨_, fd, F, He.glo_ok X G (c.n.1.fact 38 (f := .glo "check_bad") rfl)⟩
theorem f39 (X : K.In h) (G : h.Ns mainGlobals mg) (c : SaysX hd h K) : ∃ f fd, FunD K "_law_empty_right" "_law_empty_right" (defArgs (top 64)) (defBody (top 64)) (defScope (top 64)) [] [] f fd ∧ mg "_law_empty_right" = some (.ref f) := by
  obtain ⟨fd, F⟩ := c.n.1.def_ 39 (d := e39) rfl
  exact ⟨_, fd, F, He.glo_ok X G (c.n.1.fact 39 (f := .glo "_law_empty_right") rfl)⟩
theorem f40 (X : K.In h) (G : h.Ns mainGlobals mg) (c : SaysX hd h K) : ∃ f fd, FunD K "law" "law" (defArgs (top 65)) (defBody (top 65)) (defScope (top 65)) [] [] f fd ∧ mg "law" = some (.ref f) := by
  obtain ⟨fd, F⟩ := c.n.1.def_ 40 (d := e40) rfl
  exact ⟨_, fd, F, He.glo_ok X G (c.n.1.fact 40 (f := .glo "law") rfl)⟩
theorem f41 (X : K.In h) (G : h.Ns mainGlobals mg) (c : SaysX hd h K) : ∃ f fd, FunD K "_law_word" "_law_word" (defArgs (top 63)) (defBody (top 63)) (defScope (top 63)) [] [] f fd ∧ mg "_law_word" = some (.ref f) := by
  obtain ⟨fd, F⟩ := c.n.1.def_ 41 (d := e41) rfl
  exact ⟨_, fd, F, He.glo_ok X G (c.n.1.fact 41 (f := .glo "_law_word") rfl)⟩
theorem all (X : K.In h) (G : h.Ns mainGlobals mg) (c : SaysX hd h K) : AllOk K mg fs cs 60 fs bs := .cons (d := d0) (b := b0) (o0 (f0 X G c)) (.cons (d := d1) (b := b1) (o1 (f1 X G c)) (.cons (d := d2) (b := b2) (o2 (f2 X G c)) (.cons (d := d3) (b := b3) (o3 (f3 X G c)) (.cons (d := d4) (b := b4) (o4 (f4 X G c)) (.cons (d := d5) (b := b5) (o5 (f5 X G c)) (.cons (d := d6) (b := b6) (o6 (f6 X G c)) (.cons (d := d7) (b := b7) (o7 (f7 X G c)) (.cons (d := d8) (b := b8) (o8 (f8 X G c)) (.cons (d := d9) (b := b9) (o9 (f9 X G c)) (.cons (d := d10) (b := b10) (o10 (f10 X G c)) (.cons (d := d11) (b := b11) (o11 (f11 X G c)) (.cons (d := d12) (b := b12) (o12 (f12 X G c)) (.cons (d := d13) (b := b13) (o13 (f13 X G c)) (.cons (d := d14) (b := b14) (o14 (f14 X G c)) (.cons (d := d15) (b := b15) (o15 (f15 X G c)) (.cons (d := d16) (b := b16) (o16 (f16 X G c)) (.cons (d := d17) (b := b17) (o17 (f17 X G c)) (.cons (d := d18) (b := b18) (o18 (f18 X G c)) (.cons (d := d19) (b := b19) (o19 (f19 X G c)) (.cons (d := d20) (b := b20) (o20 (f20 X G c)) (.cons (d := d21) (b := b21) (o21 (f21 X G c)) (.cons (d := d22) (b := b22) (o22 (f22 X G c)) (.cons (d := d23) (b := b23) (o23 (f23 X G c)) (.cons (d := d24) (b := b24) (o24 (f24 X G c)) (.cons (d := d25) (b := b25) (o25 (f25 X G c)) (.cons (d := d26) (b := b26) (o26 (f26 X G c)) (.cons (d := d27) (b := b27) (o27 (f27 X G c)) (.cons (d := d28) (b := b28) (o28 (f28 X G c)) (.cons (d := d29) (b := b29) (o29 (f29 X G c)) (.cons (d := d30) (b := b30) (o30 (f30 X G c)) (.cons (d := d31) (b := b31) (o31 (f31 X G c)) (.cons (d := d32) (b := b32) (o32 (f32 X G c)) (.cons (d := d33) (b := b33) (o33 (f33 X G c)) (.cons (d := d34) (b := b34) (o34 (f34 X G c)) (.nil)))))))))))))))))))))))))))))))))))
theorem home (X : K.In h) (G : h.Ns mainGlobals mg) (c : SaysX hd h K) : Home mg cs :=
  ⟨con_cons (con_int (He.int_ok X G (c.n.1.fact 61 (f := .int "MOST_PIECES" 10) rfl))) (con_cons (con_int (He.int_ok X G (c.n.1.fact 62 (f := .int "LEAST_CELLS" 2) rfl))) (con_cons (con_int (He.int_ok X G (c.n.1.fact 63 (f := .int "MOST_CELLS" 9) rfl))) (con_cons (con_int (He.int_ok X G (c.n.1.fact 64 (f := .int "MOST_JOINTS" 10) rfl))) (con_cons (con_int (He.int_ok X G (c.n.1.fact 65 (f := .int "MOST_BRANCHES" 3) rfl))) (con_cons (con_int (He.int_ok X G (c.n.1.fact 66 (f := .int "POWER" (-1)) rfl))) (con_cons (con_str (He.str_ok X G (c.n.1.fact 67 (f := .str "LINK" "link") rfl))) (con_cons (con_str (He.str_ok X G (c.n.1.fact 68 (f := .str "FEED" "feed") rfl))) (con_cons (con_str (He.str_ok X G (c.n.1.fact 69 (f := .str "SIGNS" "signs") rfl))) (con_cons (con_str (He.str_ok X G (c.n.1.fact 70 (f := .str "ODD" "odd") rfl))) (con_cons (con_str (He.str_ok X G (c.n.1.fact 71 (f := .str "BAD" "bad") rfl))) (con_nil))))))))))),
    List.forall_mem_cons.mpr ⟨He.free_ok X G (c.n.1.fact 42 (f := .free "len") rfl), List.forall_mem_cons.mpr ⟨He.free_ok X G (c.n.1.fact 43 (f := .free "int") rfl), List.forall_mem_cons.mpr ⟨He.free_ok X G (c.n.1.fact 44 (f := .free "min") rfl), List.forall_mem_cons.mpr ⟨He.free_ok X G (c.n.1.fact 45 (f := .free "max") rfl), List.forall_mem_cons.mpr ⟨He.free_ok X G (c.n.1.fact 46 (f := .free "all") rfl), List.forall_mem_cons.mpr ⟨He.free_ok X G (c.n.1.fact 47 (f := .free "any") rfl), List.forall_mem_cons.mpr ⟨He.free_ok X G (c.n.1.fact 48 (f := .free "sum") rfl), List.forall_mem_cons.mpr ⟨He.free_ok X G (c.n.1.fact 49 (f := .free "tuple") rfl), List.forall_mem_cons.mpr ⟨He.free_ok X G (c.n.1.fact 50 (f := .free "list") rfl), List.forall_mem_cons.mpr ⟨He.free_ok X G (c.n.1.fact 51 (f := .free "isinstance") rfl), List.forall_mem_cons.mpr ⟨He.free_ok X G (c.n.1.fact 52 (f := .free "bool") rfl), List.forall_mem_cons.mpr ⟨He.free_ok X G (c.n.1.fact 53 (f := .free "str") rfl), List.forall_mem_cons.mpr ⟨He.free_ok X G (c.n.1.fact 54 (f := .free "dict") rfl), List.forall_mem_cons.mpr ⟨He.free_ok X G (c.n.1.fact 55 (f := .free "range") rfl), List.forall_mem_cons.mpr ⟨He.free_ok X G (c.n.1.fact 56 (f := .free "enumerate") rfl), List.forall_mem_cons.mpr ⟨He.free_ok X G (c.n.1.fact 57 (f := .free "zip") rfl), List.forall_mem_cons.mpr ⟨He.free_ok X G (c.n.1.fact 58 (f := .free "sorted") rfl), List.forall_mem_cons.mpr ⟨He.free_ok X G (c.n.1.fact 59 (f := .free "repr") rfl), List.forall_mem_cons.mpr ⟨He.free_ok X G (c.n.1.fact 60 (f := .free "set") rfl), List.forall_mem_nil _⟩⟩⟩⟩⟩⟩⟩⟩⟩⟩⟩⟩⟩⟩⟩⟩⟩⟩⟩⟩
theorem qx0 (X : K.In h) (G : h.Ns mainGlobals mg) (c : SaysX hd h K) (tb : ∀ p ∈ tC K hd.tf, LamX.TabB base mg p.1 p.2) : DxOk K mg base (tT K hd.tf) XK x0 false y0 := (ox0 (f35 X G c))
theorem qx1 (X : K.In h) (G : h.Ns mainGlobals mg) (c : SaysX hd h K) (tb : ∀ p ∈ tC K hd.tf, LamX.TabB base mg p.1 p.2) : DxOk K mg base (tT K hd.tf) XK x1 false y1 := (ox1 (f36 X G c))
theorem qx2 (X : K.In h) (G : h.Ns mainGlobals mg) (c : SaysX hd h K) (tb : ∀ p ∈ tC K hd.tf, LamX.TabB base mg p.1 p.2) : DxOk K mg base (tT K hd.tf) XK x2 false y2 := (ox2 (f37 X G c))
theorem qx3 (X : K.In h) (G : h.Ns mainGlobals mg) (c : SaysX hd h K) (tb : ∀ p ∈ tC K hd.tf, LamX.TabB base mg p.1 p.2) : DxOk K mg base (tT K hd.tf) XK x3 false y3 := (ox3 (f38 X G c))
theorem qx4 (X : K.In h) (G : h.Ns mainGlobals mg) (c : SaysX hd h K) (tb : ∀ p ∈ tC K hd.tf, LamX.TabB base mg p.1 p.2) : DxOk K mg base (tT K hd.tf) XK x4 true y4 := (ox4 (f39 X G c) (lm_of (d := x4) (e := e39) c (f39 X G c) (by simp [hd]) rfl (He.glo_ok X G (c.n.1.fact 39 (f := .glo "_law_empty_right") rfl)) tb))
theorem qx5 (X : K.In h) (G : h.Ns mainGlobals mg) (c : SaysX hd h K) (tb : ∀ p ∈ tC K hd.tf, LamX.TabB base mg p.1 p.2) : DxOk K mg base (tT K hd.tf) XK x5 true y5 := (ox5 (f40 X G c) (lm_of (d := x5) (e := e40) c (f40 X G c) (by simp [hd]) rfl (He.glo_ok X G (c.n.1.fact 40 (f := .glo "law") rfl)) tb))
theorem allX (X : K.In h) (G : h.Ns mainGlobals mg) (c : SaysX hd h K) (tb : ∀ p ∈ tC K hd.tf, LamX.TabB base mg p.1 p.2) : AllX K mg base (tT K hd.tf) XK xs xb := .cons (d := x0) (b := y0) (qx0 X G c tb) (.cons (d := x1) (b := y1) (qx1 X G c tb) (.cons (d := x2) (b := y2) (qx2 X G c tb) (.cons (d := x3) (b := y3) (qx3 X G c tb) (.cons (d := x4) (b := y4) (qx4 X G c tb) (.cons (d := x5) (b := y5) (qx5 X G c tb) (.nil))))))
theorem allG (X : K.In h) (G : h.Ns mainGlobals mg) (c : SaysX hd h K) : AllG K mg XK gs gb := .cons (d := g0) (b := z0) (og0 (f41 X G c)) (.nil)
theorem xok (X : K.In h) (G : h.Ns mainGlobals mg) (c : SaysX hd h K) (hf : ((P.main.file : Str) == hd.fl) = true) (hs : (P.main.scope.names.lookup ("super" : Str)).isSome = false) (tb : ∀ p ∈ tC K hd.tf, LamX.TabB base mg p.1 p.2) : XOk P w K mg base (tT K hd.tf) (cnK K) XK :=
  ⟨all X G c, home X G c, allX X G c tb, allG X G c, sb_of c, ek_cons (ek_of (d := ex0) c (by simp [hd]) (by kernel_rfl) hf hs (fun _ _ _ _ _ _ _ _ us hl => match us, hl with | [_, _], _ => rfl) (He.glo_ok X G (c.n.1.fact 72 (f := .glo "BadPaper") rfl)) (by decide +kernel) (by decide)) (ek_nil), List.forall_mem_cons.mpr ⟨⟨He.glo_ok X G (c.n.1.fact 72 (f := .glo "BadPaper") rfl), by decide +kernel⟩, List.forall_mem_nil _⟩⟩
theorem facts {f : Addr} (X : K.In h) (G : h.Ns mainGlobals mg) (c : SaysX hd h K) (hf : ((P.main.file : Str) == hd.fl) = true) (hs : (P.main.scope.names.lookup ("super" : Str)).isSome = false) (hfa : mg ("law" : Str) = some (.ref f)) :
    ∃ fd : FuncData, (∀ (s : Shared) (v : Value), BindsTo s fd ⟨[v], []⟩ [("_law_script", v)]) ∧ ∀ base : Heap, K.In base → base.Ns mainGlobals mg → (∀ p ∈ tC K hd.tf, LamX.TabB base mg p.1 p.2) → FnE P w K mg base 25 f fd ["_law_script"] (spGX (tT K hd.tf)) := by
  obtain ⟨fd, F⟩ := c.n.1.def_ 40 (d := e40) rfl
  cases hfa.symm.trans (He.glo_ok X G (c.n.1.fact 40 (f := .glo "law") rfl))
  have bb := FunD.bindsA (ps := ["_law_script"]) F fun _ _ _ _ _ _ us hl => match us, hl with | [_], _ => rfl
  exact ⟨fd, fun s v => bb s [v] rfl, fun base _ _ tb => law_groundX (d := x5) (b := y5) (k := 24) (xok X G c hf hs tb) (qx5 X G c tb) rfl F (He.glo_ok X G (c.n.1.fact 40 (f := .glo "law") rfl)) ev (by decide)⟩
end
end K21
open PySem PySem.W PySem.Calls PyProof.Rows
theorem PySem.Challenge.cw_swaprails_k21_papers_by_hand_holds : PySem.Challenge.rw_swaprails_k21_papers_by_hand.Holds := by
  w_on; o_law
  refine HandSHeadRun.head_any (r := OpenLaw.row PySem.Challenge.rw_swaprails_k21_papers_by_hand) (q := view (OpenLaw.row PySem.Challenge.rw_swaprails_k21_papers_by_hand).prog [65]) (H := K21.hk) (ob := K21.ob) (M := 6000) (loose := K21.loose) (d := HandSHeadRun.topDef (OpenLaw.row PySem.Challenge.rw_swaprails_k21_papers_by_hand).prog 65) (kwd := []) K21.ob_eq
    (by kernel_rfl) (fun s => by kernel_rfl) K21.run (by kernel_rfl) (by kernel_rfl) (by kernel_rfl) (by rfl) (by first | assumption | decide +kernel) (by decide +kernel) ⟨rfl, rfl, rfl, rfl, rfl, by decide +kernel⟩ ?hw ?hc
  case hw => w_witness2
  case hc =>
    refine Sw.walk_ofX (l := PySem.Challenge.rw_swaprails_k21_papers_by_hand) (n := 63) (k := 25) (x := "_law_script") rfl (by decide) (by kernel_rfl) ⟨rfl, by decide, by decide⟩ ?F
    intro w mg fa h Y G hm0
    obtain ⟨K, KX, c⟩ := Y
    have hm : mg ("law" : PySem.Str) = some (.ref fa) := by
      have e : (HandSHeadRun.topDef (OpenLaw.row PySem.Challenge.rw_swaprails_k21_papers_by_hand).prog 65).name = ("law" : PySem.Str) := by kernel_rfl
      rw [← e]; exact hm0
    obtain ⟨fd, hb, hF⟩ := K21.facts (P := (PySem.Challenge.rw_swaprails_k21_papers_by_hand).prog) (w := w) KX G c (by kernel_rfl) (by kernel_rfl) hm
    exact Sw.lawAt_of KX c hb hF


