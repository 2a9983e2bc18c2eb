import PyProof.Rows.All
import Wide.All
import OpenK.AllK
import Wide.FinOn
import PySem.Challenge.RW_bitspans_k18_spans_and_codes_told
import HandS.ForMost
import HandS.ForExc
import HandS.Defaults
import HandS.IsInst
import HandS.Wide
import HandS.WideBits
import HandS.Flow
import HandS.TryMany
import HandS.CallSlots
import HandS.Walk
import HandS.Lambda
import HandS.TupAny
import HandS.Conv
import HandS.Style
import PyProof.ReprReads
import HandS.Deep
import HandS.RaiseMore
import PyProof.ReprRoads
import HandS.SuiteRaise
import HandS.RaiseFrom
import KE.KAsSuite
import KE.GoesEnum
import HandS.HeadHook2
import KE.GoesZip
import KE.GoesMore
import HandS.Star
import HandS.TupMul
import HandS.SortOrd
import HandS.SortRule
import KE.KSortTupAny
import KE.KDictSum
import PyProof.TupleOfSeq
import PyProof.Rows.SortKeyStr
import PyProof.DictDisplay
import KE.KDictDisplayH
import HandS.Keys
import KE.KSortKeyAny
import PyProof.Rows.SortStr
import HandS.DictTup
import HandS.TupLe
import KE.KDictCopyH
import HandS.DictComp
import HandS.TupLen
import HandS.GenList
import HandS.ExcField
import HandS.ExcInit
import HandS.TryOnly
import HandS.ExcIs
import KE.KExcSuper
import KE.KDictPairs
import PyProof.P3In
import KE.KExcIs
import HandS.SetKeys
import HandS.FStr
import HandS.HeadEnd
import HandS.EndTab
import HandS.GenYield
import KE.KStateDown
import HandS.Head0
import HandS.Head1
import HandS.Head2
import HandS.HeadHook4
import PyProof.ReprLen
import KE.OsArith
import KE.IntBitsLaws
set_option Elab.async false
set_option linter.all false
set_option maxRecDepth 100000
set_option maxHeartbeats 4000000
namespace DL
open PySem PySem.Spec PyProof.Rows L2
abbrev Fg := PySem.W.Frag
inductive D where
  | non | bl (b : Bool) | int (i : Int) | str (x : Str) | ty (n : String) | ref (n : Nat) | tup (xs : List D) | lst (xs : List D) | fro (xs : List D) | wtp (xs : List D)
/-- an object that changes: a list, a dict with keys that are numbers or texts, one with keys that are tuples of these, an instance of the class of index c -/
inductive O where
  | lst (xs : List D) | dic (kvs : List (Key × D)) | dit (kvs : List (List Key × D)) | fit (kvs : List (List Key × D)) | fic (kvs : List (Key × D)) | ins (c : Nat) (fs : List (Str × D))
/-- a value in flight: a tree; a new list; an own list of a slot -/
inductive W where
  | d (x : D) | new (xs : List D) | own (xs : List D) | fn (a : Addr)
abbrev Hs := List O
/-- the classes by index; the tables of code objects -/
structure Cm where
  cl : Nat → Addr
  T : List (Addr × Str)
instance : CoeFun Cm fun _ => Nat → Addr := ⟨Cm.cl⟩
abbrev DSt := List (Option W)
/-- how trees stand in the heap: the places of shared objects; the lists that never change any more -/
structure Rg where
  n : Nat
  at_ : Nat → Addr
  fz : Addr → Prop
/-- a list that never changes any more -/
def FzL (R : Rg) (H : Hp) (a : Addr) (vs : List V) : Prop := R.fz a ∧ H a = some (.lst vs)
/-- a list of another's: the script, one of the module -/
def FoL (K : Fg) (H : Hp) (a : Addr) (vs : List V) : Prop := (∃ o, H a = some (.frz o (.lst vs))) ∨
    ∃ (o : Obj) (its : Array Value) (n : Nat), K.lookup a = some o ∧ o.cls = .type "list" ∧ o.dict = none ∧ o.data = .seq its n ∧ its.size ≤ sizeLine ∧ Vals vs its.toList
/-- a tuple of the written part -/
def WrT (K : Fg) (a : Addr) (vs : List V) : Prop := ∀ H : Hp, SqT K H a vs
/-- a tracked tuple -/
def TpL (H : Hp) (a : Addr) (vs : List V) : Prop := H a = some (.tup vs)
theorem TpL.sq {K : Fg} {H : Hp} {a : Addr} {vs : List V} (r : TpL H a vs) : SqT K H a vs := .inl (.inl r)
mutual
def RelD (K : Fg) (R : Rg) (H : Hp) : D → V → Prop
  | .non, v => v = .non
  | .bl b, v => v = .bl b
  | .int i, v => v = .int i
  | .str x, v => v = .str x
  | .ty n, v => v = .ty n
  | .ref i, v => i < R.n ∧ v = .ref (R.at_ i)
  | .tup ds, v => ∃ a vs, v = .ref a ∧ TpL H a vs ∧ RelDs K R H ds vs
  | .lst ds, v => ∃ a vs, v = .ref a ∧ FzL R H a vs ∧ RelDs K R H ds vs
  | .fro ds, v => ∃ a vs, v = .ref a ∧ FoL K H a vs ∧ RelDs K R H ds vs
  | .wtp ds, v => ∃ a vs, v = .ref a ∧ WrT K a vs ∧ RelDs K R H ds vs
def RelDs (K : Fg) (R : Rg) (H : Hp) : List D → List V → Prop
  | [], vs => vs = []
  | d :: ds, vs => ∃ v r, vs = v :: r ∧ RelD K R H d v ∧ RelDs K R H ds r
end
/-- not the place of a shared object -/
def Out (R : Rg) (a : Addr) : Prop := ∀ i, i < R.n → R.at_ i ≠ a
def RelW (K : Fg) (H₁ : Hp) (R : Rg) (H : Hp) : W → V → Prop
  | .d x, v => RelD K R H x v
  | .new xs, v => ∃ a vs, v = .ref a ∧ H₁ a = none ∧ H a = some (.lst vs) ∧ ¬ R.fz a ∧ Out R a ∧ RelDs K R H xs vs
  | .own xs, v => ∃ a vs, v = .ref a ∧ H a = some (.lst vs) ∧ ¬ R.fz a ∧ Out R a ∧ RelDs K R H xs vs
  | .fn a, v => v = .ref a
def RelKd {κ : Type} (K : Fg) (R : Rg) (H : Hp) : List (κ × D) → List (κ × V) → Prop
  | [], vs => vs = []
  | (x, d) :: ds, vs => ∃ v r, vs = (x, v) :: r ∧ RelD K R H d v ∧ RelKd K R H ds r
def RelF (K : Fg) (R : Rg) (H : Hp) : List (Str × D) → List (Str × V) → Prop
  | [], vs => vs = []
  | (x, d) :: ds, vs => ∃ v r, vs = (x, v) :: r ∧ RelD K R H d v ∧ RelF K R H ds r
/-- Cl: which class an index is -/
def RelO (K : Fg) (Cl : Cm) (R : Rg) (H : Hp) : O → HO → Prop
  | .lst xs, u => ∃ vs, u = .lst vs ∧ RelDs K R H xs vs
  | .dic kvs, u => ∃ ks, u = .dK ks ∧ RelKd K R H kvs ks
  | .dit kvs, u => ∃ ks, u = .dT ks ∧ RelKd K R H kvs ks
  | .fit kvs, u => ∃ o ks, u = .frz o (.dT ks) ∧ RelKd K R H kvs ks
  | .fic kvs, u => ∃ o ks, u = .frz o (.dK ks) ∧ RelKd K R H kvs ks
  | .ins c fs, u => ∃ dx ks, u = .ins (Cl c) dx ks ∧ RelF K R H fs ks
structure HOk' (K : Fg) (Cl : Cm) (R : Rg) (H : Hp) (h : Hs) : Prop where
  len : h.length = R.n
  obj : ∀ i o, h[i]? = some o → ∃ u, H (R.at_ i) = some u ∧ RelO K Cl R H o u
  inj : ∀ i j, i < R.n → j < R.n → R.at_ i = R.at_ j → i = j
  nfz : ∀ i, i < R.n → ¬ R.fz (R.at_ i)
  fzd : ∀ a, R.fz a → ∃ vs, H a = some (.lst vs)
  tab : LamX.Tabs Cl.T H
/-- from one state to a later one: what is not shared stays -/
structure Ex (R : Rg) (H : Hp) (R' : Rg) (H' : Hp) : Prop where
  le : R.n ≤ R'.n
  at_ : ∀ i, i < R.n → R'.at_ i = R.at_ i
  fz : ∀ a, R.fz a → R'.fz a
  nat : ∀ i, R.n ≤ i → i < R'.n → H (R'.at_ i) = none
  nfz : ∀ a, R'.fz a → R.fz a ∨ H a = none
  frm : ∀ b o, H b = some o → Out R b → (∀ ps, o ≠ .tbl ps) → H' b = some o
  dom : ∀ b, H' b = none → H b = none
  lk : ∀ b o u, H b = some (.frz o u) → H' b = some (.frz o u)
section
variable {K : Fg} {Cl : Cm} {R R' R'' : Rg} {H H' H'' H₁ H₀ : Hp} {h h' : Hs}
theorem Ex.refl (R : Rg) (H : Hp) : Ex R H R H := ⟨Nat.le_refl _, fun _ _ => rfl, fun _ z => z, fun i a b => absurd b (by omega), fun _ z => .inl z, fun _ _ e _ _ => e, fun _ e => e, fun _ _ _ e => e⟩
theorem Ex.out {b : Addr} {o : HO} (x : Ex R H R' H') (e : H b = some o) (z : Out R b) : Out R' b := fun i hi q => by
  by_cases l : i < R.n
  · rw [x.at_ i l] at q; exact z i l q
  · have := x.nat i (by omega) hi; rw [q, e] at this; cases this
theorem Ex.trans (x : Ex R H R' H') (y : Ex R' H' R'' H'') : Ex R H R'' H'' where
  le := Nat.le_trans x.le y.le
  at_ := fun i hi => (y.at_ i (Nat.lt_of_lt_of_le hi x.le)).trans (x.at_ i hi)
  fz := fun a z => y.fz a (x.fz a z)
  nat := fun i a b => by
    by_cases l : i < R'.n
    · rw [y.at_ i l]; exact x.nat i a l
    · exact x.dom _ (y.nat i (by omega) b)
  nfz := fun a z => by
    rcases y.nfz a z with q | q
    · exact x.nfz a q
    · exact .inr (x.dom a q)
  frm := fun b o e z n => y.frm b o (x.frm b o e z n) (x.out e z) n
  dom := fun b e => x.dom b (y.dom b e)
  lk := fun b o u e => y.lk b o u (x.lk b o u e)
theorem HOk'.outT (ok : HOk' K Cl R H h) {a : Addr} {u : HO} (e : H a = some u) (hu : (∀ xs, u ≠ .lst xs) ∧ (∀ xs, u ≠ .dK xs) ∧ (∀ xs, u ≠ .dT xs) ∧ (∀ c d xs, u ≠ .ins c d xs) ∧ ∀ o v, u ≠ .frz o v) : Out R a := fun i hi q => by
  have hl : i < h.length := by rw [ok.len]; exact hi
  obtain ⟨u', e', r⟩ := ok.obj i h[i] (List.getElem?_eq_getElem hl)
  rw [q, e] at e'
  cases e'
  cases g : h[i] with
  | lst xs => rw [g] at r; obtain ⟨vs, e, _⟩ := r; exact hu.1 _ e
  | dic xs => rw [g] at r; obtain ⟨vs, e, _⟩ := r; exact hu.2.1 _ e
  | dit xs => rw [g] at r; obtain ⟨vs, e, _⟩ := r; exact hu.2.2.1 _ e
  | ins c xs => rw [g] at r; obtain ⟨dx, vs, e, _⟩ := r; exact hu.2.2.2.1 _ _ _ e
  | fit xs => rw [g] at r; obtain ⟨o, vs, e, _⟩ := r; exact hu.2.2.2.2 _ _ e
  | fic xs => rw [g] at r; obtain ⟨o, vs, e, _⟩ := r; exact hu.2.2.2.2 _ _ e
theorem HOk'.outF (ok : HOk' K Cl R H h) {a : Addr} (z : R.fz a) : Out R a := fun i hi q => ok.nfz i hi (by rw [q]; exact z)
theorem tpL_ex {a : Addr} {vs : List V} (ok : HOk' K Cl R H h) (x : Ex R H R' H') (r : TpL H a vs) : TpL H' a vs :=
  x.frm a _ r (ok.outT r ⟨fun _ => HO.noConfusion, fun _ => HO.noConfusion, fun _ => HO.noConfusion, fun _ _ _ => HO.noConfusion, fun _ _ => HO.noConfusion⟩) (fun _ => HO.noConfusion)
theorem fzL_ex {a : Addr} {vs : List V} (ok : HOk' K Cl R H h) (x : Ex R H R' H') (r : FzL R H a vs) : FzL R' H' a vs :=
  ⟨x.fz a r.1, x.frm a _ r.2 (ok.outF r.1) (fun _ => HO.noConfusion)⟩
theorem foL_ex {a : Addr} {vs : List V} (ok : HOk' K Cl R H h) (x : Ex R H R' H') (r : FoL K H a vs) : FoL K H' a vs := by
  rcases r with ⟨o, r⟩ | r
  · exact .inl ⟨o, x.lk _ _ _ r⟩
  · exact .inr r
theorem FzL.sq {a : Addr} {vs : List V} (r : FzL R H a vs) : SqL K H a vs := .inl (.inl r.2)
theorem FoL.sq {a : Addr} {vs : List V} (r : FoL K H a vs) : SqL K H a vs := by
  rcases r with ⟨o, r⟩ | r
  · exact .inl (.inr ⟨o, r⟩)
  · exact .inr r
/-- what trees lean on stays; locked things may be let go -/
structure Mo0 (K : Fg) (R : Rg) (H : Hp) (R' : Rg) (H' : Hp) : Prop where
  le : R.n ≤ R'.n
  at_ : ∀ i, i < R.n → R'.at_ i = R.at_ i
  tup : ∀ a vs, TpL H a vs → TpL H' a vs
  lst : ∀ a vs, FzL R H a vs → FzL R' H' a vs
  fro : ∀ a vs, FoL K H a vs → FoL K H' a vs
/-- what trees lean on stays -/
structure Mo (K : Fg) (R : Rg) (H : Hp) (R' : Rg) (H' : Hp) : Prop where
  le : R.n ≤ R'.n
  at_ : ∀ i, i < R.n → R'.at_ i = R.at_ i
  tup : ∀ a vs, TpL H a vs → TpL H' a vs
  lst : ∀ a vs, FzL R H a vs → FzL R' H' a vs
  fro : ∀ a vs, FoL K H a vs → FoL K H' a vs
  lk : ∀ b o u, H b = some (.frz o u) → H' b = some (.frz o u)
theorem Ex.mo (ok : HOk' K Cl R H h) (x : Ex R H R' H') : Mo K R H R' H' := ⟨x.le, x.at_, fun _ _ r => tpL_ex ok x r, fun _ _ r => fzL_ex ok x r, fun _ _ r => foL_ex ok x r, x.lk⟩
mutual
theorem relD_mo0 (x : Mo0 K R H R' H') : ∀ {d : D} {v : V}, RelD K R H d v → RelD K R' H' d v
  | .non, v, r => by unfold RelD at r ⊢; exact r
  | .bl _, v, r => by unfold RelD at r ⊢; exact r
  | .int _, v, r => by unfold RelD at r ⊢; exact r
  | .str _, v, r => by unfold RelD at r ⊢; exact r
  | .ty _, v, r => by unfold RelD at r ⊢; exact r
  | .ref i, v, r => by
    unfold RelD at r ⊢
    exact ⟨Nat.lt_of_lt_of_le r.1 x.le, by rw [x.at_ i r.1]; exact r.2⟩
  | .tup ds, v, r => by
    unfold RelD at r ⊢
    obtain ⟨a, vs, e, q, t⟩ := r
    exact ⟨a, vs, e, x.tup _ _ q, relDs_mo0 x t⟩
  | .lst ds, v, r => by
    unfold RelD at r ⊢
    obtain ⟨a, vs, e, q, t⟩ := r
    exact ⟨a, vs, e, x.lst _ _ q, relDs_mo0 x t⟩
  | .fro ds, v, r => by
    unfold RelD at r ⊢
    obtain ⟨a, vs, e, q, t⟩ := r
    exact ⟨a, vs, e, x.fro _ _ q, relDs_mo0 x t⟩
  | .wtp ds, v, r => by
    unfold RelD at r ⊢
    obtain ⟨a, vs, e, q, t⟩ := r
    exact ⟨a, vs, e, q, relDs_mo0 x t⟩
theorem relDs_mo0 (x : Mo0 K R H R' H') : ∀ {ds : List D} {vs : List V}, RelDs K R H ds vs → RelDs K R' H' ds vs
  | [], vs, r => by unfold RelDs at r ⊢; exact r
  | d :: ds, vs, r => by
    unfold RelDs at r ⊢
    obtain ⟨v, q, e, r1, r2⟩ := r
    exact ⟨v, q, e, relD_mo0 x r1, relDs_mo0 x r2⟩
end
theorem relF_mo0 (x : Mo0 K R H R' H') : ∀ {ds : List (Str × D)} {vs : List (Str × V)}, RelF K R H ds vs → RelF K R' H' ds vs
  | [], vs, r => r
  | (y, d) :: ds, vs, r => by
    obtain ⟨v, q, e, r1, r2⟩ := r
    exact ⟨v, q, e, relD_mo0 x r1, relF_mo0 x r2⟩
theorem relKd_mo0 {κ : Type} (x : Mo0 K R H R' H') : ∀ {ds : List (κ × D)} {vs : List (κ × V)}, RelKd K R H ds vs → RelKd K R' H' ds vs
  | [], vs, r => r
  | (y, d) :: ds, vs, r => by
    obtain ⟨v, q, e, r1, r2⟩ := r
    exact ⟨v, q, e, relD_mo0 x r1, relKd_mo0 x r2⟩
theorem relO_mo0 (x : Mo0 K R H R' H') {o : O} {u : HO} (r : RelO K Cl R H o u) : RelO K Cl R' H' o u := by
  cases o with
  | lst xs => obtain ⟨vs, e, t⟩ := r; exact ⟨vs, e, relDs_mo0 x t⟩
  | dic xs => obtain ⟨vs, e, t⟩ := r; exact ⟨vs, e, relKd_mo0 x t⟩
  | dit xs => obtain ⟨vs, e, t⟩ := r; exact ⟨vs, e, relKd_mo0 x t⟩
  | ins c xs => obtain ⟨dx, vs, e, t⟩ := r; exact ⟨dx, vs, e, relF_mo0 x t⟩
  | fit xs => obtain ⟨o, vs, e, t⟩ := r; exact ⟨o, vs, e, relKd_mo0 x t⟩
  | fic xs => obtain ⟨o, vs, e, t⟩ := r; exact ⟨o, vs, e, relKd_mo0 x t⟩
theorem Mo.m0 (x : Mo K R H R' H') : Mo0 K R H R' H' := ⟨x.le, x.at_, x.tup, x.lst, x.fro⟩
theorem relD_mo (x : Mo K R H R' H') {d : D} {v : V} (r : RelD K R H d v) : RelD K R' H' d v := relD_mo0 x.m0 r
theorem relDs_mo (x : Mo K R H R' H') {ds : List D} {vs : List V} (r : RelDs K R H ds vs) : RelDs K R' H' ds vs := relDs_mo0 x.m0 r
theorem relF_mo (x : Mo K R H R' H') {ds : List (Str × D)} {vs : List (Str × V)} (r : RelF K R H ds vs) : RelF K R' H' ds vs := relF_mo0 x.m0 r
theorem relO_mo (x : Mo K R H R' H') {o : O} {u : HO} (r : RelO K Cl R H o u) : RelO K Cl R' H' o u := relO_mo0 x.m0 r
theorem relD_ex (ok : HOk' K Cl R H h) (x : Ex R H R' H') {d : D} {v : V} (r : RelD K R H d v) : RelD K R' H' d v := relD_mo (x.mo ok) r
theorem relDs_ex (ok : HOk' K Cl R H h) (x : Ex R H R' H') {d : List D} {v : List V} (r : RelDs K R H d v) : RelDs K R' H' d v := relDs_mo (x.mo ok) r
theorem relF_ex (ok : HOk' K Cl R H h) (x : Ex R H R' H') {d : List (Str × D)} {v : List (Str × V)} (r : RelF K R H d v) : RelF K R' H' d v := relF_mo (x.mo ok) r
theorem relO_ex (ok : HOk' K Cl R H h) (x : Ex R H R' H') {o : O} {u : HO} (r : RelO K Cl R H o u) : RelO K Cl R' H' o u := relO_mo (x.mo ok) r
theorem relW_ex (ok : HOk' K Cl R H h) (x : Ex R H R' H') {w : W} {v : V} (r : RelW K H₁ R H w v) : RelW K H₁ R' H' w v := by
  cases w with
  | d _ => exact relD_ex ok x r
  | new xs =>
    obtain ⟨a, vs, e, n1, q, nf, o, t⟩ := r
    refine ⟨a, vs, e, n1, x.frm a _ q o (fun _ => HO.noConfusion), fun z => ?_, x.out q o, relDs_ex ok x t⟩
    rcases x.nfz a z with z | z
    · exact nf z
    · rw [q] at z; cases z
  | own xs =>
    obtain ⟨a, vs, e, q, nf, o, t⟩ := r
    refine ⟨a, vs, e, x.frm a _ q o (fun _ => HO.noConfusion), fun z => ?_, x.out q o, relDs_ex ok x t⟩
    rcases x.nfz a z with z | z
    · exact nf z
    · rw [q] at z; cases z
  | fn _ => exact r
theorem relW_start {w : W} {v : V} (hd : ∀ b, H₁ b = none → H₀ b = none) (r : RelW K H₁ R H w v) : RelW K H₀ R H w v := by
  cases w with
  | d _ => exact r
  | own _ => exact r
  | fn _ => exact r
  | new xs => obtain ⟨a, vs, e, n1, q⟩ := r; exact ⟨a, vs, e, hd a n1, q⟩
theorem relDs_len : ∀ {ds : List D} {vs : List V}, RelDs K R H ds vs → ds.length = vs.length
  | [], vs, r => by unfold RelDs at r; subst r; rfl
  | d :: ds, vs, r => by
    unfold RelDs at r
    obtain ⟨v, q, e, r1, r2⟩ := r
    subst e
    simp [relDs_len r2]
theorem relDs_get : ∀ {ds : List D} {vs : List V} {i : Nat} {d : D}, RelDs K R H ds vs → ds[i]? = some d → ∃ v, vs[i]? = some v ∧ RelD K R H d v
  | [], vs, i, d, r, e => by simp at e
  | d :: ds, vs, i, d', r, e => by
    unfold RelDs at r
    obtain ⟨v, q, e1, r1, r2⟩ := r
    subst e1
    cases i with
    | zero => simp at e; subst e; exact ⟨v, rfl, r1⟩
    | succ i =>
      obtain ⟨w, h1, h2⟩ := relDs_get (i := i) r2 (by simpa using e)
      exact ⟨w, by simpa using h1, h2⟩
theorem relDs_append : ∀ {ds es : List D} {vs us : List V}, RelDs K R H ds vs → RelDs K R H es us → RelDs K R H (ds ++ es) (vs ++ us)
  | [], es, vs, us, r, s => by unfold RelDs at r; subst r; exact s
  | d :: ds, es, vs, us, r, s => by
    unfold RelDs at r
    obtain ⟨v, q, e1, r1, r2⟩ := r
    subst e1
    show RelDs K R H (d :: (ds ++ es)) (v :: (q ++ us))
    unfold RelDs
    exact ⟨v, _, rfl, r1, relDs_append r2 s⟩
theorem relDs_set : ∀ {ds : List D} {vs : List V} {d : D} {v : V} (i : Nat), RelDs K R H ds vs → RelD K R H d v → RelDs K R H (ds.set i d) (vs.set i v)
  | [], vs, d, v, i, r, s => by unfold RelDs at r; subst r; simp; unfold RelDs; rfl
  | d0 :: ds, vs, d, v, i, r, s => by
    unfold RelDs at r
    obtain ⟨w, q, e1, r1, r2⟩ := r
    subst e1
    cases i with
    | zero => show RelDs K R H (d :: ds) (v :: q); unfold RelDs; exact ⟨v, q, rfl, s, r2⟩
    | succ i => show RelDs K R H (d0 :: ds.set i d) (w :: q.set i v); unfold RelDs; exact ⟨w, _, rfl, r1, relDs_set i r2 s⟩
theorem relDs_take : ∀ {ds : List D} {vs : List V} (n : Nat), RelDs K R H ds vs → RelDs K R H (ds.take n) (vs.take n)
  | _, _, 0, _ => by simp; unfold RelDs; rfl
  | [], vs, n + 1, r => by unfold RelDs at r; subst r; simp; unfold RelDs; rfl
  | d :: ds, vs, n + 1, r => by
    unfold RelDs at r
    obtain ⟨w, q, e1, r1, r2⟩ := r
    subst e1
    show RelDs K R H (d :: ds.take n) (w :: q.take n); unfold RelDs; exact ⟨w, _, rfl, r1, relDs_take n r2⟩
theorem relDs_drop : ∀ {ds : List D} {vs : List V} (n : Nat), RelDs K R H ds vs → RelDs K R H (ds.drop n) (vs.drop n)
  | _, _, 0, r => r
  | [], vs, n + 1, r => by unfold RelDs at r; subst r; simp; unfold RelDs; rfl
  | d :: ds, vs, n + 1, r => by
    unfold RelDs at r
    obtain ⟨w, q, e1, r1, r2⟩ := r
    subst e1
    exact relDs_drop n r2
theorem relDs_ints : ∀ {ns : List Int} {vs : List V}, RelDs K R H (ns.map D.int) vs → vs = ns.map V.int
  | [], vs, r => by unfold List.map RelDs at r; subst r; rfl
  | n :: ns, vs, r => by
    unfold List.map RelDs at r
    obtain ⟨w, q, e1, r1, r2⟩ := r
    unfold RelD at r1
    subst e1 r1
    rw [relDs_ints r2]; rfl
theorem relDs_bls : ∀ {ns : List Bool} {vs : List V}, RelDs K R H (ns.map D.bl) vs → vs = ns.map V.bl
  | [], vs, r => by unfold List.map RelDs at r; subst r; rfl
  | n :: ns, vs, r => by
    unfold List.map RelDs at r
    obtain ⟨w, q, e1, r1, r2⟩ := r
    unfold RelD at r1
    subst e1 r1
    rw [relDs_bls r2]; rfl
theorem relDs_strs : ∀ {ns : List Str} {vs : List V}, RelDs K R H (ns.map D.str) vs → vs = ns.map V.str
  | [], vs, r => by unfold List.map RelDs at r; subst r; rfl
  | n :: ns, vs, r => by
    unfold List.map RelDs at r
    obtain ⟨w, q, e1, r1, r2⟩ := r
    unfold RelD at r1
    subst e1 r1
    rw [relDs_strs r2]; rfl
theorem relDs_mkints : ∀ (ns : List Int), RelDs K R H (ns.map D.int) (ns.map V.int)
  | [] => by unfold List.map RelDs; rfl
  | n :: ns => by unfold List.map RelDs; exact ⟨_, _, rfl, by unfold RelD; rfl, relDs_mkints ns⟩
/-- a new object is tracked, not shared -/
theorem Ex.fresh {p : Addr} {o : HO} (np : H p = none) : Ex R H R (upd H p o) :=
  ⟨Nat.le_refl _, fun _ _ => rfl, fun _ z => z, fun i a b => absurd b (by omega), fun _ z => .inl z, fun b u e _ _ => by rw [upd_ne (ne_of_none e np)]; exact e,
    fun b e => by
      by_cases q : b = p
      · subst q; exact np
      · rw [upd_ne q] at e; exact e, fun b o' u e => by rw [upd_ne (ne_of_none e np)]; exact e⟩
/-- tables stay where a new object comes, where another object is written -/
theorem tabs_new {T : List (Addr × Str)} {p : Addr} {o : HO} (np : H p = none) (z : LamX.Tabs T H) : LamX.Tabs T (upd H p o) := z.ext fun b u e => by rw [upd_ne (ne_of_none e np)]; exact e
theorem tabs_wr {T : List (Addr × Str)} {a : Addr} {o o' : HO} (q : H a = some o) (n1 : ∀ ps, o ≠ .tbl ps) (n2 : ∀ f, o ≠ .ext f) (z : LamX.Tabs T H) : LamX.Tabs T (upd H a o') := fun p hp => by
  obtain ⟨ps, h1, h2, h3⟩ := z p hp
  refine ⟨ps, by rw [upd_ne (fun e => by rw [e, q] at h1; exact n1 ps (Option.some.inj h1))]; exact h1, h2, fun pos cv hc => ?_⟩
  obtain ⟨c, e1, e2⟩ := h3 pos cv hc
  exact ⟨c, e1, by rw [upd_ne (fun e => by rw [e, q] at e2; exact n2 _ (Option.some.inj e2))]; exact e2⟩
theorem HOk'.ex (ok : HOk' K Cl R H h) (x : Ex R H R H') (hs : ∀ i, i < R.n → H' (R.at_ i) = H (R.at_ i)) (ht : LamX.Tabs Cl.T H') : HOk' K Cl R H' h where
  len := ok.len
  obj := fun i o e => by
    obtain ⟨u, e1, r⟩ := ok.obj i o e
    have hi : i < R.n := by rw [← ok.len]; exact (List.getElem?_eq_some_iff.mp e).1
    exact ⟨u, by rw [hs i hi]; exact e1, relO_ex ok x r⟩
  inj := ok.inj
  nfz := ok.nfz
  fzd := fun a z => by obtain ⟨vs, e⟩ := ok.fzd a z; exact ⟨vs, x.frm a _ e (ok.outF z) (fun _ => HO.noConfusion)⟩
  tab := ht
theorem HOk'.there (ok : HOk' K Cl R H h) {i : Nat} (hi : i < R.n) : ∃ u, H (R.at_ i) = some u := by
  have hl : i < h.length := by rw [ok.len]; exact hi
  obtain ⟨u', e', r⟩ := ok.obj i h[i] (List.getElem?_eq_getElem hl)
  exact ⟨u', e'⟩
theorem HOk'.fresh (ok : HOk' K Cl R H h) {p : Addr} {o : HO} (np : H p = none) : HOk' K Cl R (upd H p o) h :=
  ok.ex (Ex.fresh np) (fun i hi => by
    obtain ⟨u, e⟩ := ok.there hi
    rw [upd_ne (ne_of_none e np)]) (tabs_new np ok.tab)
theorem HOk'.nfresh (ok : HOk' K Cl R H h) {p : Addr} (np : H p = none) : ¬ R.fz p ∧ Out R p := by
  refine ⟨fun z => ?_, fun i hi q => ?_⟩
  · obtain ⟨vs, e⟩ := ok.fzd p z
    rw [np] at e
    cases e
  · obtain ⟨u, e⟩ := ok.there hi
    rw [q, np] at e
    cases e
/-- a list becomes one that never changes -/
def Rg.frz (R : Rg) (a : Addr) : Rg := ⟨R.n, R.at_, fun b => R.fz b ∨ b = a⟩
theorem Mo.frz {a : Addr} : Mo K R H (R.frz a) H := ⟨Nat.le_refl _, fun _ _ => rfl, fun _ _ r => r, fun b vs r => ⟨.inl r.1, r.2⟩, fun _ _ r => r, fun _ _ _ r => r⟩
theorem HOk'.frz (ok : HOk' K Cl R H h) {a : Addr} {vs : List V} (e : H a = Option.some (HO.lst vs)) (o : Out R a) : HOk' K Cl (R.frz a) H h := by
  refine ⟨ok.len, fun i o' e' => ?_, ok.inj, fun i hi z => ?_, fun b z => ?_, ok.tab⟩
  · obtain ⟨u, e1, r⟩ := ok.obj i o' e'
    exact ⟨u, e1, relO_mo Mo.frz r⟩
  · rcases z with z | z
    · exact ok.nfz i hi z
    · exact o i hi z
  · rcases z with z | z
    · exact ok.fzd b z
    · subst z; exact ⟨vs, e⟩
/-- what came since the start may be frozen -/
theorem Ex.frz {a : Addr} (x : Ex R H R' H') (n : H a = none) : Ex R H (R'.frz a) H' :=
  ⟨x.le, x.at_, fun b z => .inl (x.fz b z), x.nat, fun b z => by
    rcases z with z | z
    · exact x.nfz b z
    · subst z; exact .inr n, x.frm, x.dom, x.lk⟩
end
end DL
set_option maxHeartbeats 4000000
namespace DL
open PySem PySem.Spec PyProof.Rows L2
/-- an exception: the index of its class, its fields -/
structure Xn where
  c : Nat
  fs : List (Str × D)
abbrev Sl := L2.St
abbrev XD := Xn → Hs → Prop
abbrev TDE := DSt → Hs → (W → Hs → Prop) → XD → Prop
abbrev TDV := DSt → Hs → (D → Hs → Prop) → XD → Prop
abbrev TDA := DSt → Hs → (List D → Hs → Prop) → XD → Prop
abbrev TDT := DSt → Hs → (Bool → Hs → Prop) → XD → Prop
/-- what stays through a body: the written part, the classes, the entry -/
structure Cn where
  K : Fg
  Cl : Cm
  R₀ : Rg
  H₀ : Hp
structure Env (C : Cn) (R : Rg) (ds : DSt) (σ : Sl) (H : Hp) (h : Hs) : Prop where
  ok : HOk' C.K C.Cl R H h
  ex : Ex C.R₀ C.H₀ R H
  len : ds.length = σ.length
  slot : ∀ (i : Nat) (w : W), ds[i]? = some (some w) → ∃ v, σ[i]? = some (some v) ∧ RelW C.K C.H₀ R H w v
  nnew : ∀ (i : Nat) xs, ds[i]? ≠ some (some (.new xs))
  own : ∀ (i j : Nat) xs ys (a : Addr), ds[i]? = some (some (.own xs)) → σ[i]? = some (some (.ref a)) → ds[j]? = some (some (.own ys)) → σ[j]? = some (some (.ref a)) → i = j
  own0 : ∀ (i : Nat) xs (a : Addr), ds[i]? = some (some (.own xs)) → σ[i]? = some (some (.ref a)) → C.H₀ a = none
def RelX (C : Cn) (R : Rg) (H : Hp) (x : Xn) (cls : Value) (dd : Option Addr) : Prop :=
  cls = .ref (C.Cl x.c) ∧ ∃ a ks, dd = some a ∧ H a = some (.xd ks) ∧ RelF C.K R H x.fs ks
section
variable {C : Cn} {R R' R'' : Rg} {ds : DSt} {σ : Sl} {H H' H'' : Hp} {h h' h'' : Hs}
theorem Env.relW (e : Env C R ds σ H h) {i : Nat} {w : W} {v : V} (hw : ds[i]? = some (some w)) (hv : σ[i]? = some (some v)) : RelW C.K C.H₀ R H w v := by
  obtain ⟨v', e1, r⟩ := e.slot i w hw
  rw [hv] at e1
  cases e1
  exact r
/-- a step that leaves the slots -/
theorem Env.step (e : Env C R ds σ H h) (x : Ex R H R' H') (ok : HOk' C.K C.Cl R' H' h') : Env C R' ds σ H' h' where
  ok := ok
  ex := e.ex.trans x
  len := e.len
  slot := fun i w q => by
    obtain ⟨v, e1, r⟩ := e.slot i w q
    exact ⟨v, e1, relW_ex e.ok x r⟩
  nnew := e.nnew
  own := e.own
  own0 := e.own0
theorem Env.fresh (e : Env C R ds σ H h) {p : Addr} {o : HO} (np : H p = none) : Env C R ds σ (upd H p o) h := e.step (Ex.fresh np) (e.ok.fresh np)
def toD : W → Option D
  | .d x => some x
  | .new xs => some (.lst xs)
  | .own _ => none
  | .fn _ => none
/-- a value in flight becomes a tree -/
theorem frzW (e : Env C R ds σ H h) (x : Ex R H R' H') (e' : Env C R' ds σ H' h') {w : W} {v : V} {d : D} (r : RelW C.K H R' H' w v) (q : toD w = some d) :
    ∃ R'', Ex R H R'' H' ∧ Env C R'' ds σ H' h' ∧ RelD C.K R'' H' d v ∧ Mo C.K R' H' R'' H' := by
  cases w with
  | d y =>
    cases q
    exact ⟨R', x, e', r, ⟨Nat.le_refl _, fun _ _ => rfl, fun _ _ z => z, fun _ _ z => z, fun _ _ z => z, fun _ _ _ z => z⟩⟩
  | own y => cases q
  | fn y => cases q
  | new xs =>
    cases q
    obtain ⟨a, vs, ev, n1, q, nf, o, t⟩ := r
    refine ⟨R'.frz a, x.frz n1, ⟨e'.ok.frz q o, ?_, e'.len, fun i w hw => ?_, e'.nnew, e'.own, e'.own0⟩, ?_, Mo.frz⟩
    · refine e'.ex.frz ?_
      exact e.ex.dom a n1
    · obtain ⟨v', e1, r1⟩ := e'.slot i w hw
      refine ⟨v', e1, ?_⟩
      cases w with
      | d y => exact relD_mo Mo.frz r1
      | new ys => exact absurd hw (e'.nnew i ys)
      | fn y => exact r1
      | own ys =>
        obtain ⟨a', vs', ev', q', nf', o', t'⟩ := r1
        refine ⟨a', vs', ev', q', fun z => ?_, o', relDs_mo Mo.frz t'⟩
        rcases z with z | z
        · exact nf' z
        · subst z
          -- the slot's list was there ahead
          obtain ⟨v0, e0, a0, vs0, ev0, q0, _⟩ := e.slot i _ hw
          rw [e1] at e0
          cases e0
          rw [ev'] at ev0
          cases ev0
          rw [n1] at q0
          cases q0
    · unfold RelD
      exact ⟨a, vs, ev, ⟨.inr rfl, q⟩, relDs_mo Mo.frz t⟩
end
/-- readings over trees as readings of the layer -/
def lift (C : Cn) (Wx : WX) (t : TDE) : TE := fun σ H Q => ∃ R ds h P Z, Env C R ds σ H h ∧ t ds h P Z ∧
  (∀ R' H' h' w v, P w h' → Ex R H R' H' → Env C R' ds σ H' h' → RelW C.K H R' H' w v → Q v H') ∧
  (∀ R' H' h' x cls dd, Z x h' → Ex R H R' H' → Env C R' ds σ H' h' → RelX C R' H' x cls dd → Wx cls dd σ H')
def liftV (C : Cn) (Wx : WX) (t : TDV) : TE := fun σ H Q => ∃ R ds h P Z, Env C R ds σ H h ∧ t ds h P Z ∧
  (∀ R' H' h' w v, P w h' → Ex R H R' H' → Env C R' ds σ H' h' → RelD C.K R' H' w v → Q v H') ∧
  (∀ R' H' h' x cls dd, Z x h' → Ex R H R' H' → Env C R' ds σ H' h' → RelX C R' H' x cls dd → Wx cls dd σ H')
def liftA (C : Cn) (Wx : WX) (t : TDA) : TA := fun σ H Q => ∃ R ds h P Z, Env C R ds σ H h ∧ t ds h P Z ∧
  (∀ R' H' h' w v, P w h' → Ex R H R' H' → Env C R' ds σ H' h' → RelDs C.K R' H' w v → Q v H') ∧
  (∀ R' H' h' x cls dd, Z x h' → Ex R H R' H' → Env C R' ds σ H' h' → RelX C R' H' x cls dd → Wx cls dd σ H')
def liftT (C : Cn) (Wx : WX) (t : TDT) : TT := fun σ H Q => ∃ R ds h P Z, Env C R ds σ H h ∧ t ds h P Z ∧
  (∀ R' H' h' b, P b h' → Ex R H R' H' → Env C R' ds σ H' h' → Q b H') ∧
  (∀ R' H' h' x cls dd, Z x h' → Ex R H R' H' → Env C R' ds σ H' h' → RelX C R' H' x cls dd → Wx cls dd σ H')
theorem _root_.L2.PE.imD {X : Cx} {e : Expr} {t t' : TE} (p : PE X e t) (f : ∀ σ H Q, t' σ H Q → t σ H Q) : PE X e t' := ⟨fun pins s σ H Q I q => p.run pins s σ H Q I (f σ H Q q)⟩
theorem _root_.L2.PT.imD {X : Cx} {e : Expr} {t t' : TT} (p : PT X e t) (f : ∀ σ H Q, t' σ H Q → t σ H Q) : PT X e t' := ⟨fun pins s σ H Q I q => p.run pins s σ H Q I (f σ H Q q)⟩
theorem _root_.L2.PW.imD {X : Cx} {e : Expr} {t t' : TT} (p : PW X e t) (f : ∀ σ H Q, t' σ H Q → t σ H Q) : PW X e t' := ⟨fun wh pins s σ H Q I q => p.run wh pins s σ H Q I (f σ H Q q)⟩
theorem _root_.L2.PA.imD {X : Cx} {e : List Expr} {t t' : TA} (p : PA X e t) (f : ∀ σ H Q, t' σ H Q → t σ H Q) : PA X e t' := ⟨fun pos pins s σ H Q I q => p.run pos pins s σ H Q I (f σ H Q q)⟩
theorem _root_.L2.PS.imD {X : Cx} {e : Stmt} {t t' : TS} (p : PS X e t) (f : ∀ D σ H, t' D σ H → t D σ H) : PS X e t' := ⟨fun pins s σ H Q I q => p.run pins s σ H Q I (f Q σ H q)⟩
theorem _root_.L2.PSs.imD {X : Cx} {e : List Stmt} {t t' : TS} (p : PSs X e t) (f : ∀ D σ H, t' D σ H → t D σ H) : PSs X e t' := ⟨fun pins s σ H Q I q => p.run pins s σ H Q I (f Q σ H q)⟩
/-- a value that is a tree -/
def dD (t : TDE) : TDV := fun ds h P Z => t ds h (fun w h' => ∃ d, toD w = some d ∧ P d h') Z
section
variable {X : Cx} {C : Cn} {Wx : WX}
theorem lift_D {t : TDE} {σ : Sl} {H : Hp} {Q : VK} (q : liftV C Wx (dD t) σ H Q) : lift C Wx t σ H Q := by
  obtain ⟨R, ds, h, P, Z, e, q, k, z⟩ := q
  refine ⟨R, ds, h, _, Z, e, q, fun R' H' h' w v ⟨d, hd, p⟩ x e' r => ?_, z⟩
  obtain ⟨R'', x', e'', r', _⟩ := frzW e x e' r hd
  exact k R'' H' h' d v p x' e'' r'
theorem pe_D {e : Expr} {t : TDE} (p : PE X e (lift C Wx t)) : PE X e (liftV C Wx (dD t)) := p.imD fun _ _ _ q => lift_D q
def dVar (i : Nat) : TDE := fun ds h P _ => ∃ w, ds[i]? = some (some w) ∧ P w h
def dC (d : D) : TDE := fun _ h P _ => P (.d d) h
/-- two operands, the first one tree or in flight -/
def dOp2 (r : W → W → (W → Prop) → Prop) (ta tb : TDE) : TDE := fun ds h P Z => ta ds h (fun x h1 => tb ds h1 (fun y h2 => r x y fun z => P z h2) Z) Z
def dOp1 (r : W → (W → Prop) → Prop) (ta : TDE) : TDE := fun ds h P Z => ta ds h (fun x h1 => r x fun z => P z h1) Z
/-- the wants behind a state, for one more value -/
theorem de_var {i : Nat} {x : Str} {pos : Pos} (hN : X.N[i]? = some x) (hv : Vis X.env.scope x) (hd : (x == ("__debug__" : Str)) = false) (hcd : (x == ("__classdict__" : Str)) = false) : PE X (.Name x pos) (lift C Wx (dVar i)) :=
  (pe_var hN hv hd hcd).imD fun σ H Q q => by
    obtain ⟨R, ds, h, P, Z, e, ⟨w, hw, p⟩, k, z⟩ := q
    obtain ⟨v, hv, r⟩ := e.slot i w hw
    refine ⟨v, hv, k R H h w v p (Ex.refl _ _) e ?_⟩
    cases w with
    | d _ => exact r
    | new xs => exact absurd hw (e.nnew i xs)
    | own _ => exact r
    | fn _ => exact r
/-- a constant of the layer's reading -/
theorem de_c {e : Expr} {v : V} {d : D} (p : PE X e (tC v)) (hr : ∀ R H, RelD C.K R H d v) : PE X e (lift C Wx (dC d)) :=
  p.imD fun σ H Q q => by
    obtain ⟨R, ds, h, P, Z, e, p, k, z⟩ := q
    exact k R H h _ v p (Ex.refl _ _) e (hr R H)
theorem de_int {i j pos} : PE X (.Constant (.int i) j pos) (lift C Wx (dC (.int i))) := de_c pe_int fun _ _ => by unfold RelD; rfl
theorem de_bl {i j pos} : PE X (.Constant (.bool i) j pos) (lift C Wx (dC (.bl i))) := de_c pe_bl fun _ _ => by unfold RelD; rfl
theorem de_non {j pos} : PE X (.Constant .none j pos) (lift C Wx (dC .non)) := de_c pe_non fun _ _ => by unfold RelD; rfl
theorem de_str {i j pos} : PE X (.Constant (.str i) j pos) (lift C Wx (dC (.str i))) := de_c pe_str fun _ _ => by unfold RelD; rfl
/-- two operands in a row, over a rule of the layer -/
theorem op2 {r : R2} {ra : W → W → (W → Prop) → Prop} {ta tb : TDE}
    (hr : ∀ R ds σ H h R0 H0 (x y : W) (v u : V) (Pw : W → Prop) (Q : VK), Env C R ds σ H h → Ex R0 H0 R H → (∃ h0, Env C R0 ds σ H0 h0) → RelW C.K H0 R H x v → RelW C.K H0 R H y u → ra x y Pw →
      (∀ R' H' w z, Pw w → Ex R H R' H' → Env C R' ds σ H' h → RelW C.K H0 R' H' w z → Q z H') → r v u H Q)
    {σ : Sl} {H : Hp} {Q : VK} (q : lift C Wx (dOp2 ra ta tb) σ H Q) : tOp r (lift C Wx ta) (lift C Wx tb) σ H Q := by
  obtain ⟨R, ds, h, P, Z, e, p, k, z⟩ := q
  refine ⟨R, ds, h, _, Z, e, p, fun R1 H1 h1 w1 v1 p1 x1 e1 r1 => ?_, z⟩
  refine ⟨R1, ds, h1, _, Z, e1, p1, fun R2 H2 h2 w2 v2 p2 x2 e2 r2 => ?_, fun R' H' h' x cls dd a b c d => z R' H' h' x cls dd a (x1.trans b) c d⟩
  exact hr R2 ds σ H2 h2 R H w1 w2 v1 v2 _ Q e2 (x1.trans x2) ⟨h, e⟩ (relW_ex e1.ok x2 r1) (relW_start x1.dom r2) p2 fun R' H' w z a b c d => k R' H' h2 w z a ((x1.trans x2).trans b) c d
theorem op1 {r : V → Hp → VK → Prop} {ra : W → (W → Prop) → Prop} {ta : TDE}
    (hr : ∀ R ds σ H h R0 H0 (x : W) (v : V) (Pw : W → Prop) (Q : VK), Env C R ds σ H h → Ex R0 H0 R H → (∃ h0, Env C R0 ds σ H0 h0) → RelW C.K H0 R H x v → ra x Pw →
      (∀ R' H' w z, Pw w → Ex R H R' H' → Env C R' ds σ H' h → RelW C.K H0 R' H' w z → Q z H') → r v H Q)
    {σ : Sl} {H : Hp} {Q : VK} (q : lift C Wx (dOp1 ra ta) σ H Q) : tUn r (lift C Wx ta) σ H Q := by
  obtain ⟨R, ds, h, P, Z, e, p, k, z⟩ := q
  refine ⟨R, ds, h, _, Z, e, p, fun R1 H1 h1 w1 v1 p1 x1 e1 r1 => ?_, z⟩
  exact hr R1 ds σ H1 h1 R H w1 v1 _ Q e1 x1 ⟨h, e⟩ r1 p1 fun R' H' w z a b c d => k R' H' h1 w z a (x1.trans b) c d
end
end DL
set_option maxHeartbeats 4000000
namespace DL
open PySem PySem.Spec PyProof.Rows L2
section
variable {K : Fg} {R : Rg} {H H₁ : Hp}
theorem r_non {v : V} (r : RelD K R H .non v) : v = .non := by unfold RelD at r; exact r
theorem r_bl {b : Bool} {v : V} (r : RelD K R H (.bl b) v) : v = .bl b := by unfold RelD at r; exact r
theorem r_int {i : Int} {v : V} (r : RelD K R H (.int i) v) : v = .int i := by unfold RelD at r; exact r
theorem r_str {x : Str} {v : V} (r : RelD K R H (.str x) v) : v = .str x := by unfold RelD at r; exact r
theorem r_tup {xs : List D} {v : V} (r : RelD K R H (.tup xs) v) : ∃ a vs, v = .ref a ∧ TpL H a vs ∧ RelDs K R H xs vs := by unfold RelD at r; exact r
theorem r_wtp {xs : List D} {v : V} (r : RelD K R H (.wtp xs) v) : ∃ a vs, v = .ref a ∧ WrT K a vs ∧ RelDs K R H xs vs := by unfold RelD at r; exact r
theorem m_wtp {xs : List D} {a : Addr} {vs : List V} (q : WrT K a vs) (r : RelDs K R H xs vs) : RelD K R H (.wtp xs) (.ref a) := by unfold RelD; exact ⟨a, vs, rfl, q, r⟩
theorem r_lst {xs : List D} {v : V} (r : RelD K R H (.lst xs) v) : ∃ a vs, v = .ref a ∧ FzL R H a vs ∧ RelDs K R H xs vs := by unfold RelD at r; exact r
theorem r_fro {xs : List D} {v : V} (r : RelD K R H (.fro xs) v) : ∃ a vs, v = .ref a ∧ FoL K H a vs ∧ RelDs K R H xs vs := by unfold RelD at r; exact r
theorem r_ref {n : Nat} {v : V} (r : RelD K R H (.ref n) v) : n < R.n ∧ v = .ref (R.at_ n) := by unfold RelD at r; exact r
theorem m_non : RelD K R H .non .non := by unfold RelD; rfl
theorem m_bl {b : Bool} : RelD K R H (.bl b) (.bl b) := by unfold RelD; rfl
theorem m_int {i : Int} : RelD K R H (.int i) (.int i) := by unfold RelD; rfl
theorem m_str {x : Str} : RelD K R H (.str x) (.str x) := by unfold RelD; rfl
theorem m_tup {xs : List D} {a : Addr} {vs : List V} (q : TpL H a vs) (r : RelDs K R H xs vs) : RelD K R H (.tup xs) (.ref a) := by unfold RelD; exact ⟨a, vs, rfl, q, r⟩
theorem m_nil : RelDs K R H [] [] := by unfold RelDs; rfl
theorem m_cons {d : D} {ds : List D} {v : V} {vs : List V} (r : RelD K R H d v) (t : RelDs K R H ds vs) : RelDs K R H (d :: ds) (v :: vs) := by unfold RelDs; exact ⟨v, vs, rfl, r, t⟩
theorem r_nil {vs : List V} (r : RelDs K R H [] vs) : vs = [] := by unfold RelDs at r; exact r
theorem r_cons {d : D} {ds : List D} {vs : List V} (r : RelDs K R H (d :: ds) vs) : ∃ v q, vs = v :: q ∧ RelD K R H d v ∧ RelDs K R H ds q := by unfold RelDs at r; exact r
theorem rw_non {v : V} (r : RelW K H₁ R H (.d .non) v) : v = .non := by unfold RelW at r; exact r_non r
theorem rw_bl {b : Bool} {v : V} (r : RelW K H₁ R H (.d (.bl b)) v) : v = .bl b := by unfold RelW at r; exact r_bl r
theorem rw_int {i : Int} {v : V} (r : RelW K H₁ R H (.d (.int i)) v) : v = .int i := by unfold RelW at r; exact r_int r
theorem rw_str {x : Str} {v : V} (r : RelW K H₁ R H (.d (.str x)) v) : v = .str x := by unfold RelW at r; exact r_str r
theorem rw_tup {xs : List D} {v : V} (r : RelW K H₁ R H (.d (.tup xs)) v) : ∃ a vs, v = .ref a ∧ TpL H a vs ∧ RelDs K R H xs vs := by unfold RelW at r; exact r_tup r
theorem mw_bl {b : Bool} : RelW K H₁ R H (.d (.bl b)) (.bl b) := by unfold RelW; exact m_bl
theorem mw_int {i : Int} : RelW K H₁ R H (.d (.int i)) (.int i) := by unfold RelW; exact m_int
theorem mw_str {x : Str} : RelW K H₁ R H (.d (.str x)) (.str x) := by unfold RelW; exact m_str
theorem mw_tup {xs : List D} {a : Addr} {vs : List V} (q : TpL H a vs) (r : RelDs K R H xs vs) : RelW K H₁ R H (.d (.tup xs)) (.ref a) := by unfold RelW; exact m_tup q r
/-- the items of a list, whichever; of a list or tuple -/
def lstW : W → Option (List D)
  | .d (.lst xs) => some xs
  | .d (.fro xs) => some xs
  | .new xs => some xs
  | .own xs => some xs
  | _ => none
/-- a list that may be joined: tracked -/
def lsjW : W → Option (List D)
  | .d (.lst xs) => some xs
  | .new xs => some xs
  | .own xs => some xs
  | _ => none
def tupW : W → Option (List D)
  | .d (.tup xs) => some xs
  | _ => none
def seqW (w : W) : Option (List D) := (lstW w).or (tupW w)
theorem rel_lsj {w : W} {v : V} {xs : List D} (r : RelW K H₁ R H w v) (e : lsjW w = some xs) : ∃ a vs, v = .ref a ∧ H a = some (.lst vs) ∧ RelDs K R H xs vs := by
  cases w with
  | d x =>
    cases x with
    | lst ys => cases e; obtain ⟨a, vs, e, q, t⟩ := r_lst r; exact ⟨a, vs, e, q.2, t⟩
    | _ => cases e
  | new ys => cases e; obtain ⟨a, vs, e, _, q, _, _, t⟩ := r; exact ⟨a, vs, e, q, t⟩
  | own ys => cases e; obtain ⟨a, vs, e, q, _, _, t⟩ := r; exact ⟨a, vs, e, q, t⟩
  | fn _ => cases e
theorem rel_lst {w : W} {v : V} {xs : List D} (r : RelW K H₁ R H w v) (e : lstW w = some xs) : ∃ a vs, v = .ref a ∧ SqL K H a vs ∧ RelDs K R H xs vs := by
  cases w with
  | d x =>
    cases x with
    | lst ys => cases e; obtain ⟨a, vs, e, q, t⟩ := r_lst r; exact ⟨a, vs, e, q.sq, t⟩
    | fro ys => cases e; obtain ⟨a, vs, e, q, t⟩ := r_fro r; exact ⟨a, vs, e, q.sq, t⟩
    | _ => cases e
  | new ys => cases e; obtain ⟨a, vs, e, _, q, _, _, t⟩ := r; exact ⟨a, vs, e, .inl (.inl q), t⟩
  | own ys => cases e; obtain ⟨a, vs, e, q, _, _, t⟩ := r; exact ⟨a, vs, e, .inl (.inl q), t⟩
  | fn _ => cases e
theorem rel_tup {w : W} {v : V} {xs : List D} (r : RelW K H₁ R H w v) (e : tupW w = some xs) : ∃ a vs, v = .ref a ∧ TpL H a vs ∧ RelDs K R H xs vs := by
  cases w with
  | d x =>
    cases x with
    | tup ys => cases e; exact r_tup r
    | _ => cases e
  | new ys => cases e
  | own ys => cases e
  | fn _ => cases e
theorem rel_seq {w : W} {v : V} {xs : List D} (r : RelW K H₁ R H w v) (e : seqW w = some xs) : ∃ a vs, v = .ref a ∧ (SqL K H a vs ∨ SqT K H a vs) ∧ RelDs K R H xs vs := by
  unfold seqW at e
  cases q : lstW w with
  | some ys =>
    rw [q] at e
    cases e
    obtain ⟨a, vs, e, s, t⟩ := rel_lst r q
    exact ⟨a, vs, e, .inl s, t⟩
  | none =>
    rw [q] at e
    obtain ⟨a, vs, e, s, t⟩ := rel_tup r e
    exact ⟨a, vs, e, .inr s.sq, t⟩
theorem rel_seqT {w : W} {v : V} {xs : List D} (r : RelW K H₁ R H w v) (e : seqW w = some xs) : ∃ a vs, v = .ref a ∧ (SqL K H a vs ∨ TpL H a vs) ∧ RelDs K R H xs vs := by
  unfold seqW at e
  cases q : lstW w with
  | some ys =>
    rw [q] at e
    cases e
    obtain ⟨a, vs, e, s, t⟩ := rel_lst r q
    exact ⟨a, vs, e, .inl s, t⟩
  | none =>
    rw [q] at e
    obtain ⟨a, vs, e, s, t⟩ := rel_tup r e
    exact ⟨a, vs, e, .inr s, t⟩
mutual
def toPy : D → Option PyData
  | .non => some .none
  | .bl b => some (.bool b)
  | .int i => some (.int i)
  | .str x => some (.str x)
  | .ty _ => none
  | .ref _ => none
  | .tup xs => (toPys xs).map .tuple
  | .lst xs => (toPys xs).map .list
  | .fro xs => (toPys xs).map .list
  | .wtp xs => (toPys xs).map .tuple
def toPys : List D → Option (List PyData)
  | [] => some []
  | x :: xs => match toPy x, toPys xs with
    | some a, some b => some (a :: b)
    | _, _ => none
end
def pyW : W → Option PyData
  | .d x => toPy x
  | .new xs => (toPys xs).map .list
  | .own xs => (toPys xs).map .list
  | .fn _ => none
mutual
theorem dp_of : ∀ {d : D} {v : V} {p : PyData}, RelD K R H d v → toPy d = some p → Dp K H v p
  | .non, v, p, r, e => by unfold toPy at e; cases e; cases r_non r; exact .non
  | .bl _, v, p, r, e => by unfold toPy at e; cases e; cases r_bl r; exact .bl _
  | .int _, v, p, r, e => by unfold toPy at e; cases e; cases r_int r; exact .int _
  | .str _, v, p, r, e => by unfold toPy at e; cases e; cases r_str r; exact .str _
  | .ty _, v, p, r, e => by unfold toPy at e; cases e
  | .ref _, v, p, r, e => by unfold toPy at e; cases e
  | .tup xs, v, p, r, e => by
    unfold toPy at e
    obtain ⟨ps, e1, rfl⟩ := Option.map_eq_some_iff.mp e
    obtain ⟨a, vs, rfl, q, t⟩ := r_tup r
    exact .tup q.sq (dps_of t e1)
  | .wtp xs, v, p, r, e => by
    unfold toPy at e
    obtain ⟨ps, e1, rfl⟩ := Option.map_eq_some_iff.mp e
    obtain ⟨a, vs, rfl, q, t⟩ := r_wtp r
    exact .tup (q H) (dps_of t e1)
  | .lst xs, v, p, r, e => by
    unfold toPy at e
    obtain ⟨ps, e1, rfl⟩ := Option.map_eq_some_iff.mp e
    obtain ⟨a, vs, rfl, q, t⟩ := r_lst r
    exact .lst q.sq (dps_of t e1)
  | .fro xs, v, p, r, e => by
    unfold toPy at e
    obtain ⟨ps, e1, rfl⟩ := Option.map_eq_some_iff.mp e
    obtain ⟨a, vs, rfl, q, t⟩ := r_fro r
    exact .lst q.sq (dps_of t e1)
theorem dps_of : ∀ {ds : List D} {vs : List V} {ps : List PyData}, RelDs K R H ds vs → toPys ds = some ps → DpAll K H vs ps
  | [], vs, ps, r, e => by unfold toPys at e; cases e; cases r_nil r; exact .nil
  | d :: ds, vs, ps, r, e => by
    unfold toPys at e
    obtain ⟨v, q, rfl, r1, r2⟩ := r_cons r
    split at e
    · rename_i a b e1 e2
      cases e
      exact .cons (dp_of r1 e1) (dps_of r2 e2)
    · cases e
end
theorem dpW_of {w : W} {v : V} {p : PyData} (r : RelW K H₁ R H w v) (e : pyW w = some p) : Dp K H v p := by
  cases w with
  | d x => exact dp_of r e
  | new xs =>
    obtain ⟨ps, e1, rfl⟩ := Option.map_eq_some_iff.mp e
    obtain ⟨a, vs, rfl, _, q, _, _, t⟩ := r
    exact .lst (.inl (.inl q)) (dps_of t e1)
  | fn _ => cases e
  | own xs =>
    obtain ⟨ps, e1, rfl⟩ := Option.map_eq_some_iff.mp e
    obtain ⟨a, vs, rfl, q, _, _, t⟩ := r
    exact .lst (.inl (.inl q)) (dps_of t e1)
end
inductive Bop where
  | add | sub | mul | fdiv | mod | pow | shl | shr | and | or | xor
def Bop.py : Bop → Operator
  | .add => .Add | .sub => .Sub | .mul => .Mult | .fdiv => .FloorDiv | .mod => .Mod | .pow => .Pow | .shl => .LShift | .shr => .RShift | .and => .BitAnd | .or => .BitOr | .xor => .BitXor
def CMulA (i j : Int) : Prop := CMul i j ∨ CMulW i j
def CDivA (i j : Int) : Prop := CDiv i j ∨ CDivW i j
def CShlA (i j : Int) : Prop := CPow i j ∨ CShl i j
def wInt (op : Bop) (i j : Int) (Q : W → Prop) : Prop := match op with
  | .add => Q (.d (.int (i + j)))
  | .sub => Q (.d (.int (i - j)))
  | .mul => CMulA i j ∧ Q (.d (.int (i * j)))
  | .fdiv => CDivA i j ∧ Q (.d (.int (i / j)))
  | .mod => 0 < j ∧ Q (.d (.int (i % j)))
  | .pow => CPow i j ∧ Q (.d (.int (i ^ j.toNat)))
  | .shl => CShlA i j ∧ Q (.d (.int (i * 2 ^ j.toNat)))
  | .shr => 0 ≤ j ∧ Q (.d (.int (i / 2 ^ j.toNat)))
  | .and => Q (.d (.int (Builtin.bitAnd i j)))
  | .or => Q (.d (.int (Builtin.bitOr i j)))
  | .xor => Q (.d (.int (Builtin.bitXor i j)))
/-- + of texts, tuples, lists -/
def wCat (x y : W) (Q : W → Prop) : Prop := match x, y with
  | .d (.str a), .d (.str b) => a.length + b.length ≤ sizeLine ∧ Q (.d (.str (a ++ b)))
  | .d (.tup xs), .d (.tup ys) => xs.length + ys.length ≤ sizeLine ∧ Q (.d (.tup (xs ++ ys)))
  | x, y => match lsjW x, lsjW y with
    | some xs, some ys => xs.length + ys.length ≤ sizeLine ∧ Q (.new (xs ++ ys))
    | _, _ => False
def wBin (op : Bop) (x y : W) (Q : W → Prop) : Prop := match x, y with
  | .d (.int i), .d (.int j) => wInt op i j Q
  | x, y => match op with
    | .add => wCat x y Q
    | _ => False
section
variable {X : Cx} {C : Cn} {Wx : WX}
def rInt (op : Bop) : R2 := fun x y H Q => ∃ i j, x = .int i ∧ y = .int j ∧ wInt op i j fun w => ∃ k, w = .d (.int k) ∧ Q (.int k) H
theorem op_int (op : Bop) : OpR X (binaryOp op.py) (rInt op) := by
  intro pins s σ H x y v u Q I rx ry h
  obtain ⟨i, j, rfl, rfl, h⟩ := h
  cases op with
  | add => obtain ⟨k, e, q⟩ := h; cases e; exact op_add pins s σ H _ _ v u Q I rx ry ⟨i, j, rfl, rfl, q⟩
  | sub => obtain ⟨k, e, q⟩ := h; cases e; exact op_sub pins s σ H _ _ v u Q I rx ry ⟨i, j, rfl, rfl, q⟩
  | mul =>
    obtain ⟨c, k, e, q⟩ := h; cases e
    rcases c with c | c
    · exact op_mul pins s σ H _ _ v u Q I rx ry ⟨i, j, rfl, rfl, c, q⟩
    · exact op_mulW pins s σ H _ _ v u Q I rx ry ⟨i, j, rfl, rfl, c, q⟩
  | fdiv =>
    obtain ⟨c, k, e, q⟩ := h; cases e
    rcases c with c | c
    · exact op_fdiv pins s σ H _ _ v u Q I rx ry ⟨i, j, rfl, rfl, c, q⟩
    · exact op_fdivW pins s σ H _ _ v u Q I rx ry ⟨i, j, rfl, rfl, c, q⟩
  | mod => obtain ⟨c, k, e, q⟩ := h; cases e; exact op_mod pins s σ H _ _ v u Q I rx ry ⟨i, j, rfl, rfl, c, q⟩
  | pow => obtain ⟨c, k, e, q⟩ := h; cases e; exact op_pow pins s σ H _ _ v u Q I rx ry ⟨i, j, rfl, rfl, c, q⟩
  | shl =>
    obtain ⟨c, k, e, q⟩ := h; cases e
    rcases c with c | c
    · exact op_shl pins s σ H _ _ v u Q I rx ry ⟨i, j, rfl, rfl, c, q⟩
    · exact op_shlW pins s σ H _ _ v u Q I rx ry ⟨i, j, rfl, rfl, c, q⟩
  | shr => obtain ⟨c, k, e, q⟩ := h; cases e; exact op_shr pins s σ H _ _ v u Q I rx ry ⟨i, j, rfl, rfl, c, q⟩
  | and => obtain ⟨k, e, q⟩ := h; cases e; exact op_and pins s σ H _ _ v u Q I rx ry ⟨i, j, rfl, rfl, q⟩
  | or => obtain ⟨k, e, q⟩ := h; cases e; exact op_or pins s σ H _ _ v u Q I rx ry ⟨i, j, rfl, rfl, q⟩
  | xor => obtain ⟨k, e, q⟩ := h; cases e; exact op_xor pins s σ H _ _ v u Q I rx ry ⟨i, j, rfl, rfl, q⟩
theorem wInt_mono {op : Bop} {i j : Int} {Q Q' : W → Prop} (h : wInt op i j Q) (f : ∀ k, Q (.d (.int k)) → Q' (.d (.int k))) : wInt op i j Q' := by
  cases op <;> first | exact f _ h | exact ⟨h.1, f _ h.2⟩
def rCatS : R2 := fun x y H Q => ∃ i j, x = .str i ∧ y = .str j ∧ i.length + j.length ≤ sizeLine ∧ Q (.str (i ++ j)) H
def rBin (K : Fg) (op : Bop) : R2 := fun x y H Q => rInt op x y H Q ∨ (op = .add ∧ (rCatS x y H Q ∨ rCatA K x y H Q ∨ rCat x y H Q))
theorem op_bin (op : Bop) : OpR X (binaryOp op.py) (rBin X.K op) := by
  intro pins s σ H x y v u Q I rx ry h
  rcases h with h | ⟨rfl, h | h | h⟩
  · exact op_int op pins s σ H x y v u Q I rx ry h
  · exact op_add_str pins s σ H x y v u Q I rx ry h
  · exact op_catA pins s σ H x y v u Q I rx ry h
  · exact op_cat pins s σ H x y v u Q I rx ry h
end
end DL
set_option maxHeartbeats 4000000
namespace DL
theorem room65 {k : Nat} {A : PySem.Around} (r : L2.Room k A) : A.units + 65 < PySem.cLine := by have := r.un; omega
open PySem PySem.Spec PyProof.Rows L2
section
variable {X : Cx} {C : Cn} {Wx : WX}
/-- a value that was there, behind the last state -/
abbrev Kont (C : Cn) (ds : DSt) (σ : Sl) (h : Hs) (R : Rg) (H H0 : Hp) (Pw : W → Prop) (Q : VK) : Prop :=
  ∀ R' H' w z, Pw w → Ex R H R' H' → Env C R' ds σ H' h → RelW C.K H0 R' H' w z → Q z H'
theorem seqT_len {H : Hp} {R : Rg} {xs ys : List D} {vs us : List V} (a : RelDs C.K R H xs vs) (b : RelDs C.K R H ys us) (l : xs.length + ys.length ≤ sizeLine) : vs.length + us.length ≤ sizeLine := by
  rw [← relDs_len a, ← relDs_len b]; exact l
theorem s_cat {R : Rg} {ds : DSt} {σ : Sl} {H : Hp} {h : Hs} {R0 : Rg} {H0 : Hp} {x y : W} {v u : V} {Pw : W → Prop} {Q : VK} (e : Env C R ds σ H h) (ex : Ex R0 H0 R H)
    (rx : RelW C.K H0 R H x v) (ry : RelW C.K H0 R H y u) (p : wCat x y Pw) (k : Kont C ds σ h R H H0 Pw Q) : rCatS v u H Q ∨ rCatA C.K v u H Q ∨ rCat v u H Q := by
  unfold wCat at p
  split at p
  · cases rw_str rx; cases rw_str ry
    exact .inl ⟨_, _, rfl, rfl, p.1, k R H _ _ p.2 (Ex.refl _ _) e mw_str⟩
  · rename_i xs ys
    obtain ⟨a, vs, rfl, q, t⟩ := rw_tup rx
    obtain ⟨b, us, rfl, q', t'⟩ := rw_tup ry
    refine .inr (.inl ⟨a, b, vs, us, rfl, rfl, q.sq, q'.sq, seqT_len t t' p.1, fun z => ?_, fun _ z => ?_, fun _ _ pp np => ?_⟩)
    · subst z
      have : xs = [] := List.eq_nil_of_length_eq_zero (relDs_len t)
      subst this
      exact k R H _ _ p.2 (Ex.refl _ _) e (mw_tup q' t')
    · subst z
      have : ys = [] := List.eq_nil_of_length_eq_zero (relDs_len t')
      subst this
      rw [List.append_nil] at p
      exact k R H _ _ p.2 (Ex.refl _ _) e (mw_tup q t)
    · have e' := e.fresh (o := .tup (vs ++ us)) np
      exact k R _ _ _ p.2 (Ex.fresh np) e' (mw_tup upd_same (relDs_append (relDs_ex e.ok (Ex.fresh np) t) (relDs_ex e.ok (Ex.fresh np) t')))
  · split at p
    · rename_i xs ys e1 e2
      obtain ⟨a, vs, rfl, q, t⟩ := rel_lsj rx e1
      obtain ⟨b, us, rfl, q', t'⟩ := rel_lsj ry e2
      refine .inr (.inr ⟨a, b, vs, us, rfl, rfl, q, q', seqT_len t t' p.1, fun pp np => ?_⟩)
      have e' := e.fresh (o := .lst (vs ++ us)) np
      have nf := e.ok.nfresh np
      exact k R _ _ _ p.2 (Ex.fresh np) e' ⟨pp, vs ++ us, rfl, ex.dom pp np, upd_same, nf.1, nf.2, relDs_append (relDs_ex e.ok (Ex.fresh np) t) (relDs_ex e.ok (Ex.fresh np) t')⟩
    · exact p.elim
theorem s_bin {op : Bop} {R : Rg} {ds : DSt} {σ : Sl} {H : Hp} {h : Hs} {R0 : Rg} {H0 : Hp} {x y : W} {v u : V} {Pw : W → Prop} {Q : VK} (e : Env C R ds σ H h) (ex : Ex R0 H0 R H)
    (rx : RelW C.K H0 R H x v) (ry : RelW C.K H0 R H y u) (p : wBin op x y Pw) (k : Kont C ds σ h R H H0 Pw Q) : rBin C.K op v u H Q := by
  unfold wBin at p
  split at p
  · cases rw_int rx; cases rw_int ry
    exact .inl ⟨_, _, rfl, rfl, wInt_mono p fun n q => ⟨n, rfl, k R H _ _ q (Ex.refl _ _) e mw_int⟩⟩
  · split at p
    · exact .inr ⟨rfl, s_cat e ex rx ry p k⟩
    · exact p.elim
theorem de_bin {a b : Expr} {ta tb : TDE} {pos : Pos} {op : Bop} (hK : C.K = X.K) (ha : PE X a (lift C Wx ta)) (hb : PE X b (lift C Wx tb)) : PE X (.BinOp a op.py b pos) (lift C Wx (dOp2 (wBin op) ta tb)) :=
  (pe_op (op_bin op) ha hb).imD fun σ H Q q => op2 (fun R ds σ H h R0 H0 x y v u Pw Q e ex _ rx ry p k => hK ▸ s_bin e ex rx ry p k) q
def wNeg (x : W) (Q : W → Prop) : Prop := match x with
  | .d (.int i) => Q (.d (.int (-i)))
  | _ => False
theorem de_neg {a : Expr} {ta : TDE} {pos : Pos} (ha : PE X a (lift C Wx ta)) : PE X (.UnaryOp .USub a pos) (lift C Wx (dOp1 wNeg ta)) :=
  (pe_un un_neg ha).imD fun σ H Q q => op1 (fun R ds σ H h R0 H0 x v Pw Q e ex _ rx p k => by
    unfold wNeg at p
    split at p
    · cases rw_int rx
      exact ⟨_, rfl, k R H _ _ p (Ex.refl _ _) e mw_int⟩
    · exact p.elim) q
inductive Cop where
  | eq | ne | lt | le | gt | ge | in_ | nin
def Cop.py : Cop → CmpOp
  | .eq => .Eq | .ne => .NotEq | .lt => .Lt | .le => .LtE | .gt => .Gt | .ge => .GtE | .in_ => .In | .nin => .NotIn
def wData (neg : Bool) (x y : W) (Q : W → Prop) : Prop := ∃ a b, pyW x = some a ∧ pyW y = some b ∧ SeqAt.shaped a = true ∧ SeqAt.shaped b = true ∧ Q (.d (.bl (if neg then !PyData.eqv a b else PyData.eqv a b)))
def wEq (neg : Bool) (x y : W) (Q : W → Prop) : Prop := match x, y with
  | .d (.int i), .d (.int j) => Q (.d (.bl (if neg then !decide (i = j) else decide (i = j))))
  | .d (.str i), .d (.str j) => Q (.d (.bl (if neg then !decide (i = j) else decide (i = j))))
  | x, y => wData neg x y Q
def wLt (op : Cop) (x y : W) (Q : W → Prop) : Prop := match x, y with
  | .d (.int i), .d (.int j) => (match op with
    | .lt => Q (.d (.bl (decide (i < j))))
    | .le => Q (.d (.bl (decide (i ≤ j))))
    | .gt => Q (.d (.bl (decide (j < i))))
    | .ge => Q (.d (.bl (decide (j ≤ i))))
    | _ => False)
  | .d (.str i), .d (.str j) => (match op with
    | .lt => Q (.d (.bl (decide (i.cps.toList < j.cps.toList))))
    | .le => Q (.d (.bl (!decide (j.cps.toList < i.cps.toList))))
    | .gt => Q (.d (.bl (decide (j.cps.toList < i.cps.toList))))
    | .ge => Q (.d (.bl (!decide (i.cps.toList < j.cps.toList))))
    | _ => False)
  | _, _ => False
/-- x in y: one sign in a text; a text in a list or tuple of texts -/
def wIn (neg : Bool) (x y : W) (Q : W → Prop) : Prop := match x, y with
  | .d (.str i), .d (.str j) => ∃ c, i = ⟨#[c]⟩ ∧ Q (.d (.bl (if neg then !decide (c ∈ j.cps.toList) else decide (c ∈ j.cps.toList))))
  | .d (.str i), y => ∃ zs : List Str, seqW y = some (zs.map D.str) ∧ Q (.d (.bl (if neg then !decide (i ∈ zs) else decide (i ∈ zs))))
  | .d (.int i), y => ∃ zs : List Int, seqW y = some (zs.map D.int) ∧ Q (.d (.bl (if neg then !decide (i ∈ zs) else decide (i ∈ zs))))
  | x, y => ∃ d ds, pyW x = some d ∧ pyW y = some (.list ds) ∧ SeqAt.shaped d = true ∧ SeqAt.shaped (.list ds) = true ∧ Q (.d (.bl (if neg then !(ds.any fun z => PyData.eqv z d) else ds.any fun z => PyData.eqv z d)))
def wCmp (op : Cop) (x y : W) (Q : W → Prop) : Prop := match op with
  | .eq => wEq false x y Q
  | .ne => wEq true x y Q
  | .in_ => wIn false x y Q
  | .nin => wIn true x y Q
  | op => wLt op x y Q
theorem inV_str {i : Str} : ∀ {zs : List Str}, inV (.str i) (zs.map V.str) = decide (i ∈ zs)
  | [] => by simp [inV]
  | z :: zs => by
    have ih := inV_str (i := i) (zs := zs)
    unfold inV at ih ⊢
    rw [List.map_cons, List.any_cons, ih]
    show ((z == i) || _) = _
    by_cases q : z = i
    · subst q; simp
    · have q' : ¬ i = z := fun e => q e.symm
      simp [q, q']
theorem inV_int {i : Int} : ∀ {zs : List Int}, inV (.int i) (zs.map V.int) = decide (i ∈ zs)
  | [] => by simp [inV]
  | z :: zs => by
    have ih := inV_int (i := i) (zs := zs)
    unfold inV at ih ⊢
    rw [List.map_cons, List.any_cons, ih]
    show ((z == i) || _) = _
    by_cases q : z = i
    · subst q; simp
    · have q' : ¬ i = z := fun e => q e.symm
      simp [q, q']
theorem flat_str : ∀ {zs : List Str}, (zs.map V.str).all flatV = true
  | [] => rfl
  | z :: zs => by rw [List.map_cons, List.all_cons, flat_str]; rfl
theorem flat_int : ∀ {zs : List Int}, (zs.map V.int).all flatV = true
  | [] => rfl
  | z :: zs => by rw [List.map_cons, List.all_cons, flat_int]; rfl
/-- the layer's rules, joined -/
def rCmp (K : Fg) (op : Cop) : R2 := fun x y H Q => match op with
  | .eq => rEq x y H Q ∨ rEqD K x y H Q
  | .ne => rNe x y H Q ∨ rNeD K x y H Q
  | .lt => (∃ i j, x = .int i ∧ y = .int j ∧ Q (.bl (decide (i < j))) H) ∨ ∃ i j, x = .str i ∧ y = .str j ∧ Q (.bl (decide (i.cps.toList < j.cps.toList))) H
  | .le => (∃ i j, x = .int i ∧ y = .int j ∧ Q (.bl (decide (i ≤ j))) H) ∨ ∃ i j, x = .str i ∧ y = .str j ∧ Q (.bl (!decide (j.cps.toList < i.cps.toList))) H
  | .gt => (∃ i j, x = .int i ∧ y = .int j ∧ Q (.bl (decide (j < i))) H) ∨ ∃ i j, x = .str i ∧ y = .str j ∧ Q (.bl (decide (j.cps.toList < i.cps.toList))) H
  | .ge => (∃ i j, x = .int i ∧ y = .int j ∧ Q (.bl (decide (j ≤ i))) H) ∨ ∃ i j, x = .str i ∧ y = .str j ∧ Q (.bl (!decide (i.cps.toList < j.cps.toList))) H
  | .in_ => (∃ (c : Nat) (z : Str), x = .str ⟨#[c]⟩ ∧ y = .str z ∧ Q (.bl (decide (c ∈ z.cps.toList))) H) ∨ rIn K false x y H Q ∨ rInD K x y H Q
  | .nin => (∃ (c : Nat) (z : Str), x = .str ⟨#[c]⟩ ∧ y = .str z ∧ Q (.bl (!decide (c ∈ z.cps.toList))) H) ∨ rIn K true x y H Q ∨ rNotInD K x y H Q
theorem op_cmp (op : Cop) (hu : X.A.units + 65 < cLine) : OpR X (compareOp op.py) (rCmp X.K op) := by
  intro pins s σ H x y v u Q I rx ry h
  cases op with
  | eq =>
    rcases h with h | h
    · exact op_eq pins s σ H x y v u Q I rx ry h
    · exact op_eqD (Nat.lt_of_le_of_lt (by omega) hu) pins s σ H x y v u Q I rx ry h
  | ne =>
    rcases h with h | h
    · exact op_ne pins s σ H x y v u Q I rx ry h
    · exact op_neD (Nat.lt_of_le_of_lt (by omega) hu) pins s σ H x y v u Q I rx ry h
  | lt =>
    rcases h with h | h
    · exact op_lt pins s σ H x y v u Q I rx ry h
    · exact op_lt_str pins s σ H x y v u Q I rx ry h
  | le =>
    rcases h with h | h
    · exact op_le pins s σ H x y v u Q I rx ry h
    · exact op_le_str pins s σ H x y v u Q I rx ry h
  | gt =>
    rcases h with h | h
    · exact op_gt pins s σ H x y v u Q I rx ry h
    · exact op_gt_str pins s σ H x y v u Q I rx ry h
  | ge =>
    rcases h with h | h
    · exact op_ge pins s σ H x y v u Q I rx ry h
    · exact op_ge_str pins s σ H x y v u Q I rx ry h
  | in_ =>
    rcases h with h | h | h
    · exact op_in_sign pins s σ H x y v u Q I rx ry h
    · exact op_in_seq pins s σ H x y v u Q I rx ry h
    · exact op_inD hu pins s σ H x y v u Q I rx ry h
  | nin =>
    rcases h with h | h | h
    · exact op_notIn_sign pins s σ H x y v u Q I rx ry h
    · exact op_notIn_seq pins s σ H x y v u Q I rx ry h
    · exact op_notInD hu pins s σ H x y v u Q I rx ry h
theorem decI {i j : Int} : decide (V.int i = V.int j) = decide (i = j) := by rw [Bool.eq_iff_iff]; simp
theorem decS {i j : Str} : decide (V.str i = V.str j) = decide (i = j) := by rw [Bool.eq_iff_iff]; simp
theorem s_cmp {op : Cop} {R : Rg} {ds : DSt} {σ : Sl} {H : Hp} {h : Hs} {R0 : Rg} {H0 : Hp} {x y : W} {v u : V} {Pw : W → Prop} {Q : VK} (e : Env C R ds σ H h) (ex : Ex R0 H0 R H)
    (rx : RelW C.K H0 R H x v) (ry : RelW C.K H0 R H y u) (p : wCmp op x y Pw) (k : Kont C ds σ h R H H0 Pw Q) : rCmp C.K op v u H Q := by
  have kb : ∀ b, Pw (.d (.bl b)) → Q (.bl b) H := fun b pb => k R H _ _ pb (Ex.refl _ _) e mw_bl
  have eqc : ∀ neg, wEq neg x y Pw → (scal v u = true ∧ Q (.bl (if neg then !decide (v = u) else decide (v = u))) H) ∨
      ∃ d e, Dp C.K H v d ∧ Dp C.K H u e ∧ SeqAt.shaped d = true ∧ SeqAt.shaped e = true ∧ Q (.bl (if neg then !PyData.eqv d e else PyData.eqv d e)) H := by
    intro neg p
    unfold wEq at p
    split at p
    · cases rw_int rx; cases rw_int ry
      refine .inl ⟨rfl, ?_⟩
      rw [decI]
      exact kb _ p
    · cases rw_str rx; cases rw_str ry
      refine .inl ⟨rfl, ?_⟩
      rw [decS]
      exact kb _ p
    · obtain ⟨a, b, e1, e2, s1, s2, p⟩ := p
      exact .inr ⟨a, b, dpW_of rx e1, dpW_of ry e2, s1, s2, kb _ p⟩
  have ltc : ∀ (op : Cop) (f : Int → Int → Bool) (g : Str → Str → Bool), (∀ i j, wLt op (.d (.int i)) (.d (.int j)) Pw → Pw (.d (.bl (f i j)))) → (∀ i j, wLt op (.d (.str i)) (.d (.str j)) Pw → Pw (.d (.bl (g i j)))) → wLt op x y Pw →
      (∃ i j, v = .int i ∧ u = .int j ∧ Q (.bl (f i j)) H) ∨ ∃ i j, v = .str i ∧ u = .str j ∧ Q (.bl (g i j)) H := by
    intro op f g h1 h2 p
    have p0 := p
    unfold wLt at p
    split at p
    · cases rw_int rx; cases rw_int ry
      exact .inl ⟨_, _, rfl, rfl, kb _ (h1 _ _ p0)⟩
    · cases rw_str rx; cases rw_str ry
      exact .inr ⟨_, _, rfl, rfl, kb _ (h2 _ _ p0)⟩
    · exact p.elim
  have inc : ∀ neg, wIn neg x y Pw → (∃ (c : Nat) (z : Str), v = .str ⟨#[c]⟩ ∧ u = .str z ∧ Q (.bl (if neg then !decide (c ∈ z.cps.toList) else decide (c ∈ z.cps.toList))) H) ∨ rIn C.K neg v u H Q ∨ ∃ d ds, Dp C.K H v d ∧ Dp C.K H u (.list ds) ∧ SeqAt.shaped d = true ∧ SeqAt.shaped (.list ds) = true ∧ Q (.bl (if neg then !(ds.any fun z => PyData.eqv z d) else ds.any fun z => PyData.eqv z d)) H := by
    intro neg p
    unfold wIn at p
    split at p
    · cases rw_str rx; cases rw_str ry
      obtain ⟨c, ec, p2⟩ := p
      subst ec
      exact .inl ⟨c, _, rfl, rfl, kb _ p2⟩
    · cases rw_str rx
      obtain ⟨zs, e1, p⟩ := p
      obtain ⟨a, vs, rfl, q, t⟩ := rel_seq ry e1
      cases relDs_strs t
      refine .inr (.inl ⟨a, _, rfl, q, rfl, flat_str, ?_⟩)
      rw [inV_str]
      exact kb _ p
    · cases rw_int rx
      obtain ⟨zs, e1, p⟩ := p
      obtain ⟨a, vs, rfl, q, t⟩ := rel_seq ry e1
      cases relDs_ints t
      refine .inr (.inl ⟨a, _, rfl, q, rfl, flat_int, ?_⟩)
      rw [inV_int]
      exact kb _ p
    · obtain ⟨d, ds, e1, e2, s1, s2, p⟩ := p
      exact .inr (.inr ⟨d, ds, dpW_of rx e1, dpW_of ry e2, s1, s2, kb _ p⟩)
  cases op with
  | eq => exact eqc false p
  | ne => exact eqc true p
  | lt => exact ltc .lt _ _ (fun _ _ z => z) (fun _ _ z => z) p
  | le => exact ltc .le _ _ (fun _ _ z => z) (fun _ _ z => z) p
  | gt => exact ltc .gt _ _ (fun _ _ z => z) (fun _ _ z => z) p
  | ge => exact ltc .ge _ _ (fun _ _ z => z) (fun _ _ z => z) p
  | in_ => exact inc false p
  | nin => exact inc true p
theorem de_cmp {a b : Expr} {ta tb : TDE} {pos : Pos} {op : Cop} (hK : C.K = X.K) (hu : X.A.units + 65 < cLine) (hm : behindInMarks op.py b = false) (ha : PE X a (lift C Wx ta)) (hb : PE X b (lift C Wx tb)) :
    PE X (.Compare a [op.py] [b] pos) (lift C Wx (dOp2 (wCmp op) ta tb)) :=
  (pe_cmpR (op_cmp op hu) ha hb hm).imD fun σ H Q q => op2 (fun R ds σ H h R0 H0 x y v u Pw Q e ex _ rx ry p k => hK ▸ s_cmp e ex rx ry p k) q
end
end DL
set_option maxHeartbeats 4000000
namespace DL
open PySem PySem.Spec PyProof.Rows L2
section
variable {X : Cx} {C : Cn} {Wx : WX}
def truD : D → Option Bool
  | .non => some false
  | .bl b => some b
  | .int i => some (i != 0)
  | .str x => if x.length ≤ sizeLine then some ((x.length : Int) != 0) else none
  | .tup xs => some (!xs.isEmpty)
  | .lst xs => some (!xs.isEmpty)
  | .fro xs => some (!xs.isEmpty)
  | .wtp _ => none
  | _ => none
def truW : W → Option Bool
  | .d x => truD x
  | .new xs => some (!xs.isEmpty)
  | .own xs => some (!xs.isEmpty)
  | .fn _ => none
theorem emp_of {R : Rg} {H : Hp} {xs : List D} {vs : List V} (r : RelDs C.K R H xs vs) : (!xs.isEmpty) = !vs.isEmpty := by
  cases xs with
  | nil => cases r_nil r; rfl
  | cons x xs => obtain ⟨v, q, rfl, _⟩ := r_cons r; rfl
theorem tru_of {R : Rg} {H H1 : Hp} {w : W} {v : V} {b : Bool} (r : RelW C.K H1 R H w v) (e : truW w = some b) : TruV C.K v H b := by
  cases w with
  | d x =>
    cases x with
    | non => cases rw_non r; cases e; rfl
    | bl _ => cases rw_bl r; cases e; rfl
    | int _ => cases rw_int r; cases e; rfl
    | str x =>
      cases rw_str r
      have e2 : (if x.length ≤ sizeLine then some ((x.length : Int) != 0) else none) = some b := e
      by_cases q : x.length ≤ sizeLine
      · rw [if_pos q] at e2; cases e2; exact ⟨q, rfl⟩
      · rw [if_neg q] at e2; cases e2
    | tup xs => obtain ⟨a, vs, rfl, q, t⟩ := rw_tup r; cases e; exact .inr (.inl ⟨vs, q.sq, emp_of t⟩)
    | lst xs => obtain ⟨a, vs, rfl, q, t⟩ := r_lst r; cases e; exact .inl ⟨vs, q.sq, emp_of t⟩
    | fro xs => obtain ⟨a, vs, rfl, q, t⟩ := r_fro r; cases e; exact .inl ⟨vs, q.sq, emp_of t⟩
    | ty _ => cases e
    | ref _ => cases e
    | wtp _ => cases e
  | new xs => obtain ⟨a, vs, rfl, _, q, _, _, t⟩ := r; cases e; exact .inl ⟨vs, .inl (.inl q), emp_of t⟩
  | fn _ => cases e
  | own xs => obtain ⟨a, vs, rfl, q, _, _, t⟩ := r; cases e; exact .inl ⟨vs, .inl (.inl q), emp_of t⟩
def dTru (t : TDE) : TDT := fun ds h P Z => t ds h (fun w h' => ∃ b, truW w = some b ∧ P b h') Z
def dAndT (ta tb : TDT) : TDT := fun ds h P Z => ta ds h (fun b h1 => if b = true then tb ds h1 P Z else P false h1) Z
def dOrT (ta tb : TDT) : TDT := fun ds h P Z => ta ds h (fun b h1 => if b = true then P true h1 else tb ds h1 P Z) Z
def dNotT (ta : TDT) : TDT := fun ds h P Z => ta ds h (fun b h1 => P (!b) h1) Z
/-- the values of and, or, not -/
def dAnd (ta tb : TDE) : TDE := fun ds h P Z => ta ds h (fun x h1 => ∃ b, truW x = some b ∧ if b = true then tb ds h1 P Z else P x h1) Z
def dOr (ta tb : TDE) : TDE := fun ds h P Z => ta ds h (fun x h1 => ∃ b, truW x = some b ∧ if b = true then P x h1 else tb ds h1 P Z) Z
def dIf (tc : TDT) (ta tb : TDE) : TDE := fun ds h P Z => tc ds h (fun b h1 => if b = true then ta ds h1 P Z else tb ds h1 P Z) Z
theorem dt_tru {a : Expr} {ta : TDE} (hK : C.K = X.K) (ha : PE X a (lift C Wx ta)) (he : ∀ whole, isTrue a X.env whole = (do let v ← whole; standAt a.pos; holding [v] (truthy v))) : PT X a (liftT C Wx (dTru ta)) :=
  (pt_truth ha he).imD fun σ H Q q => by
    obtain ⟨R, ds, h, P, Z, e, p, k, z⟩ := q
    refine ⟨R, ds, h, _, Z, e, p, fun R' H' h' w v ⟨b, hb, pb⟩ x e' r => ?_, z⟩
    exact ⟨b, hK ▸ tru_of r hb, k R' H' h' b pb x e'⟩
theorem t2 {ta : TDT} {u : TT} {f : Bool → Hs → Prop} {σ : Sl} {H : Hp} {Q : Bool → Hp → Prop} {Z : XD} {R : Rg} {ds : DSt} {h : Hs} {g : Bool → Hp → Prop} (e : Env C R ds σ H h) (p : ta ds h f Z)
    (k : ∀ R' H' h' b, f b h' → Ex R H R' H' → Env C R' ds σ H' h' → g b H') (z : ∀ R' H' h' x cls dd, Z x h' → Ex R H R' H' → Env C R' ds σ H' h' → RelX C R' H' x cls dd → Wx cls dd σ H') : liftT C Wx ta σ H g :=
  ⟨R, ds, h, f, Z, e, p, k, z⟩
theorem dw_and1 {a : Expr} {ta : TDT} {pos : Pos} (ha : PT X a (liftT C Wx ta)) : PW X (.BoolOp .And [a] pos) (liftT C Wx ta) := pw_and1 ha
theorem dw_or1 {a : Expr} {ta : TDT} {pos : Pos} (ha : PT X a (liftT C Wx ta)) : PW X (.BoolOp .Or [a] pos) (liftT C Wx ta) := pw_or1 ha
theorem dw_and {a b : Expr} {rest : List Expr} {ta tb : TDT} {pos : Pos} (ha : PT X a (liftT C Wx ta)) (hb : PW X (.BoolOp .And (b :: rest) pos) (liftT C Wx tb)) : PW X (.BoolOp .And (a :: b :: rest) pos) (liftT C Wx (dAndT ta tb)) :=
  (pw_and ha hb).imD fun σ H Q q => by
    obtain ⟨R, ds, h, P, Z, e, p, k, z⟩ := q
    refine ⟨R, ds, h, _, Z, e, p, fun R' H' h' b pb x e' => ?_, z⟩
    cases b with
    | true => exact ⟨R', ds, h', P, Z, e', pb, fun R2 H2 h2 c pc x2 e2 => k R2 H2 h2 c pc (x.trans x2) e2, fun R2 H2 h2 y cls dd a b c d => z R2 H2 h2 y cls dd a (x.trans b) c d⟩
    | false => exact k R' H' h' false pb x e'
theorem dw_or {a b : Expr} {rest : List Expr} {ta tb : TDT} {pos : Pos} (ha : PT X a (liftT C Wx ta)) (hb : PW X (.BoolOp .Or (b :: rest) pos) (liftT C Wx tb)) : PW X (.BoolOp .Or (a :: b :: rest) pos) (liftT C Wx (dOrT ta tb)) :=
  (pw_or ha hb).imD fun σ H Q q => by
    obtain ⟨R, ds, h, P, Z, e, p, k, z⟩ := q
    refine ⟨R, ds, h, _, Z, e, p, fun R' H' h' b pb x e' => ?_, z⟩
    cases b with
    | false => exact ⟨R', ds, h', P, Z, e', pb, fun R2 H2 h2 c pc x2 e2 => k R2 H2 h2 c pc (x.trans x2) e2, fun R2 H2 h2 y cls dd a b c d => z R2 H2 h2 y cls dd a (x.trans b) c d⟩
    | true => exact k R' H' h' true pb x e'
theorem dt_not {a : Expr} {ta : TDT} {pos : Pos} (ha : PT X a (liftT C Wx ta)) : PT X (.UnaryOp .Not a pos) (liftT C Wx (dNotT ta)) :=
  (pt_not ha).imD fun σ H Q q => by
    obtain ⟨R, ds, h, P, Z, e, p, k, z⟩ := q
    exact ⟨R, ds, h, _, Z, e, p, fun R' H' h' b pb x e' => k R' H' h' _ pb x e', z⟩
/-- a comparison as a test -/
def dCmpT (op : Cop) (ta tb : TDE) : TDT := fun ds h P Z => ta ds h (fun x h1 => tb ds h1 (fun y h2 => wCmp op x y fun z => ∃ b, z = .d (.bl b) ∧ P b h2) Z) Z
theorem dt_cmp {a b : Expr} {ta tb : TDE} {pos : Pos} {op : Cop} (hK : C.K = X.K) (hu : X.A.units + 65 < cLine) (hm : behindInMarks op.py b = false) (ha : PE X a (lift C Wx ta)) (hb : PE X b (lift C Wx tb)) :
    PT X (.Compare a [op.py] [b] pos) (liftT C Wx (dCmpT op ta tb)) :=
  (pt_cmpR (op_cmp op hu) ha hb hm).imD fun σ H Q q => by
    obtain ⟨R, ds, h, P, Z, e, p, k, z⟩ := q
    refine ⟨R, ds, h, _, Z, e, p, fun R1 H1 h1 w1 v1 p1 x1 e1 r1 => ?_, z⟩
    refine ⟨R1, ds, h1, _, Z, e1, p1, fun R2 H2 h2 w2 v2 p2 x2 e2 r2 => ?_, fun R' H' h' x cls dd a b c d => z R' H' h' x cls dd a (x1.trans b) c d⟩
    refine hK ▸ s_cmp e2 (x1.trans x2) (relW_ex e1.ok x2 r1) (relW_start x1.dom r2) p2 fun R' H' w v ⟨b, hb, pb⟩ x' e' r' => ?_
    subst hb
    exact ⟨b, rw_bl r', k R' H' h2 b pb ((x1.trans x2).trans x') e'⟩
/-- a < b < c -/
def dChain (op op' : Cop) (ta tb tc : TDE) : TDT := fun ds h P Z => ta ds h (fun x h1 => tb ds h1 (fun y h2 => wCmp op x y fun z => ∃ b, z = .d (.bl b) ∧
  if b = true then tc ds h2 (fun u h3 => wCmp op' y u fun z => ∃ b, z = .d (.bl b) ∧ P b h3) Z else P false h2) Z) Z
theorem dt_chain {a b c : Expr} {ta tb tc : TDE} {pos : Pos} {op op' : Cop} (hK : C.K = X.K) (hu : X.A.units + 65 < cLine) (hm : lastMarks [op.py, op'.py] [b, c] = false)
    (ha : PE X a (lift C Wx ta)) (hb : PE X b (lift C Wx tb)) (hc : PE X c (lift C Wx tc)) : PT X (.Compare a [op.py, op'.py] [b, c] pos) (liftT C Wx (dChain op op' ta tb tc)) :=
  (pt_chain (op_cmp op hu) (op_cmp op' hu) ha hb hc hm).imD fun σ H Q q => by
    obtain ⟨R, ds, h, P, Z, e, p, k, z⟩ := q
    refine ⟨R, ds, h, _, Z, e, p, fun R1 H1 h1 w1 v1 p1 x1 e1 r1 => ?_, z⟩
    refine ⟨R1, ds, h1, _, Z, e1, p1, fun R2 H2 h2 w2 v2 p2 x2 e2 r2 => ?_, fun R' H' h' x cls dd a b c d => z R' H' h' x cls dd a (x1.trans b) c d⟩
    have r2' := relW_start x1.dom r2
    refine hK ▸ s_cmp e2 (x1.trans x2) (relW_ex e1.ok x2 r1) r2' p2 fun R' H' w v ⟨b, hb, pb⟩ x' e' r' => ?_
    subst hb
    refine ⟨b, rw_bl r', ?_⟩
    have xx := (x1.trans x2).trans x'
    cases b with
    | false =>
      rw [if_neg Bool.false_ne_true] at pb ⊢
      exact ⟨false, rfl, k R' H' h2 false pb xx e'⟩
    | true =>
      rw [if_pos rfl] at pb ⊢
      refine ⟨R', ds, h2, _, Z, e', pb, fun R3 H3 h3 w3 v3 p3 x3 e3 r3 => ?_, fun R' H' h' x cls dd a b c d => z R' H' h' x cls dd a (xx.trans b) c d⟩
      refine s_cmp (C := C) e3 (xx.trans x3) (relW_ex e'.ok x3 (relW_ex e2.ok x' r2')) (relW_start xx.dom r3) p3 fun R4 H4 w v ⟨b, hb, pb⟩ x4 e4 r4 => ?_
      subst hb
      exact ⟨b, rw_bl r4, k R4 H4 h3 b pb ((xx.trans x3).trans x4) e4⟩
end
end DL
set_option maxHeartbeats 4000000
namespace DL
open PySem PySem.Spec PyProof.Rows L2
section
variable {X : Cx} {C : Cn} {Wx : WX}
theorem de_one {op} {a : Expr} {ta : TDE} {pos : Pos} (ha : PE X a (lift C Wx ta)) : PE X (.BoolOp op [a] pos) (lift C Wx ta) := pe_one ha
theorem de_and {a b : Expr} {rest : List Expr} {ta tb : TDE} {pos : Pos} (hK : C.K = X.K) (ha : PE X a (lift C Wx ta)) (hb : PE X (.BoolOp .And (b :: rest) pos) (lift C Wx tb)) : PE X (.BoolOp .And (a :: b :: rest) pos) (lift C Wx (dAnd ta tb)) :=
  (pe_andT ha hb).imD fun σ H Q q => by
    obtain ⟨R, ds, h, P, Z, e, p, k, z⟩ := q
    refine ⟨R, ds, h, _, Z, e, p, fun R' H' h' w v ⟨b, hb, pb⟩ x e' r => ⟨b, hK ▸ tru_of r hb, ?_⟩, z⟩
    cases b with
    | true => exact ⟨R', ds, h', P, Z, e', pb, fun R2 H2 h2 c u pc x2 e2 r2 => k R2 H2 h2 c u pc (x.trans x2) e2 (relW_start x.dom r2), fun R2 H2 h2 y cls dd a b c d => z R2 H2 h2 y cls dd a (x.trans b) c d⟩
    | false => exact k R' H' h' w v pb x e' r
theorem de_or {a b : Expr} {rest : List Expr} {ta tb : TDE} {pos : Pos} (hK : C.K = X.K) (ha : PE X a (lift C Wx ta)) (hb : PE X (.BoolOp .Or (b :: rest) pos) (lift C Wx tb)) : PE X (.BoolOp .Or (a :: b :: rest) pos) (lift C Wx (dOr ta tb)) :=
  (pe_orT ha hb).imD fun σ H Q q => by
    obtain ⟨R, ds, h, P, Z, e, p, k, z⟩ := q
    refine ⟨R, ds, h, _, Z, e, p, fun R' H' h' w v ⟨b, hb, pb⟩ x e' r => ⟨b, hK ▸ tru_of r hb, ?_⟩, z⟩
    cases b with
    | false => exact ⟨R', ds, h', P, Z, e', pb, fun R2 H2 h2 c u pc x2 e2 r2 => k R2 H2 h2 c u pc (x.trans x2) e2 (relW_start x.dom r2), fun R2 H2 h2 y cls dd a b c d => z R2 H2 h2 y cls dd a (x.trans b) c d⟩
    | true => exact k R' H' h' w v pb x e' r
/-- not, of a value by its truth -/
def dNotV (ta : TDE) : TDE := fun ds h P Z => ta ds h (fun x h1 => ∃ b, truW x = some b ∧ P (.d (.bl (!b))) h1) Z
theorem de_not {a : Expr} {ta : TDE} {pos : Pos} (hK : C.K = X.K) (ha : PE X a (lift C Wx ta)) : PE X (.UnaryOp .Not a pos) (lift C Wx (dNotV ta)) :=
  (pe_notT ha).imD fun σ H Q q => by
    obtain ⟨R, ds, h, P, Z, e, p, k, z⟩ := q
    exact ⟨R, ds, h, _, Z, e, p, fun R' H' h' w v ⟨b, hb, pb⟩ x e' r => ⟨b, hK ▸ tru_of r hb, k R' H' h' _ _ pb x e' mw_bl⟩, z⟩
theorem de_if {c a b : Expr} {tc : TDT} {ta tb : TDE} {pos : Pos} (hc : PT X c (liftT C Wx tc)) (ha : PE X a (lift C Wx ta)) (hb : PE X b (lift C Wx tb)) : PE X (.IfExp c a b pos) (lift C Wx (dIf tc ta tb)) :=
  (pe_ifExp hc ha hb).imD fun σ H Q q => by
    obtain ⟨R, ds, h, P, Z, e, p, k, z⟩ := q
    refine ⟨R, ds, h, _, Z, e, p, fun R' H' h' b pb x e' => ?_, z⟩
    cases b with
    | true => exact ⟨R', ds, h', P, Z, e', pb, fun R2 H2 h2 c u pc x2 e2 r2 => k R2 H2 h2 c u pc (x.trans x2) e2 (relW_start x.dom r2), fun R2 H2 h2 y cls dd a b c d => z R2 H2 h2 y cls dd a (x.trans b) c d⟩
    | false => exact ⟨R', ds, h', P, Z, e', pb, fun R2 H2 h2 c u pc x2 e2 r2 => k R2 H2 h2 c u pc (x.trans x2) e2 (relW_start x.dom r2), fun R2 H2 h2 y cls dd a b c d => z R2 H2 h2 y cls dd a (x.trans b) c d⟩
def isNon : W → Bool
  | .d .non => true
  | _ => false
def wIs (neg : Bool) (x : W) (Q : W → Prop) : Prop := Q (.d (.bl (xor neg (isNon x))))
theorem nonIff {R : Rg} {H H1 : Hp} {w : W} {v : V} (r : RelW C.K H1 R H w v) : decide (v = .non) = isNon w := by
  cases w with
  | d x =>
    cases x with
    | non => cases rw_non r; rfl
    | bl _ => cases rw_bl r; rfl
    | int _ => cases rw_int r; rfl
    | str _ => cases rw_str r; rfl
    | ty _ => have r2 : RelD C.K R H (.ty _) v := r; unfold RelD at r2; subst r2; rfl
    | ref _ => have r2 : RelD C.K R H (.ref _) v := r; obtain ⟨_, rfl⟩ := r_ref r2; rfl
    | tup _ => obtain ⟨_, _, rfl, _⟩ := rw_tup r; rfl
    | lst _ => have r2 : RelD C.K R H (.lst _) v := r; obtain ⟨_, _, rfl, _⟩ := r_lst r2; rfl
    | fro _ => have r2 : RelD C.K R H (.fro _) v := r; obtain ⟨_, _, rfl, _⟩ := r_fro r2; rfl
    | wtp _ => have r2 : RelD C.K R H (.wtp _) v := r; obtain ⟨_, _, rfl, _⟩ := r_wtp r2; rfl
  | new _ => obtain ⟨_, _, rfl, _⟩ := r; rfl
  | own _ => obtain ⟨_, _, rfl, _⟩ := r; rfl
  | fn _ => have r2 : v = .ref _ := r; subst r2; rfl
theorem de_isN {a : Expr} {ta : TDE} {pos pos' : Pos} {j} (ha : PE X a (lift C Wx ta)) : PE X (.Compare a [.Is] [.Constant .none j pos'] pos) (lift C Wx (dOp1 (wIs false) ta)) :=
  (pe_cmp (pc_isN ha)).imD fun σ H Q q => by
    obtain ⟨R, ds, h, P, Z, e, p, k, z⟩ := q
    refine ⟨R, ds, h, _, Z, e, p, fun R' H' h' w v pb x e' r => ?_, z⟩
    show Q (V.bl (decide (v = .non))) H'
    rw [nonIff r]
    unfold wIs at pb
    rw [Bool.false_xor] at pb
    exact k R' H' h' _ _ pb x e' mw_bl
theorem de_notN {a : Expr} {ta : TDE} {pos pos' : Pos} {j} (ha : PE X a (lift C Wx ta)) : PE X (.Compare a [.IsNot] [.Constant .none j pos'] pos) (lift C Wx (dOp1 (wIs true) ta)) :=
  (pe_cmp (pc_notN ha)).imD fun σ H Q q => by
    obtain ⟨R, ds, h, P, Z, e, p, k, z⟩ := q
    refine ⟨R, ds, h, _, Z, e, p, fun R' H' h' w v pb x e' r => ?_, z⟩
    show Q (V.bl (!decide (v = .non))) H'
    rw [nonIff r]
    unfold wIs at pb
    rw [Bool.true_xor] at pb
    exact k R' H' h' _ _ pb x e' mw_bl
def dIsT (neg : Bool) (ta : TDE) : TDT := fun ds h P Z => ta ds h (fun x h1 => P (xor neg (isNon x)) h1) Z
theorem dt_isN {a : Expr} {ta : TDE} {pos pos' : Pos} {j} (ha : PE X a (lift C Wx ta)) : PT X (.Compare a [.Is] [.Constant .none j pos'] pos) (liftT C Wx (dIsT false ta)) :=
  (pt_cmp (pc_isN ha)).imD fun σ H Q q => by
    obtain ⟨R, ds, h, P, Z, e, p, k, z⟩ := q
    refine ⟨R, ds, h, _, Z, e, p, fun R' H' h' w v pb x e' r => ?_, z⟩
    refine ⟨_, rfl, ?_⟩
    rw [nonIff r]
    rw [Bool.false_xor] at pb
    exact k R' H' h' _ pb x e'
theorem dt_notN {a : Expr} {ta : TDE} {pos pos' : Pos} {j} (ha : PE X a (lift C Wx ta)) : PT X (.Compare a [.IsNot] [.Constant .none j pos'] pos) (liftT C Wx (dIsT true ta)) :=
  (pt_cmp (pc_notN ha)).imD fun σ H Q q => by
    obtain ⟨R, ds, h, P, Z, e, p, k, z⟩ := q
    refine ⟨R, ds, h, _, Z, e, p, fun R' H' h' w v pb x e' r => ?_, z⟩
    refine ⟨_, rfl, ?_⟩
    rw [nonIff r]
    rw [Bool.true_xor] at pb
    exact k R' H' h' _ pb x e'
def dNil : TDA := fun _ h P _ => P [] h
def dCons (t : TDE) (u : TDA) : TDA := fun ds h P Z => dD t ds h (fun x h1 => u ds h1 (fun xs h2 => P (x :: xs) h2) Z) Z
theorem da_nil : PA X [] (liftA C Wx dNil) := pa_nil.imD fun σ H Q q => by
  obtain ⟨R, ds, h, P, Z, e, p, k, z⟩ := q
  exact k R H h _ _ p (Ex.refl _ _) e m_nil
theorem da_cons {e : Expr} {es : List Expr} {t : TDE} {u : TDA} (he : PE X e (lift C Wx t)) (hr : PA X es (liftA C Wx u)) (hs : starEach (e :: es) X.env = (false, eval e X.env) :: starEach es X.env) : PA X (e :: es) (liftA C Wx (dCons t u)) :=
  (pa_cons (pe_D he) hr hs).imD fun σ H Q q => by
    obtain ⟨R, ds, h, P, Z, e, p, k, z⟩ := q
    refine ⟨R, ds, h, _, Z, e, p, fun R1 H1 h1 w1 v1 p1 x1 e1 r1 => ?_, z⟩
    refine ⟨R1, ds, h1, _, Z, e1, p1, fun R2 H2 h2 w2 v2 p2 x2 e2 r2 => ?_, fun R' H' h' x cls dd a b c d => z R' H' h' x cls dd a (x1.trans b) c d⟩
    exact k R2 H2 h2 _ _ p2 (x1.trans x2) e2 (m_cons (relD_ex e1.ok x2 r1) r2)
def dTup (t : TDA) : TDE := fun ds h P Z => t ds h (fun xs h1 => xs.length ≤ sizeLine ∧ P (.d (.tup xs)) h1) Z
def dLst (t : TDA) : TDE := fun ds h P Z => t ds h (fun xs h1 => xs.length ≤ sizeLine ∧ P (.new xs) h1) Z
theorem de_tup {es : List Expr} {t : TDA} {pos : Pos} {j} (ha : PA X es (liftA C Wx t)) : PE X (.Tuple es j pos) (lift C Wx (dTup t)) :=
  (pe_tup ha).imD fun σ H Q q => by
    obtain ⟨R, ds, h, P, Z, e, p, k, z⟩ := q
    refine ⟨R, ds, h, _, Z, e, p, fun R1 H1 h1 w1 v1 ⟨l, p1⟩ x1 e1 r1 => ⟨by rw [← relDs_len r1]; exact l, fun pp np => ?_⟩, z⟩
    exact k R1 _ h1 _ _ p1 (x1.trans (Ex.fresh np)) (e1.fresh np) (mw_tup upd_same (relDs_ex e1.ok (Ex.fresh np) r1))
theorem m_new {R R0 : Rg} {H H0 : Hp} {ds : DSt} {σ : Sl} {h : Hs} {pp : Addr} {xs : List D} {vs : List V} (e : Env C R ds σ H h) (x : Ex R0 H0 R H) (np : H pp = none) (r : RelDs C.K R H xs vs) : RelW C.K H0 R (upd H pp (.lst vs)) (.new xs) (.ref pp) :=
  ⟨pp, vs, rfl, x.dom pp np, upd_same, (e.ok.nfresh np).1, (e.ok.nfresh np).2, relDs_ex e.ok (Ex.fresh np) r⟩
theorem de_lst {es : List Expr} {t : TDA} {pos : Pos} (ha : PA X es (liftA C Wx t)) : PE X (.List es pos) (lift C Wx (dLst t)) :=
  (pe_lst ha).imD fun σ H Q q => by
    obtain ⟨R, ds, h, P, Z, e, p, k, z⟩ := q
    refine ⟨R, ds, h, _, Z, e, p, fun R1 H1 h1 w1 v1 ⟨l, p1⟩ x1 e1 r1 => ⟨by rw [← relDs_len r1]; exact l, fun pp np => ?_⟩, z⟩
    exact k R1 _ h1 _ _ p1 (x1.trans (Ex.fresh np)) (e1.fresh np) (m_new e1 x1 np r1)
inductive B1 where
  | len | int | repr | sum | all | any | tuple | list | str | bool | abs
def B1.name : B1 → Str
  | .len => "len" | .int => "int" | .repr => "repr" | .sum => "sum" | .all => "all" | .any => "any" | .tuple => "tuple" | .list => "list" | .str => "str" | .bool => "bool" | .abs => "abs"
def wLen (x : W) (Q : W → Prop) : Prop := match x with
  | .d (.str s) => s.length ≤ sizeLine ∧ Q (.d (.int s.length))
  | x => ∃ xs, seqW x = some xs ∧ Q (.d (.int xs.length))
def wIntc (x : W) (Q : W → Prop) : Prop := match x with
  | .d (.int i) => Q (.d (.int i))
  | .d (.bl b) => Q (.d (.int (if b then 1 else 0)))
  | .d (.str a) => ∃ n, PySem.intText? a = some n ∧ a.length ≤ 640 ∧ Q (.d (.int n))
  | _ => False
def wRepr (x : W) (Q : W → Prop) : Prop := ∃ d, pyW x = some d ∧ d.showable = true ∧ d.depth ≤ 40 ∧ d.shown.length ≤ sizeLine ∧ Q (.d (.str d.shown))
def wSum (x : W) (Q : W → Prop) : Prop := ∃ ns : List Int, lstW x = some (ns.map D.int) ∧ Q (.d (.int ns.sum))
def wAll (x : W) (Q : W → Prop) : Prop := ∃ bs : List Bool, lstW x = some (bs.map D.bl) ∧ Q (.d (.bl (bs.all id)))
def wAny (x : W) (Q : W → Prop) : Prop := ∃ bs : List Bool, lstW x = some (bs.map D.bl) ∧ Q (.d (.bl (bs.any id)))
def wTuple (x : W) (Q : W → Prop) : Prop := ∃ xs, seqW x = some xs ∧ Q (.d (.tup xs))
def wList (x : W) (Q : W → Prop) : Prop := ∃ xs, seqW x = some xs ∧ Q (.new xs)
def wStrc (x : W) (Q : W → Prop) : Prop := match x with
  | .d (.int i) => i.natAbs.log2 < 1920 ∧ Q (.d (.str (toString i)))
  | .d (.str a) => Q (.d (.str a))
  | _ => False
def wBoolc (x : W) (Q : W → Prop) : Prop := match x with
  | .d (.int i) => Q (.d (.bl (i != 0)))
  | .d (.bl b) => Q (.d (.bl b))
  | _ => False
def wAbs (x : W) (Q : W → Prop) : Prop := match x with
  | .d (.int i) => Q (.d (.int (if i < 0 then -i else i)))
  | _ => False
def wB1 : B1 → W → (W → Prop) → Prop
  | .len => wLen | .int => wIntc | .repr => wRepr | .sum => wSum | .all => wAll | .any => wAny | .tuple => wTuple | .list => wList | .str => wStrc | .bool => wBoolc | .abs => wAbs
/-- repr of data, where nothing is being shown -/
theorem call_reprD (hg : X.A.guards = some []) (hu : X.A.units + 64 < cLine) : CallR X (.builtin "repr") (fun xs H Q => ∃ v d, xs = [v] ∧ Dp X.K H v d ∧ d.showable = true ∧ d.hasDict = false ∧ d.depth ≤ 40 ∧ d.shown.length ≤ sizeLine ∧ Q (.str d.shown) H) := by
  intro pins s σ H xs us Q I r h
  obtain ⟨v, d, rfl, hd, hs, hn, hl, hz, q⟩ := h
  obtain ⟨u, rfl, ru⟩ := vals1 r
  obtain ⟨as, rd⟩ := Dp.reads I d v u hd ru
  cases hd with
  | non => cases ru; exact PySem.P.repr_of_none ⟨.str _, H, I.tok _, ⟨_, rfl⟩, q⟩
  | bl b => cases ru; exact PySem.P.repr_of_bool ⟨.str _, H, I.tok _, ⟨_, rfl⟩, q⟩
  | int i => obtain ⟨t, rfl⟩ := ru; exact PySem.P.repr_of_int (of_decide_eq_true hs) ⟨.str _, H, I.tok _, ⟨_, rfl⟩, q⟩
  | str x => obtain ⟨t, rfl⟩ := ru; exact PySem.P.repr_of_str ⟨.str _, H, I.tok _, ⟨_, rfl⟩, q⟩ hz
  | lst _ _ =>
    cases ru
    exact repr_of_reads' rd hs (fun z => by rw [hn] at z; cases z) hg (by omega) (fun _ _ e => e) (fun h' u tk hk => ⟨.str _, H, I.kept (t' := tk) hk, ⟨_, rfl⟩, q⟩) hz
  | tup _ _ =>
    cases ru
    exact repr_of_reads' rd hs (fun z => by rw [hn] at z; cases z) hg (by omega) (fun _ _ e => e) (fun h' u tk hk => ⟨.str _, H, I.kept (t' := tk) hk, ⟨_, rfl⟩, q⟩) hz
end
end DL
set_option maxHeartbeats 4000000
namespace DL
open PySem PySem.Spec PyProof.Rows L2
section
variable {X : Cx} {C : Cn} {Wx : WX}
mutual
theorem noDict : ∀ {d : D} {p : PyData}, toPy d = some p → p.hasDict = false
  | .non, p, e => by unfold toPy at e; cases e; rfl
  | .bl _, p, e => by unfold toPy at e; cases e; rfl
  | .int _, p, e => by unfold toPy at e; cases e; rfl
  | .str _, p, e => by unfold toPy at e; cases e; rfl
  | .ty _, p, e => by unfold toPy at e; cases e
  | .ref _, p, e => by unfold toPy at e; cases e
  | .tup xs, p, e => by unfold toPy at e; obtain ⟨ps, e1, rfl⟩ := Option.map_eq_some_iff.mp e; exact noDicts e1
  | .lst xs, p, e => by unfold toPy at e; obtain ⟨ps, e1, rfl⟩ := Option.map_eq_some_iff.mp e; exact noDicts e1
  | .fro xs, p, e => by unfold toPy at e; obtain ⟨ps, e1, rfl⟩ := Option.map_eq_some_iff.mp e; exact noDicts e1
  | .wtp xs, p, e => by unfold toPy at e; obtain ⟨ps, e1, rfl⟩ := Option.map_eq_some_iff.mp e; exact noDicts e1
theorem noDicts : ∀ {ds : List D} {ps : List PyData}, toPys ds = some ps → PyData.hasDictAll ps = false
  | [], ps, e => by unfold toPys at e; cases e; rfl
  | d :: ds, ps, e => by
    unfold toPys at e
    split at e
    · rename_i a b e1 e2
      cases e
      show (a.hasDict || PyData.hasDictAll b) = false
      rw [noDict e1, noDicts e2]; rfl
    · cases e
end
theorem noDictW {w : W} {p : PyData} (e : pyW w = some p) : p.hasDict = false := by
  cases w with
  | d x => exact noDict e
  | new xs => obtain ⟨ps, e1, rfl⟩ := Option.map_eq_some_iff.mp e; exact noDicts e1
  | fn _ => cases e
  | own xs => obtain ⟨ps, e1, rfl⟩ := Option.map_eq_some_iff.mp e; exact noDicts e1
/-- the layer's rules for a built-in of one argument -/
def rB1 (K : Fg) : B1 → V → Hp → VK → Prop
  | .len => fun x H Q => (∃ p ys, x = .ref p ∧ (SqL K H p ys ∨ SqT K H p ys) ∧ Q (.int ys.length) H) ∨ ∃ z, x = .str z ∧ z.length ≤ sizeLine ∧ Q (.int z.length) H
  | .int => fun x H Q => ((∃ i, x = .int i ∧ Q (.int i) H) ∨ ∃ k, x = .bl k ∧ Q (.int (if k then 1 else 0)) H) ∨ ∃ a n, x = .str a ∧ PySem.intText? a = some n ∧ a.length ≤ 640 ∧ Q (.int n) H
  | .repr => fun x H Q => ∃ d, Dp K H x d ∧ d.showable = true ∧ d.hasDict = false ∧ d.depth ≤ 40 ∧ d.shown.length ≤ sizeLine ∧ Q (.str d.shown) H
  | .sum => fun x H Q => ∃ (a : Addr) (ns : List Int), x = .ref a ∧ SqL K H a (ns.map V.int) ∧ Q (.int ns.sum) H
  | .all => fun x H Q => ∃ (a : Addr) (bs : List Bool), x = .ref a ∧ SqL K H a (bs.map V.bl) ∧ Q (.bl (bs.all id)) H
  | .any => fun x H Q => ∃ (a : Addr) (bs : List Bool), x = .ref a ∧ SqL K H a (bs.map V.bl) ∧ Q (.bl (bs.any id)) H
  | .tuple => fun x H Q => ∃ p ys, x = .ref p ∧ ((SqL K H p ys ∧ ∀ l, H l = none → Q (.ref l) (upd H l (.tup ys))) ∨ (SqT K H p ys ∧ Q (.ref p) H))
  | .list => fun x H Q => ∃ p ys, x = .ref p ∧ (SqL K H p ys ∨ SqT K H p ys) ∧ ∀ l, H l = none → Q (.ref l) (upd H l (.lst ys))
  | .str => fun x H Q => (∃ i, x = .int i ∧ i.natAbs.log2 < 1920 ∧ Q (.str (toString i)) H) ∨ ∃ a, x = .str a ∧ Q (.str a) H
  | .bool => fun x H Q => (∃ i, x = .int i ∧ Q (.bl (i != 0)) H) ∨ ∃ k, x = .bl k ∧ Q (.bl k) H
  | .abs => fun x H Q => ∃ i, x = .int i ∧ Q (.int (if i < 0 then -i else i)) H
/-- what a built-in asks of the place where it is called -/
structure B1Ok (X : Cx) (b : B1) : Prop where
  free : X.mg b.name = none
  gl : Gl X b.name
  calm : X.calm = true
  units : X.A.units + 64 < cLine
  guard : b = .repr → X.A.guards = some []
def B1.val : B1 → Value
  | .len => .builtin "len" | .int => .type "int" | .repr => .builtin "repr" | .sum => .builtin "sum" | .all => .builtin "all" | .any => .builtin "any" | .tuple => .type "tuple" | .list => .type "list" | .str => .type "str" | .bool => .type "bool" | .abs => .builtin "abs"
def rArg1 (r : V → Hp → VK → Prop) : List V → Hp → VK → Prop := fun xs H Q => ∃ x, xs = [x] ∧ r x H Q
theorem call_b1 (b : B1) (ok : B1Ok X b) : CallR X b.val (rArg1 (rB1 X.K b)) := by
  intro pins s σ H xs us Q I r h
  obtain ⟨x, rfl, h⟩ := h
  cases b with
  | len =>
    rcases h with ⟨p, ys, rfl, q⟩ | ⟨z, rfl, q⟩
    · exact call_len_seq pins s σ H _ us Q I r ⟨p, ys, rfl, q⟩
    · exact call_len_str pins s σ H _ us Q I r ⟨z, rfl, q⟩
  | int =>
    rcases h with (⟨i, rfl, q⟩ | ⟨k, rfl, q⟩) | ⟨a, n, rfl, q⟩
    · exact call_int1 pins s σ H _ us Q I r (.inl ⟨i, rfl, q⟩)
    · exact call_int1 pins s σ H _ us Q I r (.inr ⟨k, rfl, q⟩)
    · exact call_int_str pins s σ H _ us Q I r ⟨a, n, rfl, q⟩
  | repr => obtain ⟨d, q⟩ := h; exact call_reprD (ok.guard rfl) ok.units pins s σ H _ us Q I r ⟨x, d, rfl, q⟩
  | sum => obtain ⟨a, n, rfl, q⟩ := h; exact cr_sum ok.calm pins s σ H _ us Q I r ⟨a, n, rfl, q⟩
  | all => obtain ⟨a, n, rfl, q⟩ := h; exact cr_all ok.calm pins s σ H _ us Q I r ⟨a, n, rfl, q⟩
  | any => obtain ⟨a, n, rfl, q⟩ := h; exact cr_any ok.calm pins s σ H _ us Q I r ⟨a, n, rfl, q⟩
  | tuple => obtain ⟨a, n, rfl, q⟩ := h; exact call_tuple_of pins s σ H _ us Q I r ⟨a, n, rfl, q⟩
  | list => obtain ⟨a, n, rfl, q⟩ := h; exact call_list_of pins s σ H _ us Q I r ⟨a, n, rfl, q⟩
  | str =>
    rcases h with ⟨i, rfl, q⟩ | ⟨a, rfl, q⟩
    · exact call_str_int pins s σ H _ us Q I r ⟨i, rfl, q⟩
    · exact SkE.call_str_str pins s σ H _ us Q I r ⟨a, rfl, q⟩
  | bool =>
    rcases h with ⟨i, rfl, q⟩ | ⟨a, rfl, q⟩
    · exact call_bool1 pins s σ H _ us Q I r (.inl ⟨i, rfl, q⟩)
    · exact call_bool1 pins s σ H _ us Q I r (.inr ⟨a, rfl, q⟩)
  | abs => obtain ⟨i, rfl, q⟩ := h; exact call_abs pins s σ H _ us Q I r ⟨i, rfl, q⟩
theorem pe_b1 {a : Expr} {t : TE} {p pos : Pos} (b : B1) (ok : B1Ok X b) (ha : PE X a t) (he : starEach [a] X.env = (false, eval a X.env) :: starEach [] X.env) : PE X (.Call (.Name b.name p) [a] [] pos) (tCB (rArg1 (rB1 X.K b)) (tCons t tNil)) := by
  have ar : PA X [a] (tCons t tNil) := pa_cons ha pa_nil he
  have c := call_b1 b ok
  have f := ok.free
  have g := ok.gl
  cases b with
  | len => exact pe_callB c g f (by decide +kernel) ar (he := he)
  | int => exact pe_callTy c g f (by decide +kernel) ar (he := he)
  | repr => exact pe_callB c g f (by decide +kernel) ar (he := he)
  | sum => exact pe_callB c g f (by decide +kernel) ar (he := he)
  | all => exact pe_callB c g f (by decide +kernel) ar (he := he)
  | any => exact pe_callB c g f (by decide +kernel) ar (he := he)
  | tuple => exact pe_callTy c g f (by decide +kernel) ar (he := he)
  | list => exact pe_callTy c g f (by decide +kernel) ar (he := he)
  | str => exact pe_callTy c g f (by decide +kernel) ar (he := he)
  | bool => exact pe_callTy c g f (by decide +kernel) ar (he := he)
  | abs => exact pe_callB c g f (by decide +kernel) ar (he := he)
theorem s_b1 {b : B1} {R : Rg} {ds : DSt} {σ : Sl} {H : Hp} {h : Hs} {R0 : Rg} {H0 : Hp} {x : W} {v : V} {Pw : W → Prop} {Q : VK} (e : Env C R ds σ H h) (ex : Ex R0 H0 R H)
    (rx : RelW C.K H0 R H x v) (p : wB1 b x Pw) (k : Kont C ds σ h R H H0 Pw Q) : rB1 C.K b v H Q := by
  cases b with
  | len =>
    have p : wLen x Pw := p
    unfold wLen at p
    split at p
    · cases rw_str rx
      exact .inr ⟨_, rfl, p.1, k R H _ _ p.2 (Ex.refl _ _) e mw_int⟩
    · obtain ⟨xs, e1, p⟩ := p
      obtain ⟨a, vs, rfl, q, t⟩ := rel_seq rx e1
      exact .inl ⟨a, vs, rfl, q, by rw [← relDs_len t]; exact k R H _ _ p (Ex.refl _ _) e mw_int⟩
  | int =>
    have p : wIntc x Pw := p
    unfold wIntc at p
    split at p
    · cases rw_int rx; exact .inl (.inl ⟨_, rfl, k R H _ _ p (Ex.refl _ _) e mw_int⟩)
    · cases rw_bl rx; exact .inl (.inr ⟨_, rfl, k R H _ _ p (Ex.refl _ _) e mw_int⟩)
    · cases rw_str rx
      obtain ⟨n, e1, l, p⟩ := p
      exact .inr ⟨_, n, rfl, e1, l, k R H _ _ p (Ex.refl _ _) e mw_int⟩
    · exact p.elim
  | repr =>
    obtain ⟨d, e1, hs, hd, hl, p⟩ := p
    exact ⟨d, dpW_of rx e1, hs, noDictW e1, hd, hl, k R H _ _ p (Ex.refl _ _) e mw_str⟩
  | sum =>
    obtain ⟨ns, e1, p⟩ := p
    obtain ⟨a, vs, rfl, q, t⟩ := rel_lst rx e1
    cases relDs_ints t
    exact ⟨a, ns, rfl, q, k R H _ _ p (Ex.refl _ _) e mw_int⟩
  | all =>
    obtain ⟨ns, e1, p⟩ := p
    obtain ⟨a, vs, rfl, q, t⟩ := rel_lst rx e1
    cases relDs_bls t
    exact ⟨a, ns, rfl, q, k R H _ _ p (Ex.refl _ _) e mw_bl⟩
  | any =>
    obtain ⟨ns, e1, p⟩ := p
    obtain ⟨a, vs, rfl, q, t⟩ := rel_lst rx e1
    cases relDs_bls t
    exact ⟨a, ns, rfl, q, k R H _ _ p (Ex.refl _ _) e mw_bl⟩
  | tuple =>
    obtain ⟨xs, e1, p⟩ := p
    obtain ⟨a, vs, rfl, q, t⟩ := rel_seqT rx e1
    rcases q with q | q
    · exact ⟨a, vs, rfl, .inl ⟨q, fun l nl => k R _ _ _ p (Ex.fresh nl) (e.fresh nl) (mw_tup upd_same (relDs_ex e.ok (Ex.fresh nl) t))⟩⟩
    · exact ⟨a, vs, rfl, .inr ⟨q.sq, k R H _ _ p (Ex.refl _ _) e (mw_tup q t)⟩⟩
  | list =>
    obtain ⟨xs, e1, p⟩ := p
    obtain ⟨a, vs, rfl, q, t⟩ := rel_seq rx e1
    exact ⟨a, vs, rfl, q, fun l nl => k R _ _ _ p (Ex.fresh nl) (e.fresh nl) (m_new e ex nl t)⟩
  | str =>
    have p : wStrc x Pw := p
    unfold wStrc at p
    split at p
    · cases rw_int rx; exact .inl ⟨_, rfl, p.1, k R H _ _ p.2 (Ex.refl _ _) e mw_str⟩
    · cases rw_str rx; exact .inr ⟨_, rfl, k R H _ _ p (Ex.refl _ _) e mw_str⟩
    · exact p.elim
  | bool =>
    have p : wBoolc x Pw := p
    unfold wBoolc at p
    split at p
    · cases rw_int rx; exact .inl ⟨_, rfl, k R H _ _ p (Ex.refl _ _) e mw_bl⟩
    · cases rw_bl rx; exact .inr ⟨_, rfl, k R H _ _ p (Ex.refl _ _) e mw_bl⟩
    · exact p.elim
  | abs =>
    have p : wAbs x Pw := p
    unfold wAbs at p
    split at p
    · cases rw_int rx; exact ⟨_, rfl, k R H _ _ p (Ex.refl _ _) e mw_int⟩
    · exact p.elim
theorem de_b1 {a : Expr} {ta : TDE} {p pos : Pos} {b : B1} (hK : C.K = X.K) (ok : B1Ok X b) (ha : PE X a (lift C Wx ta)) (he : starEach [a] X.env = (false, eval a X.env) :: starEach [] X.env) :
    PE X (.Call (.Name b.name p) [a] [] pos) (lift C Wx (dOp1 (wB1 b) ta)) :=
  (pe_b1 b ok ha he).imD fun σ H Q q => by
    obtain ⟨R, ds, h, P, Z, e, p, k, z⟩ := q
    refine ⟨R, ds, h, _, Z, e, p, fun R1 H1 h1 w1 v1 p1 x1 e1 r1 => ?_, z⟩
    exact ⟨v1, rfl, hK ▸ s_b1 e1 x1 r1 p1 fun R' H' w z a b c d => k R' H' h1 w z a (x1.trans b) c d⟩
def tyD : D → Option String
  | .non => some "NoneType"
  | .bl _ => some "bool"
  | .int _ => some "int"
  | .str _ => some "str"
  | .tup _ => some "tuple"
  | .lst _ => some "list"
  | .fro _ => some "list"
  | .wtp _ => some "tuple"
  | _ => none
def tyW : W → Option String
  | .d x => tyD x
  | .new _ => some "list"
  | .own _ => some "list"
  | .fn _ => none
def wIsi (T : String) (x : W) (Q : W → Prop) : Prop := ∃ t b, tyW x = some t ∧ kitB t T = some b ∧ Q (.d (.bl b))
theorem ty_of {R : Rg} {H H1 : Hp} {w : W} {v : V} {t : String} (r : RelW C.K H1 R H w v) (e : tyW w = some t) : TyX C.K H v (.type t) := by
  cases w with
  | d x =>
    cases x with
    | non => cases rw_non r; cases e; exact .base .non
    | bl _ => cases rw_bl r; cases e; exact .base (.bl _)
    | int _ => cases rw_int r; cases e; exact .base (.int _)
    | str _ => cases rw_str r; cases e; exact .base (.str _)
    | ty _ => cases e
    | ref _ => cases e
    | tup _ =>
      obtain ⟨a, vs, rfl, q, _⟩ := rw_tup r; cases e
      exact .base (.tup q)
    | wtp _ =>
      have r2 : RelD C.K R H (.wtp _) v := r; obtain ⟨a, vs, rfl, q, _⟩ := r_wtp r2; cases e
      rcases q H with (q | ⟨o, q⟩) | ⟨o, its, n, q, c, _⟩
      · exact .base (.tup q)
      · exact .fTuple q
      · exact .kTuple q c
    | lst _ => have r2 : RelD C.K R H (.lst _) v := r; obtain ⟨a, vs, rfl, q, _⟩ := r_lst r2; cases e; exact .base (.lst q.2)
    | fro _ =>
      have r2 : RelD C.K R H (.fro _) v := r
      obtain ⟨a, vs, rfl, q, _⟩ := r_fro r2; cases e
      rcases q with ⟨o, q⟩ | ⟨o, its, n, q, c, _⟩
      · exact .base (.frz q)
      · exact .kList q c
  | new _ => obtain ⟨a, vs, rfl, _, q, _⟩ := r; cases e; exact .base (.lst q)
  | fn _ => cases e
  | own _ => obtain ⟨a, vs, rfl, q, _⟩ := r; cases e; exact .base (.lst q)
theorem de_isi {a : Expr} {ta : TDE} {p p2 pos : Pos} {T : Str} {T' : String} (hK : C.K = X.K) (hg : Gl X "isinstance") (hm : X.mg "isinstance" = none) (gT : Gl X T) (mT : X.mg T = none) (hT : bootBuiltins T = some (.type T')) (hn : T ≠ "__name__") (hd : (T == ("__debug__" : Str)) = false)
    (ha : PE X a (lift C Wx ta)) (he : starEach [a, .Name T p2] X.env = (false, eval a X.env) :: starEach [.Name T p2] X.env) :
    PE X (.Call (.Name "isinstance" p) [a, .Name T p2] [] pos) (lift C Wx (dOp1 (wIsi T') ta)) :=
  (pe_callB call_isi hg hm (by decide +kernel) (pa_cons ha (pa_cons (pe_bltn (v := .ty T') gT mT hT rfl hn hd) pa_nil (by rfl)) he) (he := he) (hpl := by rfl)).imD fun σ H Q q => by
    obtain ⟨R, ds, h, P, Z, e, p, k, z⟩ := q
    refine ⟨R, ds, h, _, Z, e, p, fun R1 H1 h1 w1 v1 ⟨t, b, e1, kb, p1⟩ x1 e1' r1 => ?_, z⟩
    exact ⟨v1, .ty T', .type t, .type T', b, rfl, .ty T', hK ▸ ty_of r1 e1, kit_ty kb, k R1 H1 h1 _ _ p1 x1 e1' mw_bl⟩
def wIx (x y : W) (Q : W → Prop) : Prop := match y with
  | .d (.int i) => (match x with
    | .d (.str z) => z.length ≤ sizeLine ∧ ∃ c, atI z.cps.toList i = some c ∧ Q (.d (.str ⟨#[c]⟩))
    | x => ∃ xs d, seqW x = some xs ∧ atI xs i = some d ∧ Q (.d d))
  | _ => False
theorem relDs_atI {R : Rg} {H : Hp} {xs : List D} {vs : List V} {i : Int} {d : D} (r : RelDs C.K R H xs vs) (e : atI xs i = some d) : ∃ v, atI vs i = some v ∧ RelD C.K R H d v := by
  unfold atI at e ⊢
  rw [← relDs_len r]
  cases q : ixN xs.length i with
  | none => rw [q] at e; cases e
  | some j =>
    rw [q] at e
    exact relDs_get r e
theorem s_ix {R : Rg} {ds : DSt} {σ : Sl} {H : Hp} {h : Hs} {H0 : Hp} {x y : W} {v u : V} {Pw : W → Prop} {Q : VK} (e : Env C R ds σ H h)
    (rx : RelW C.K H0 R H x v) (ry : RelW C.K H0 R H y u) (p : wIx x y Pw) (k : Kont C ds σ h R H H0 Pw Q) : rIx C.K v u H Q := by
  unfold wIx at p
  split at p
  · cases rw_int ry
    split at p
    · cases rw_str rx
      obtain ⟨l, c, e1, p⟩ := p
      exact .inr (.inr ⟨_, _, c, rfl, rfl, l, e1, k R H _ _ p (Ex.refl _ _) e mw_str⟩)
    · obtain ⟨xs, d, e1, e2, p⟩ := p
      obtain ⟨a, vs, rfl, q, t⟩ := rel_seq rx e1
      obtain ⟨v, e3, rv⟩ := relDs_atI t e2
      rcases q with q | q
      · exact .inl ⟨a, vs, _, v, rfl, rfl, q, e3, k R H _ _ p (Ex.refl _ _) e rv⟩
      · exact .inr (.inl ⟨a, vs, _, v, rfl, rfl, q, e3, k R H _ _ p (Ex.refl _ _) e rv⟩)
  · exact p.elim
theorem de_ix {a b : Expr} {ta tb : TDE} {pos : Pos} (hK : C.K = X.K) (hs : PlainIx b) (ha : PE X a (lift C Wx ta)) (hb : PE X b (lift C Wx tb)) : PE X (.Subscript a b pos) (lift C Wx (dOp2 wIx ta tb)) :=
  (pe_ix ix_seq ha hb hs).imD fun σ H Q q => op2 (fun R ds σ H h R0 H0 x y v u Pw Q e ex _ rx ry p k => hK ▸ s_ix e rx ry p k) q
abbrev TDO := DSt → Hs → (Option Int → Hs → Prop) → XD → Prop
def dNo : TDO := fun _ h P _ => P none h
def dPart (t : TDE) : TDO := fun ds h P Z => t ds h (fun x h1 => ∃ i, x = .d (.int i) ∧ P (some i) h1) Z
def liftO (C : Cn) (Wx : WX) (t : TDO) : Sl → Hp → (Option Int → Hp → Prop) → Prop := fun σ H Q => ∃ R ds h P Z, Env C R ds σ H h ∧ t ds h P Z ∧
  (∀ R' H' h' w, P w h' → Ex R H R' H' → Env C R' ds σ H' h' → Q w H') ∧
  (∀ R' H' h' x cls dd, Z x h' → Ex R H R' H' → Env C R' ds σ H' h' → RelX C R' H' x cls dd → Wx cls dd σ H')
def cutD {α : Type} (xs : List α) (lo hi : Option Int) : List α := (xs.drop (HT.sIx xs.length 0 lo)).take (HT.sIx xs.length xs.length hi - HT.sIx xs.length 0 lo)
def wSl (x : W) (lo hi : Option Int) (Q : W → Prop) : Prop := match x with
  | .d (.str z) => z.length ≤ sizeLine ∧ Q (.d (.str (cutS z lo hi)))
  | .d (.tup xs) => Q (.d (.tup (cutD xs lo hi)))
  | x => ∃ xs, lstW x = some xs ∧ Q (.new (cutD xs lo hi))
def dSl (ta : TDE) (tl th : TDO) : TDE := fun ds h P Z => ta ds h (fun x h1 => tl ds h1 (fun lo h2 => th ds h2 (fun hi h3 => wSl x lo hi fun z => P z h3) Z) Z) Z
theorem relDs_cut {R : Rg} {H : Hp} {xs : List D} {vs : List V} {lo hi : Option Int} (r : RelDs C.K R H xs vs) : RelDs C.K R H (cutD xs lo hi) (cutV vs lo hi) := by
  unfold cutD cutV
  rw [relDs_len r]
  exact relDs_take _ (relDs_drop _ r)
theorem cut_all {α : Type} {xs : List α} {lo hi : Option Int} (h1 : HT.sIx xs.length 0 lo = 0) (h2 : HT.sIx xs.length xs.length hi = xs.length) : cutD xs lo hi = xs := by
  unfold cutD
  rw [h1, h2]
  simp
theorem sl_any : SlR X (fun x lo hi H Q => (rSlL X.K x lo hi H Q ∨ rSlA X.K x lo hi H Q) ∨ rSlS x lo hi H Q) := SlR.or (SlR.or sl_list sl_tupA) sl_str
theorem s_sl {R : Rg} {ds : DSt} {σ : Sl} {H : Hp} {h : Hs} {R0 : Rg} {H0 : Hp} {x : W} {lo hi : Option Int} {v : V} {Pw : W → Prop} {Q : VK} (e : Env C R ds σ H h) (ex : Ex R0 H0 R H)
    (rx : RelW C.K H0 R H x v) (p : wSl x lo hi Pw) (k : Kont C ds σ h R H H0 Pw Q) : (rSlL C.K v lo hi H Q ∨ rSlA C.K v lo hi H Q) ∨ rSlS v lo hi H Q := by
  unfold wSl at p
  split at p
  · cases rw_str rx
    exact .inr ⟨_, rfl, p.1, k R H _ _ p.2 (Ex.refl _ _) e mw_str⟩
  · obtain ⟨a, vs, rfl, q, t⟩ := rw_tup rx
    refine .inl (.inr ⟨a, vs, rfl, q.sq, fun ⟨h1, h2⟩ => ?_, fun _ l nl => ?_⟩)
    · rw [← relDs_len t] at h1 h2
      rw [cut_all h1 h2] at p
      exact k R H _ _ p (Ex.refl _ _) e (mw_tup q t)
    · exact k R _ _ _ p (Ex.fresh nl) (e.fresh nl) (mw_tup upd_same (relDs_ex e.ok (Ex.fresh nl) (relDs_cut t)))
  · obtain ⟨xs, e1, p⟩ := p
    obtain ⟨a, vs, rfl, q, t⟩ := rel_lst rx e1
    exact .inl (.inl ⟨a, vs, rfl, q, fun l nl => k R _ _ _ p (Ex.fresh nl) (e.fresh nl) (m_new e ex nl (relDs_cut t))⟩)
theorem do_no : PO X none (liftO C Wx dNo) := by
  refine ⟨fun pins s σ H Q I q => po_none.run pins s σ H Q I ?_⟩
  obtain ⟨R, ds, h, P, Z, e, p, k, z⟩ := q
  exact k R H h none p (Ex.refl _ _) e
theorem do_some {a : Expr} {ta : TDE} (ha : PE X a (lift C Wx ta)) : PO X (some a) (liftO C Wx (dPart ta)) := by
  refine ⟨fun pins s σ H Q I q => (po_some ha).run pins s σ H Q I ?_⟩
  obtain ⟨R, ds, h, P, Z, e, p, k, z⟩ := q
  refine ⟨R, ds, h, _, Z, e, p, fun R1 H1 h1 w1 v1 ⟨i, hx, p1⟩ x1 e1 r1 => ?_, z⟩
  subst hx
  exact ⟨i, rw_int r1, k R1 H1 h1 _ p1 x1 e1⟩
theorem de_sl {a : Expr} {lo hi : Option Expr} {ta : TDE} {tl th : TDO} {pos p2 : Pos} (hK : C.K = X.K) (ha : PE X a (lift C Wx ta)) (hl : PO X lo (liftO C Wx tl)) (hh : PO X hi (liftO C Wx th)) :
    PE X (.Subscript a (.Slice lo hi none p2) pos) (lift C Wx (dSl ta tl th)) :=
  (pe_slice sl_any ha hl hh).imD fun σ H Q q => by
    obtain ⟨R, ds, h, P, Z, e, p, k, z⟩ := q
    refine ⟨R, ds, h, _, Z, e, p, fun R1 H1 h1 w1 v1 p1 x1 e1 r1 => ?_, z⟩
    refine ⟨R1, ds, h1, _, Z, e1, p1, fun R2 H2 h2 lo p2 x2 e2 => ?_, fun R' H' h' x cls dd a b c d => z R' H' h' x cls dd a (x1.trans b) c d⟩
    refine ⟨R2, ds, h2, _, Z, e2, p2, fun R3 H3 h3 hi p3 x3 e3 => ?_, fun R' H' h' x cls dd a b c d => z R' H' h' x cls dd a ((x1.trans x2).trans b) c d⟩
    have x13 := (x1.trans x2).trans x3
    exact hK ▸ s_sl e3 x13 (relW_ex e1.ok (x2.trans x3) r1) p3 fun R' H' w z a b c d => k R' H' h3 w z a (x13.trans b) c d
end
end DL
set_option maxHeartbeats 4000000
namespace DL
open PySem PySem.Spec PyProof.Rows L2
/-- what is wanted behind a statement -/
structure DEnds where
  nx : DSt → Hs → Prop
  rt : D → Hs → Prop
  ex : Xn → DSt → Hs → Prop
  bk : DSt → Hs → Prop := fun _ _ => False
  ct : DSt → Hs → Prop := fun _ _ => False
abbrev TDS := DSt → Hs → DEnds → Prop
structure EndsOk (C : Cn) (Wx : WX) (R : Rg) (H : Hp) (P : DEnds) (D : Ends) : Prop where
  nx : ∀ R' ds σ H' h, Env C R' ds σ H' h → Mo C.K R H R' H' → P.nx ds h → D.nx σ H'
  bk : ∀ R' ds σ H' h, Env C R' ds σ H' h → Mo C.K R H R' H' → P.bk ds h → D.bk σ H'
  ct : ∀ R' ds σ H' h, Env C R' ds σ H' h → Mo C.K R H R' H' → P.ct ds h → D.ct σ H'
  rt : ∀ R' H' h d v, HOk' C.K C.Cl R' H' h → Ex C.R₀ C.H₀ R' H' → RelD C.K R' H' d v → P.rt d h → D.rt v H'
  ex : ∀ R' ds σ H' h x cls dd, Env C R' ds σ H' h → Mo C.K R H R' H' → RelX C R' H' x cls dd → P.ex x ds h → Wx cls dd σ H'
def liftS (C : Cn) (Wx : WX) (t : TDS) : TS := fun D σ H => ∃ R ds h P, Env C R ds σ H h ∧ t ds h P ∧ EndsOk C Wx R H P D
section
variable {X : Cx} {C : Cn} {Wx : WX}
theorem Mo.refl (K : Fg) (R : Rg) (H : Hp) : Mo K R H R H := ⟨Nat.le_refl _, fun _ _ => rfl, fun _ _ r => r, fun _ _ r => r, fun _ _ r => r, fun _ _ _ r => r⟩
theorem Mo.trans {K : Fg} {R R' R'' : Rg} {H H' H'' : Hp} (a : Mo K R H R' H') (b : Mo K R' H' R'' H'') : Mo K R H R'' H'' :=
  ⟨Nat.le_trans a.le b.le, fun i hi => (b.at_ i (Nat.lt_of_lt_of_le hi a.le)).trans (a.at_ i hi), fun _ _ r => b.tup _ _ (a.tup _ _ r), fun _ _ r => b.lst _ _ (a.lst _ _ r), fun _ _ r => b.fro _ _ (a.fro _ _ r), fun _ _ _ r => b.lk _ _ _ (a.lk _ _ _ r)⟩
theorem EndsOk.later {R R' : Rg} {H H' : Hp} {P : DEnds} {D : Ends} (k : EndsOk C Wx R H P D) (m : Mo C.K R H R' H') : EndsOk C Wx R' H' P D :=
  ⟨fun R2 ds σ H2 h e m2 p => k.nx R2 ds σ H2 h e (m.trans m2) p, fun R2 ds σ H2 h e m2 p => k.bk R2 ds σ H2 h e (m.trans m2) p, fun R2 ds σ H2 h e m2 p => k.ct R2 ds σ H2 h e (m.trans m2) p, k.rt,
    fun R2 ds σ H2 h x cls dd e m2 r p => k.ex R2 ds σ H2 h x cls dd e (m.trans m2) r p⟩
/-- an exception of an expression -/
theorem EndsOk.exE {R : Rg} {H : Hp} {P : DEnds} {D : Ends} {ds : DSt} {σ : Sl} {h : Hs} (k : EndsOk C Wx R H P D) (e : Env C R ds σ H h) :
    ∀ R' H' h' x cls dd, P.ex x ds h' → Ex R H R' H' → Env C R' ds σ H' h' → RelX C R' H' x cls dd → Wx cls dd σ H' :=
  fun R' H' h' x cls dd p a b c => k.ex R' ds σ H' h' x cls dd b (a.mo e.ok) c p
theorem Env.set {R : Rg} {ds : DSt} {σ : Sl} {H : Hp} {h : Hs} {d : D} {v : V} (e : Env C R ds σ H h) (i : Nat) (r : RelD C.K R H d v) : Env C R (ds.set i (some (.d d))) (σ.set i (some v)) H h := by
  have hs : ∀ (j : Nat) w, (ds.set i (some (W.d d)))[j]? = some (some w) → (j = i ∧ w = .d d ∧ i < ds.length) ∨ (j ≠ i ∧ ds[j]? = some (some w)) := fun j w q => by
    by_cases hj : j = i
    · subst hj
      by_cases hl : j < ds.length
      · rw [List.getElem?_set_self hl] at q; cases q; exact .inl ⟨rfl, rfl, hl⟩
      · rw [List.set_eq_of_length_le (by omega)] at q
        rw [List.getElem?_eq_none (by omega)] at q; cases q
    · rw [List.getElem?_set_ne (Ne.symm hj)] at q; exact .inr ⟨hj, q⟩
  refine ⟨e.ok, e.ex, by simp [e.len], fun j w q => ?_, fun j xs q => ?_, fun j k xs ys a q1 s1 q2 s2 => ?_, fun j xs a q s => ?_⟩
  · rcases hs j w q with ⟨rfl, rfl, hl⟩ | ⟨hj, q⟩
    · exact ⟨v, by rw [List.getElem?_set_self (by rw [← e.len]; exact hl)], r⟩
    · rw [List.getElem?_set_ne (Ne.symm hj)]; exact e.slot j w q
  · rcases hs j _ q with ⟨_, z, _⟩ | ⟨_, q⟩
    · cases z
    · exact e.nnew j xs q
  · rcases hs j _ q1 with ⟨_, z, _⟩ | ⟨hj, q1⟩
    · cases z
    rcases hs k _ q2 with ⟨_, z, _⟩ | ⟨hk, q2⟩
    · cases z
    rw [List.getElem?_set_ne (Ne.symm hj)] at s1
    rw [List.getElem?_set_ne (Ne.symm hk)] at s2
    exact e.own j k xs ys a q1 s1 q2 s2
  · rcases hs j _ q with ⟨_, z, _⟩ | ⟨hj, q⟩
    · cases z
    rw [List.getElem?_set_ne (Ne.symm hj)] at s
    exact e.own0 j xs a q s
/-- a slot takes a new list as its own -/
theorem Env.setO {R : Rg} {ds : DSt} {σ : Sl} {H : Hp} {h : Hs} {xs : List D} {vs : List V} {a : Addr} (e : Env C R ds σ H h) (i : Nat) (q : H a = some (.lst vs)) (nf : ¬ R.fz a) (o : Out R a) (r : RelDs C.K R H xs vs)
    (h0 : C.H₀ a = none) (hn : ∀ (j : Nat) ys, ds[j]? = some (some (.own ys)) → σ[j]? ≠ some (some (.ref a))) : Env C R (ds.set i (some (.own xs))) (σ.set i (some (.ref a))) H h := by
  have hs : ∀ (j : Nat) w, (ds.set i (some (W.own xs)))[j]? = some (some w) → (j = i ∧ w = .own xs ∧ i < ds.length) ∨ (j ≠ i ∧ ds[j]? = some (some w)) := fun j w q => by
    by_cases hj : j = i
    · subst hj
      by_cases hl : j < ds.length
      · rw [List.getElem?_set_self hl] at q; cases q; exact .inl ⟨rfl, rfl, hl⟩
      · rw [List.set_eq_of_length_le (by omega)] at q
        rw [List.getElem?_eq_none (by omega)] at q; cases q
    · rw [List.getElem?_set_ne (Ne.symm hj)] at q; exact .inr ⟨hj, q⟩
  refine ⟨e.ok, e.ex, by simp [e.len], fun j w q1 => ?_, fun j ys q1 => ?_, fun j k ys zs b q1 s1 q2 s2 => ?_, fun j ys b q1 s => ?_⟩
  · rcases hs j w q1 with ⟨rfl, rfl, hl⟩ | ⟨hj, q1⟩
    · exact ⟨.ref a, by rw [List.getElem?_set_self (by rw [← e.len]; exact hl)], a, vs, rfl, q, nf, o, r⟩
    · rw [List.getElem?_set_ne (Ne.symm hj)]; exact e.slot j w q1
  · rcases hs j _ q1 with ⟨_, z, _⟩ | ⟨_, q1⟩
    · cases z
    · exact e.nnew j ys q1
  · rcases hs j _ q1 with ⟨rfl, z, hl⟩ | ⟨hj, q1⟩
    · rw [List.getElem?_set_self (by rw [← e.len]; exact hl)] at s1
      cases s1
      rcases hs k _ q2 with ⟨rfl, _⟩ | ⟨hk, q2⟩
      · rfl
      · rw [List.getElem?_set_ne (Ne.symm hk)] at s2
        exact absurd s2 (hn k zs q2)
    · rw [List.getElem?_set_ne (Ne.symm hj)] at s1
      have q1b := q1
      rcases hs k _ q2 with ⟨ek, _, hl⟩ | ⟨hk, q2⟩
      · rw [ek, List.getElem?_set_self (by rw [← e.len]; exact hl)] at s2
        cases s2
        exact absurd s1 (hn j ys q1b)
      · rw [List.getElem?_set_ne (Ne.symm hk)] at s2
        exact e.own j k ys zs b q1 s1 q2 s2
  · rcases hs j _ q1 with ⟨rfl, _, hl⟩ | ⟨hj, q1⟩
    · rw [List.getElem?_set_self (by rw [← e.len]; exact hl)] at s
      cases s
      exact h0
    · rw [List.getElem?_set_ne (Ne.symm hj)] at s
      exact e.own0 j ys b q1 s
/-- a list that no tree leans on is written -/
theorem Mo.wr {R : Rg} {H : Hp} {a : Addr} {vs : List V} {o : HO} (q : H a = some (.lst vs)) (nf : ¬ R.fz a) : Mo C.K R H R (upd H a o) := by
  have ne : ∀ b u, H b = some u → u ≠ .lst vs → b ≠ a := fun b u e n z => by subst z; rw [q] at e; cases e; exact n rfl
  refine ⟨Nat.le_refl _, fun _ _ => rfl, fun b us r => ?_, fun b us r => ?_, fun b us r => ?_, fun b o' u' r => by rw [upd_ne (ne b _ r HO.noConfusion)]; exact r⟩
  · show upd H a o b = _
    rw [upd_ne (ne b _ r HO.noConfusion)]; exact r
  · exact ⟨r.1, by rw [upd_ne (show b ≠ a from fun z => nf (by rw [← z]; exact r.1))]; exact r.2⟩
  · rcases r with ⟨o', r⟩ | r
    · exact .inl ⟨o', by rw [upd_ne (ne b _ r HO.noConfusion)]; exact r⟩
    · exact .inr r
/-- an own list is written -/
theorem Env.wr {R : Rg} {ds : DSt} {σ : Sl} {H : Hp} {h : Hs} {xs ys : List D} {us : List V} {a : Addr} {i : Nat} (e : Env C R ds σ H h) (hi : ds[i]? = some (some (.own xs))) (hs : σ[i]? = some (some (.ref a))) (r : RelDs C.K R H ys us) :
    Env C R (ds.set i (some (.own ys))) σ (upd H a (.lst us)) h ∧ Mo C.K R H R (upd H a (.lst us)) := by
  obtain ⟨v, e1, a', vs, ev, q, nf, o, t⟩ := e.slot i _ hi
  rw [hs] at e1
  cases e1
  cases ev
  have m : Mo C.K R H R (upd H a (.lst us)) := Mo.wr q nf
  have h0 := e.own0 i xs a hi hs
  have hl : i < ds.length := (List.getElem?_eq_some_iff.mp hi).1
  refine ⟨⟨⟨e.ok.len, fun j o' hj => ?_, e.ok.inj, e.ok.nfz, fun b z => ?_, tabs_wr q (fun _ => HO.noConfusion) (fun _ => HO.noConfusion) e.ok.tab⟩, ⟨e.ex.le, e.ex.at_, e.ex.fz, e.ex.nat, e.ex.nfz, fun b u q1 o1 n1 => ?_, fun b q1 => ?_, fun b o' u' q1 => by rw [upd_ne (fun y => by subst y; rw [h0] at q1; cases q1)]; exact e.ex.lk b o' u' q1⟩, by simp [e.len], fun j w q1 => ?_, fun j zs q1 => ?_, fun j k zs ws b q1 s1 q2 s2 => ?_, fun j zs b q1 s1 => ?_⟩, m⟩
  · obtain ⟨u, e2, r2⟩ := e.ok.obj j o' hj
    have hjn : j < R.n := by rw [← e.ok.len]; exact (List.getElem?_eq_some_iff.mp hj).1
    exact ⟨u, by rw [upd_ne (o j hjn)]; exact e2, relO_mo m r2⟩
  · obtain ⟨ws, e2⟩ := e.ok.fzd b z
    exact ⟨ws, by rw [upd_ne (show b ≠ a from fun y => nf (by rw [← y]; exact z))]; exact e2⟩
  · rw [upd_ne (fun y => by subst y; rw [h0] at q1; cases q1)]
    exact e.ex.frm b u q1 o1 n1
  · by_cases y : b = a
    · subst y; exact h0
    · rw [upd_ne y] at q1; exact e.ex.dom b q1
  · by_cases hj : j = i
    · subst hj
      rw [List.getElem?_set_self hl] at q1
      cases q1
      exact ⟨.ref a, hs, a, us, rfl, upd_same, nf, o, relDs_mo m r⟩
    · rw [List.getElem?_set_ne (Ne.symm hj)] at q1
      obtain ⟨v2, s2, r2⟩ := e.slot j w q1
      refine ⟨v2, s2, ?_⟩
      cases w with
      | d y => exact relD_mo m r2
      | new zs => exact absurd q1 (e.nnew j zs)
      | fn _ => exact r2
      | own zs =>
        obtain ⟨b, ws, ev2, q2, nf2, o2, t2⟩ := r2
        subst ev2
        have nab : b ≠ a := fun y => by
          subst y
          exact hj (e.own j i zs xs b q1 s2 hi hs)
        exact ⟨b, ws, rfl, by rw [upd_ne nab]; exact q2, nf2, o2, relDs_mo m t2⟩
  · by_cases hj : j = i
    · subst hj
      rw [List.getElem?_set_self hl] at q1
      cases q1
    · rw [List.getElem?_set_ne (Ne.symm hj)] at q1; exact e.nnew j zs q1
  · have f : ∀ (j : Nat) zs, (ds.set i (some (W.own ys)))[j]? = some (some (W.own zs)) → ∃ zs', ds[j]? = some (some (.own zs')) := fun j zs q => by
      by_cases hj : j = i
      · subst hj; exact ⟨xs, hi⟩
      · rw [List.getElem?_set_ne (Ne.symm hj)] at q; exact ⟨zs, q⟩
    obtain ⟨_, g1⟩ := f j zs q1
    obtain ⟨_, g2⟩ := f k ws q2
    exact e.own j k _ _ b g1 s1 g2 s2
  · by_cases hj : j = i
    · subst hj; exact e.own0 j xs b hi s1
    · rw [List.getElem?_set_ne (Ne.symm hj)] at q1; exact e.own0 j zs b q1 s1
/-- what may be shared and written -/
def Shr : HO → Prop
  | .lst _ => True
  | .dK _ => True
  | .dT _ => True
  | .ins _ _ _ => True
  | .frz _ _ => True
  | _ => False
theorem shr_of {K : Fg} {Cl : Cm} {R : Rg} {H : Hp} {o : O} {u : HO} (r : RelO K Cl R H o u) : Shr u := by
  cases o with
  | lst xs => obtain ⟨vs, rfl, _⟩ := r; trivial
  | dic xs => obtain ⟨vs, rfl, _⟩ := r; trivial
  | dit xs => obtain ⟨vs, rfl, _⟩ := r; trivial
  | ins c xs => obtain ⟨d, vs, rfl, _⟩ := r; trivial
  | fit xs => obtain ⟨d, vs, rfl, _⟩ := r; trivial
  | fic xs => obtain ⟨d, vs, rfl, _⟩ := r; trivial
/-- no locked dict -/
def O.mut : O → Bool
  | .fit _ => false
  | .fic _ => false
  | _ => true
theorem mut_of {K : Fg} {Cl : Cm} {R : Rg} {H : Hp} {o : O} {u : HO} (r : RelO K Cl R H o u) (m : o.mut = true) : ∀ o' v, u ≠ .frz o' v := fun o' v z => by
  subst z
  cases o with
  | lst xs => obtain ⟨vs, e, _⟩ := r; cases e
  | dic xs => obtain ⟨vs, e, _⟩ := r; cases e
  | dit xs => obtain ⟨vs, e, _⟩ := r; cases e
  | ins c xs => obtain ⟨d, vs, e, _⟩ := r; cases e
  | fit xs => cases m
  | fic xs => cases m
/-- a shared object is written -/
theorem Env.hw {R : Rg} {ds : DSt} {σ : Sl} {H : Hp} {h : Hs} {n : Nat} {o o2 : O} {u2 : HO} (e : Env C R ds σ H h) (hn : h[n]? = some o) (r2 : RelO C.K C.Cl R H o2 u2) (hm : o.mut = true := by rfl) :
    Env C R ds σ (upd H (R.at_ n) u2) (h.set n o2) ∧ Mo C.K R H R (upd H (R.at_ n) u2) := by
  obtain ⟨u, hu, r⟩ := e.ok.obj n o hn
  have hnl : n < R.n := by rw [← e.ok.len]; exact (List.getElem?_eq_some_iff.mp hn).1
  have su := shr_of r
  have ne : ∀ b v, H b = some v → ¬ Shr v → b ≠ R.at_ n := fun b v q s z => by rw [z, hu] at q; cases q; exact s su
  have nfz : ∀ b, R.fz b → b ≠ R.at_ n := fun b z y => e.ok.nfz n hnl (by rw [← y]; exact z)
  have neF : ∀ b o' v, H b = some (.frz o' v) → b ≠ R.at_ n := fun b o' v q z => by rw [z, hu] at q; cases q; exact mut_of r hm _ _ rfl
  have m : Mo C.K R H R (upd H (R.at_ n) u2) := by
    refine ⟨Nat.le_refl _, fun _ _ => rfl, fun b us q => ?_, fun b us q => ⟨q.1, by rw [upd_ne (nfz b q.1)]; exact q.2⟩, fun b us q => ?_, fun b o' u' q => by rw [upd_ne (neF b _ _ q)]; exact q⟩
    · show upd H (R.at_ n) u2 b = _
      rw [upd_ne (ne b _ q fun z => z)]; exact q
    · rcases q with ⟨o', q⟩ | q
      · exact .inl ⟨o', by rw [upd_ne (neF b _ _ q)]; exact q⟩
      · exact .inr q
  refine ⟨⟨⟨by simp [e.ok.len], fun j o' hj => ?_, e.ok.inj, e.ok.nfz, fun b z => ?_, tabs_wr hu (fun ps z => by rw [z] at su; exact su) (fun ps z => by rw [z] at su; exact su) e.ok.tab⟩, ⟨e.ex.le, e.ex.at_, e.ex.fz, e.ex.nat, e.ex.nfz, fun b v q1 o1 n1 => ?_, fun b q1 => ?_, fun b o' u' q1 => by rw [upd_ne (neF b _ _ (e.ex.lk b o' u' q1))]; exact e.ex.lk b o' u' q1⟩, e.len, fun j w q1 => ?_, e.nnew, e.own, e.own0⟩, m⟩
  · by_cases hjn : j = n
    · subst hjn
      rw [List.getElem?_set_self (by rw [e.ok.len]; exact hnl)] at hj
      cases hj
      exact ⟨u2, upd_same, relO_mo m r2⟩
    · rw [List.getElem?_set_ne (Ne.symm hjn)] at hj
      obtain ⟨v, e2, r3⟩ := e.ok.obj j o' hj
      have hjl : j < R.n := by rw [← e.ok.len]; exact (List.getElem?_eq_some_iff.mp hj).1
      exact ⟨v, by rw [upd_ne (fun z => hjn (e.ok.inj j n hjl hnl z))]; exact e2, relO_mo m r3⟩
  · obtain ⟨ws, e2⟩ := e.ok.fzd b z
    exact ⟨ws, by rw [upd_ne (nfz b z)]; exact e2⟩
  · have ob := e.ex.out q1 o1
    rw [upd_ne (fun z => ob n hnl z.symm)]
    exact e.ex.frm b v q1 o1 n1
  · by_cases y : b = R.at_ n
    · rw [y, upd_same] at q1; cases q1
    · rw [upd_ne y] at q1; exact e.ex.dom b q1
  · obtain ⟨v2, s2, r3⟩ := e.slot j w q1
    refine ⟨v2, s2, ?_⟩
    cases w with
    | d y => exact relD_mo m r3
    | new zs => exact absurd q1 (e.nnew j zs)
    | fn _ => exact r3
    | own zs =>
      obtain ⟨b, ws, ev2, q2, nf2, o2, t2⟩ := r3
      exact ⟨b, ws, ev2, by rw [upd_ne (fun z => o2 n hnl z.symm)]; exact q2, nf2, o2, relDs_mo m t2⟩
/-- a new shared object -/
theorem Env.ha {R : Rg} {ds : DSt} {σ : Sl} {H : Hp} {h : Hs} {p : Addr} {o : O} {u : HO} (e : Env C R ds σ H h) (np : H p = none) (r : RelO C.K C.Cl R H o u) :
    ∃ R', Env C R' ds σ (upd H p u) (h ++ [o]) ∧ Ex R H R' (upd H p u) ∧ R'.at_ h.length = p ∧ R'.n = h.length + 1 := by
  let R' : Rg := ⟨R.n + 1, fun i => if i = R.n then p else R.at_ i, R.fz⟩
  have hlt : ∀ i, i < R.n → R'.at_ i = R.at_ i := fun i hi => if_neg (Nat.ne_of_lt hi)
  have hat : R'.at_ R.n = p := if_pos rfl
  have nf := e.ok.nfresh np
  have x : Ex R H R' (upd H p u) := by
    refine ⟨Nat.le_succ _, hlt, fun _ z => z, fun i a b => ?_, fun _ z => .inl z, fun b v q _ _ => by rw [upd_ne (ne_of_none q np)]; exact q, fun b q => ?_, fun b o' u' q => by rw [upd_ne (ne_of_none q np)]; exact q⟩
    · have : i = R.n := by have b' : i < R.n + 1 := b; omega
      subst this
      rw [hat]; exact np
    · by_cases y : b = p
      · subst y; exact np
      · rw [upd_ne y] at q; exact q
  have m := x.mo e.ok
  have ok : HOk' C.K C.Cl R' (upd H p u) (h ++ [o]) := by
    refine ⟨by show (h ++ [o]).length = R.n + 1; simp [e.ok.len], fun j o' hj => ?_, fun i j hi hj q => ?_, fun i hi z => ?_, fun b z => ?_, tabs_new np e.ok.tab⟩
    · by_cases hl : j < h.length
      · rw [List.getElem?_append_left hl] at hj
        obtain ⟨v, e2, r3⟩ := e.ok.obj j o' hj
        have hjl : j < R.n := by rw [← e.ok.len]; exact hl
        exact ⟨v, by rw [hlt j hjl, upd_ne (ne_of_none e2 np)]; exact e2, relO_mo m r3⟩
      · have hb : j < (h ++ [o]).length := (List.getElem?_eq_some_iff.mp hj).1
        have ej : j = h.length := by simp at hb; omega
        subst ej
        simp at hj
        subst hj
        exact ⟨u, by rw [e.ok.len, hat]; exact upd_same, relO_mo m r⟩
    · have hi' : i < R.n + 1 := hi
      have hj' : j < R.n + 1 := hj
      by_cases a : i = R.n
      · by_cases b : j = R.n
        · omega
        · exfalso
          rw [a, hat, hlt j (by omega)] at q
          exact nf.2 j (by omega) q.symm
      · by_cases b : j = R.n
        · exfalso
          rw [b, hat, hlt i (by omega)] at q
          exact nf.2 i (by omega) q
        · rw [hlt i (by omega), hlt j (by omega)] at q
          exact e.ok.inj i j (by omega) (by omega) q
    · have hi' : i < R.n + 1 := hi
      by_cases a : i = R.n
      · rw [a, hat] at z; exact nf.1 z
      · rw [hlt i (by omega)] at z; exact e.ok.nfz i (by omega) z
    · obtain ⟨ws, e2⟩ := e.ok.fzd b z
      exact ⟨ws, by rw [upd_ne (ne_of_none e2 np)]; exact e2⟩
  exact ⟨R', e.step x ok, x, by rw [e.ok.len]; exact hat, by rw [e.ok.len]⟩
/-- an own list becomes one that never changes -/
theorem Env.frz {R : Rg} {ds : DSt} {σ : Sl} {H : Hp} {h : Hs} {xs : List D} {i : Nat} (e : Env C R ds σ H h) (hi : ds[i]? = some (some (.own xs))) :
    ∃ R', Env C R' (ds.set i (some (.d (.lst xs)))) σ H h ∧ Mo C.K R H R' H := by
  obtain ⟨v, s1, a, vs, ev, q, nf, o, t⟩ := e.slot i _ hi
  subst ev
  have hl : i < ds.length := (List.getElem?_eq_some_iff.mp hi).1
  have h0 := e.own0 i xs a hi s1
  refine ⟨R.frz a, ⟨e.ok.frz q o, e.ex.frz h0, by simp [e.len], fun j w q1 => ?_, fun j zs q1 => ?_, fun j k zs ws b q1 t1 q2 t2 => ?_, fun j zs b q1 t1 => ?_⟩, Mo.frz⟩
  · by_cases hj : j = i
    · subst hj
      rw [List.getElem?_set_self hl] at q1
      cases q1
      refine ⟨.ref a, s1, ?_⟩
      show RelD C.K (R.frz a) H (.lst xs) (.ref a)
      unfold RelD
      exact ⟨a, vs, rfl, ⟨.inr rfl, q⟩, relDs_mo Mo.frz t⟩
    · rw [List.getElem?_set_ne (Ne.symm hj)] at q1
      obtain ⟨v2, s2, r2⟩ := e.slot j w q1
      refine ⟨v2, s2, ?_⟩
      cases w with
      | d y => exact relD_mo Mo.frz r2
      | new zs => exact absurd q1 (e.nnew j zs)
      | fn _ => exact r2
      | own zs =>
        obtain ⟨b, ws, ev2, q2, nf2, o2, t2⟩ := r2
        subst ev2
        refine ⟨b, ws, rfl, q2, fun z => ?_, o2, relDs_mo Mo.frz t2⟩
        rcases z with z | z
        · exact nf2 z
        · subst z; exact hj (e.own j i zs xs b q1 s2 hi s1)
  · by_cases hj : j = i
    · subst hj; rw [List.getElem?_set_self hl] at q1; cases q1
    · rw [List.getElem?_set_ne (Ne.symm hj)] at q1; exact e.nnew j zs q1
  · by_cases hj : j = i
    · subst hj; rw [List.getElem?_set_self hl] at q1; cases q1
    by_cases hk : k = i
    · subst hk; rw [List.getElem?_set_self hl] at q2; cases q2
    rw [List.getElem?_set_ne (Ne.symm hj)] at q1
    rw [List.getElem?_set_ne (Ne.symm hk)] at q2
    exact e.own j k zs ws b q1 t1 q2 t2
  · by_cases hj : j = i
    · subst hj; rw [List.getElem?_set_self hl] at q1; cases q1
    · rw [List.getElem?_set_ne (Ne.symm hj)] at q1; exact e.own0 j zs b q1 t1
end
end DL
set_option maxHeartbeats 4000000
namespace DL
open PySem PySem.Spec PyProof.Rows L2
section
variable {X : Cx} {C : Cn} {Wx : WX}
def dNext : TDS := fun ds h P => P.nx ds h
def dSeq (t u : TDS) : TDS := fun ds h P => t ds h { P with nx := fun ds' h' => u ds' h' P }
theorem dss_nil : PSs X [] (liftS C Wx dNext) := pss_nil.imD fun D σ H q => by
  obtain ⟨R, ds, h, P, e, p, k⟩ := q
  exact k.nx R ds σ H h e (Mo.refl _ _ _) p
theorem dss_cons {st : Stmt} {rest : List Stmt} {t u : TDS} (h1 : PS X st (liftS C Wx t)) (h2 : PSs X rest (liftS C Wx u)) : PSs X (st :: rest) (liftS C Wx (dSeq t u)) := (pss_cons h1 h2).imD fun D σ H q => by
  obtain ⟨R, ds, h, P, e, p, k⟩ := q
  exact ⟨R, ds, h, _, e, p, ⟨fun R' ds' σ' H' h' e' m p' => ⟨R', ds', h', P, e', p', k.later m⟩, k.bk, k.ct, k.rt, k.ex⟩⟩
theorem ds_pass {pos : Pos} : PS X (.Pass pos) (liftS C Wx dNext) := ps_pass.imD fun D σ H q => by
  obtain ⟨R, ds, h, P, e, p, k⟩ := q
  exact k.nx R ds σ H h e (Mo.refl _ _ _) p
def dBrk : TDS := fun ds h P => P.bk ds h
theorem ds_brk {pos : Pos} : PS X (.Break pos) (liftS C Wx dBrk) := ps_break.imD fun D σ H q => by
  obtain ⟨R, ds, h, P, e, p, k⟩ := q
  exact k.bk R ds σ H h e (Mo.refl _ _ _) p
def dRet (t : TDE) : TDS := fun ds h P => dD t ds h (fun d h' => P.rt d h') (fun x h' => P.ex x ds h')
theorem ds_ret {e : Expr} {t : TDE} {pos : Pos} (he : PE X e (lift C Wx t)) : PS X (.Return (some e) pos) (liftS C Wx (dRet t)) := (ps_ret (pe_D he)).imD fun D σ H q => by
  obtain ⟨R, ds, h, P, e, p, k⟩ := q
  exact ⟨R, ds, h, _, _, e, p, fun R' H' h' d v p' x e' r => k.rt R' H' h' d v e'.ok e'.ex r p', k.exE e⟩
/-- an expression's value is dropped -/
def dDrop (t : TDE) : TDS := fun ds h P => t ds h (fun _ h' => P.nx ds h') (fun x h' => P.ex x ds h')
theorem ds_expr {e : Expr} {t : TDE} {pos : Pos} (he : PE X e (lift C Wx t)) (hs : swapsWith e none pos.line X.env = pure false) : PS X (.Expr e pos) (liftS C Wx (dDrop t)) := (ps_expr he hs).imD fun D σ H q => by
  obtain ⟨R, ds, h, P, e, p, k⟩ := q
  exact ⟨R, ds, h, _, _, e, p, fun R' H' h' w v p' x e' r => k.nx R' ds σ H' h' e' (x.mo e.ok) p', k.exE e⟩
/-- name = value, a tree -/
def dSet (i : Nat) (t : TDE) : TDS := fun ds h P => dD t ds h (fun d h' => P.nx (ds.set i (some (.d d))) h') (fun x h' => P.ex x ds h')
theorem ds_set {i : Nat} {x : Str} {e : Expr} {t : TDE} {pos pos' : Pos} (hN : X.N.Nodup) (hi : X.N[i]? = some x) (hx : Loc X.env.scope x) (hf : X.fn x = true ∨ X.env.scope.names.lookup x = some .local) (he : PE X e (lift C Wx t)) (hs : swapsWith e (some (.Name x pos')) pos.line X.env = pure false) :
    PS X (.Assign [.Name x pos'] e pos) (liftS C Wx (dSet i t)) := (ps_set (i := i) hN hi hx (pe_D he) hs hf).imD fun D σ H q => by
  obtain ⟨R, ds, h, P, e, p, k⟩ := q
  exact ⟨R, ds, h, _, _, e, p, fun R' H' h' d v p' x e' r => k.nx R' _ _ H' h' (e'.set i r) (x.mo e.ok) p', k.exE e⟩
/-- name = a new list, its own -/
def dOwn (i : Nat) (t : TDE) : TDS := fun ds h P => t ds h (fun w h' => ∃ xs, w = .new xs ∧ P.nx (ds.set i (some (.own xs))) h') (fun x h' => P.ex x ds h')
theorem Env.ownNew {R R' : Rg} {H H' : Hp} {ds : DSt} {σ : Sl} {h h' : Hs} {xs : List D} {v : V} (i : Nat) (e : Env C R ds σ H h) (e' : Env C R' ds σ H' h') (r : RelW C.K H R' H' (.new xs) v) : Env C R' (ds.set i (some (.own xs))) (σ.set i (some v)) H' h' := by
  obtain ⟨a, vs, rfl, n1, q, nf, o, t⟩ := r
  refine e'.setO i q nf o t (e.ex.dom a n1) fun j ys hj hs => ?_
  obtain ⟨v0, s0, a0, vs0, ev0, q0, _⟩ := e.slot j _ hj
  rw [hs] at s0
  cases s0
  cases ev0
  rw [n1] at q0
  cases q0
theorem ds_own {i : Nat} {x : Str} {e : Expr} {t : TDE} {pos pos' : Pos} (hN : X.N.Nodup) (hi : X.N[i]? = some x) (hx : Loc X.env.scope x) (hf : X.fn x = true ∨ X.env.scope.names.lookup x = some .local) (he : PE X e (lift C Wx t)) (hs : swapsWith e (some (.Name x pos')) pos.line X.env = pure false) :
    PS X (.Assign [.Name x pos'] e pos) (liftS C Wx (dOwn i t)) := (ps_set (i := i) hN hi hx he hs hf).imD fun D σ H q => by
  obtain ⟨R, ds, h, P, e, p, k⟩ := q
  refine ⟨R, ds, h, _, _, e, p, fun R' H' h' w v ⟨xs, hw, p'⟩ x e' r => ?_, k.exE e⟩
  subst hw
  exact k.nx R' _ _ H' h' (Env.ownNew i e e' r) (x.mo e.ok) p'
/-- an own list becomes a tree, ahead of a statement -/
def dFrz (i : Nat) (t : TDS) : TDS := fun ds h P => ∃ xs, ds[i]? = some (some (.own xs)) ∧ t (ds.set i (some (.d (.lst xs)))) h P
theorem lift_frz {i : Nat} {t : TDS} {D : Ends} {σ : Sl} {H : Hp} (q : liftS C Wx (dFrz i t) D σ H) : liftS C Wx t D σ H := by
  obtain ⟨R, ds, h, P, e, ⟨xs, hi, p⟩, k⟩ := q
  obtain ⟨R', e', m⟩ := e.frz hi
  exact ⟨R', _, h, P, e', p, k.later m⟩
theorem ds_frz {i : Nat} {st : Stmt} {t : TDS} (hs : PS X st (liftS C Wx t)) : PS X st (liftS C Wx (dFrz i t)) := hs.imD fun _ _ _ q => lift_frz q
def dIte (c : TDT) (t u : TDS) : TDS := fun ds h P => c ds h (fun b h' => if b = true then t ds h' P else u ds h' P) (fun x h' => P.ex x ds h')
theorem ds_if {c : Expr} {a b : List Stmt} {tc : TDT} {t u : TDS} {pos : Pos} (hc : PT X c (liftT C Wx tc)) (ha : PSs X a (liftS C Wx t)) (hb : PSs X b (liftS C Wx u)) : PS X (.If c a b pos) (liftS C Wx (dIte tc t u)) := (ps_if hc ha hb).imD fun D σ H q => by
  obtain ⟨R, ds, h, P, e, p, k⟩ := q
  refine ⟨R, ds, h, _, _, e, p, fun R' H' h' b p' x e' => ?_, k.exE e⟩
  cases b with
  | true => exact ⟨R', ds, h', P, e', p', k.later (x.mo e.ok)⟩
  | false => exact ⟨R', ds, h', P, e', p', k.later (x.mo e.ok)⟩
/-- while: an invariant with a measure -/
def dWhile (c : TDT) (tb : TDS) : TDS := fun ds h P => ∃ I : Nat → DSt → Hs → Prop, (∃ m, I m ds h) ∧ ∀ m ds h, I m ds h →
  c ds h (fun b h1 => if b = true then tb ds h1 { P with nx := fun ds' h' => ∃ m', m' < m ∧ I m' ds' h', ct := fun ds' h' => ∃ m', m' < m ∧ I m' ds' h', bk := P.nx } else P.nx ds h1) (fun x h' => P.ex x ds h')
theorem ds_while {c : Expr} {body : List Stmt} {tc : TDT} {tb : TDS} {pos : Pos} (hp : PassesOwn (model X.prog X.w) X.A X.env X.xe) (hc : PT X c (liftT C Wx tc)) (hb : PSs X body (liftS C Wx tb)) : PS X (.While c body [] pos) (liftS C Wx (dWhile tc tb)) :=
  (ps_while hp hc hb).imD fun D σ H q => by
    obtain ⟨R, ds, h, P, e, ⟨I, ⟨m0, i0⟩, turn⟩, k⟩ := q
    refine ⟨fun m σ' H' => ∃ R' ds' h', Env C R' ds' σ' H' h' ∧ Mo C.K R H R' H' ∧ I m ds' h', ⟨m0, R, ds, h, e, Mo.refl _ _ _, i0⟩, ?_⟩
    rintro m σ1 H1 ⟨R1, ds1, h1, e1, m1, i1⟩
    refine ⟨R1, ds1, h1, _, _, e1, turn m ds1 h1 i1, fun R2 H2 h2 b p2 x2 e2 => ?_, (k.later m1).exE e1⟩
    have m2 := m1.trans (x2.mo e1.ok)
    cases b with
    | false => exact k.nx R2 ds1 σ1 H2 h2 e2 m2 p2
    | true =>
      refine ⟨fun σ' H' => ∃ R' ds' h', Env C R' ds' σ' H' h' ∧ Mo C.K R H R' H' ∧ ∃ m', m' < m ∧ I m' ds' h', fun σ' H' ⟨R', ds', h', e', mm, m', lt, i'⟩ => ⟨m', lt, R', ds', h', e', mm, i'⟩, ?_⟩
      exact ⟨R2, ds1, h2, _, e2, p2, ⟨fun R' ds' σ' H' h' e' mm p' => ⟨R', ds', h', e', m2.trans mm, p'⟩, fun R' ds' σ' H' h' e' mm p' => k.nx R' ds' σ' H' h' e' (m2.trans mm) p', fun R' ds' σ' H' h' e' mm p' => ⟨R', ds', h', e', m2.trans mm, p'⟩,
        k.rt, fun R' ds' σ' H' h' x cls dd e' mm r p' => k.ex R' ds' σ' H' h' x cls dd e' (m2.trans mm) r p'⟩⟩
mutual
inductive Tg where
  | nm (i : Nat)
  | tp (ts : Tgs)
inductive Tgs where
  | nil
  | cons (t : Tg) (ts : Tgs)
end
mutual
def Tg.slots : Tg → List Nat
  | .nm i => [i]
  | .tp ts => ts.slots
def Tgs.slots : Tgs → List Nat
  | .nil => []
  | .cons t ts => t.slots ++ ts.slots
end
def Tgs.len : Tgs → Nat
  | .nil => 0
  | .cons _ ts => ts.len + 1
mutual
def Tg.put : Tg → D → DSt → (DSt → Prop) → Prop
  | .nm i, d, ds, P => P (ds.set i (some (.d d)))
  | .tp ts, d, ds, P => ∃ xs, d = .tup xs ∧ xs.length = ts.len ∧ ts.put xs ds P
def Tgs.put : Tgs → List D → DSt → (DSt → Prop) → Prop
  | .nil, xs, ds, P => xs = [] ∧ P ds
  | .cons t ts, xs, ds, P => ∃ x r, xs = x :: r ∧ t.put x ds fun ds' => ts.put r ds' P
end
/-- the slots but some are as they were -/
def Kept (l : List Nat) (σ σ' : Sl) : Prop := σ'.length = σ.length ∧ ∀ j, j ∉ l → σ'[j]? = σ[j]?
def liftG (C : Cn) (g : Tg) : TG := fun v σ H Q => ∃ R ds h d P, Env C R ds σ H h ∧ RelD C.K R H d v ∧ g.put d ds P ∧ ∀ ds' σ', Env C R ds' σ' H h → Kept g.slots σ σ' → P ds' → Q σ' H
def liftGs (C : Cn) (g : Tgs) : TGs := fun v σ H Q => ∃ R ds h d P, Env C R ds σ H h ∧ RelDs C.K R H d v ∧ g.put d ds P ∧ ∀ ds' σ', Env C R ds' σ' H h → Kept g.slots σ σ' → P ds' → Q σ' H
theorem _root_.L2.PG.imD {X : Cx} {e : Expr} {t t' : TG} (p : PG X e t) (f : ∀ v σ H Q, t' v σ H Q → t v σ H Q) : PG X e t' := ⟨fun pins s σ H v u Q I r q => p.run pins s σ H v u Q I r (f v σ H Q q)⟩
theorem _root_.L2.PGs.imD {X : Cx} {e : List Expr} {t t' : TGs} (p : PGs X e t) (f : ∀ v σ H Q, t' v σ H Q → t v σ H Q) : PGs X e t' := ⟨fun pins s σ H v u Q I r q => p.run pins s σ H v u Q I r (f v σ H Q q)⟩
theorem dg_nm {i : Nat} {x : Str} {pos : Pos} (hN : X.N.Nodup) (hi : X.N[i]? = some x) (hx : Loc X.env.scope x) (hf : X.fn x = true ∨ X.env.scope.names.lookup x = some .local) : PG X (.Name x pos) (liftG C (.nm i)) := (pg_name (i := i) hN hi hx hf).imD fun v σ H Q q => by
  obtain ⟨R, ds, h, d, P, e, r, p, k⟩ := q
  unfold Tg.put at p
  refine k _ _ (e.set i r) ⟨by simp, fun j hj => ?_⟩ p
  unfold Tg.slots at hj
  rw [List.getElem?_set_ne (fun z => hj (by simp [z]))]
theorem dgs_nil : PGs X [] (liftGs C .nil) := pgs_nil.imD fun v σ H Q q => by
  obtain ⟨R, ds, h, d, P, e, r, p, k⟩ := q
  unfold Tgs.put at p
  obtain ⟨rfl, p⟩ := p
  exact ⟨r_nil r, k ds σ e ⟨rfl, fun _ _ => rfl⟩ p⟩
theorem dgs_cons {e : Expr} {es : List Expr} {t : Tg} {ts : Tgs} (h1 : PG X e (liftG C t)) (h2 : PGs X es (liftGs C ts)) (hs : (assignEach (e :: es) X.env).map (·.2) = assign e X.env :: (assignEach es X.env).map (·.2)) : PGs X (e :: es) (liftGs C (.cons t ts)) := (pgs_cons h1 h2 hs).imD fun v σ H Q q => by
  obtain ⟨R, ds, h, d, P, e, r, p, k⟩ := q
  unfold Tgs.put at p
  obtain ⟨x, xr, rfl, p⟩ := p
  obtain ⟨v1, vr, rfl, r1, r2⟩ := r_cons r
  refine ⟨v1, vr, rfl, R, ds, h, x, _, e, r1, p, fun ds' σ' e' kp p' => ⟨R, ds', h, xr, P, e', r2, p', fun ds2 σ2 e2 kp2 p2 => k ds2 σ2 e2 ⟨kp2.1.trans kp.1, fun j hj => ?_⟩ p2⟩⟩
  unfold Tgs.slots at hj
  rw [List.mem_append, not_or] at hj
  exact (kp2.2 j hj.2).trans (kp.2 j hj.1)
theorem dg_tp {es : List Expr} {k : Nat} {ts : Tgs} {pos : Pos} (hK : C.K = X.K) (hc : X.calm = true) (h : PGs X es (liftGs C ts)) (hn : (assignEach es X.env).length = ts.len) (hst : (assignEach es X.env).findIdx? (·.1) = none) : PG X (.Tuple es k pos) (liftG C (.tp ts)) :=
  (pg_tup (n := ts.len) hc h hn hst).imD fun v σ H Q q => by
    obtain ⟨R, ds, h, d, P, e, r, p, k⟩ := q
    unfold Tg.put at p
    obtain ⟨xs, rfl, hl, p⟩ := p
    obtain ⟨a, vs, rfl, q, t⟩ := r_tup r
    exact ⟨a, vs, rfl, q.sq, by rw [← relDs_len t]; exact hl, R, ds, h, xs, P, e, t, p, k⟩
/-- target = value -/
def dAsg (g : Tg) (t : TDE) : TDS := fun ds h P => dD t ds h (fun d h' => g.put d ds fun ds' => P.nx ds' h') (fun x h' => P.ex x ds h')
theorem ds_asg {tg e : Expr} {t : TDE} {g : Tg} {pos : Pos} (he : PE X e (lift C Wx t)) (hg : PG X tg (liftG C g)) (hs : swapsWithSole [tg] e pos.line X.env = pure false) (hw : swappedStores [tg] e X.env = pure none)
    (h1 : (assignEach [tg] X.env).map (·.2) = [assign tg X.env]) : PS X (.Assign [tg] e pos) (liftS C Wx (dAsg g t)) := (ps_asg (pe_D he) hg hs hw h1).imD fun D σ H q => by
  obtain ⟨R, ds, h, P, e, p, k⟩ := q
  exact ⟨R, ds, h, _, _, e, p, fun R' H' h' d v p' x e' r => ⟨R', ds, h', d, _, e', r, p', fun ds' σ' e2 _ p2 => k.nx R' ds' σ' H' h' e2 (x.mo e.ok) p2⟩, k.exE e⟩
structure Src (C : Cn) (R : Rg) (H : Hp) (xs : List D) (J : It) : Prop where
  go : ∀ i R' H', Mo C.K R H R' H' → i < xs.length → J.go i H'
  stop : ∀ R' H', Mo C.K R H R' H' → J.stop xs.length H'
  yld : ∀ i R' H' v H2 d ds σ h, Mo C.K R H R' H' → Env C R' ds σ H' h → xs[i]? = some d → J.yld i H' v H2 → Ex R' H' R' H2 ∧ Env C R' ds σ H2 h ∧ RelD C.K R' H2 d v
abbrev TDI := DSt → Hs → (List D → Hs → Prop) → XD → Prop
def liftI (C : Cn) (Wx : WX) (t : TDI) : TI := fun σ H Q => ∃ R ds h P Z, Env C R ds σ H h ∧ t ds h P Z ∧
  (∀ R' H' h' xs J, P xs h' → Ex R H R' H' → Env C R' ds σ H' h' → Src C R' H' xs J → Q J H') ∧
  (∀ R' H' h' x cls dd, Z x h' → Ex R H R' H' → Env C R' ds σ H' h' → RelX C R' H' x cls dd → Wx cls dd σ H')
theorem _root_.L2.PI.imD {X : Cx} {tg e : Expr} {t t' : TI} (p : PI X tg e t) (f : ∀ σ H Q, t' σ H Q → t σ H Q) : PI X tg e t' := ⟨fun pins s σ H Q I q => p.run pins s σ H Q I (f σ H Q q)⟩
def dItL (t : TDE) : TDI := fun ds h P Z => dD t ds h (fun d h' => ∃ xs, (d = .lst xs ∨ d = .fro xs) ∧ P xs h') Z
def dItT (t : TDE) : TDI := fun ds h P Z => dD t ds h (fun d h' => ∃ xs, d = .tup xs ∧ P xs h') Z
def dItS (t : TDE) : TDI := fun ds h P Z => dD t ds h (fun d h' => ∃ x, d = .str x ∧ P (x.cps.toList.map fun c => .str ⟨#[c]⟩) h') Z
theorem di_lst {tg e : Expr} {t : TDE} (hK : C.K = X.K) (he : PE X e (lift C Wx t)) : PI X tg e (liftI C Wx (dItL t)) := (pi_list (pe_D he)).imD fun σ H Q q => by
  obtain ⟨R, ds, h, P, Z, e, p, k, z⟩ := q
  refine ⟨R, ds, h, _, Z, e, p, fun R' H' h' d v ⟨xs, hd, p'⟩ x e' r => ?_, z⟩
  have src : ∀ a vs, (∀ R2 H2, Mo C.K R' H' R2 H2 → SqL C.K H2 a vs) → RelDs C.K R' H' xs vs → Src C R' H' xs (Itl X.K a) := fun a vs st t => by
    rw [← hK]
    refine ⟨fun i R2 H2 m hi => ⟨vs, vs[i]'(by rw [← relDs_len t]; exact hi), st R2 H2 m, by simp⟩, fun R2 H2 m => ⟨vs, st R2 H2 m, by rw [relDs_len t]; exact Nat.le_refl _⟩, fun i R2 H2 v H3 d ds σ h m e2 hd y => ?_⟩
    obtain ⟨rfl, y⟩ := y
    obtain ⟨u, hu, ru⟩ := relDs_get t hd
    have := y vs (st R2 _ m)
    rw [hu] at this
    cases this
    exact ⟨Ex.refl _ _, e2, relD_mo m ru⟩
  rcases hd with rfl | rfl
  · obtain ⟨a, vs, rfl, q, t⟩ := r_lst r
    exact ⟨a, rfl, ⟨vs, q.sq⟩, k R' H' h' xs _ p' x e' (src a vs (fun R2 H2 m => (m.lst _ _ q).sq) t)⟩
  · obtain ⟨a, vs, rfl, q, t⟩ := r_fro r
    exact ⟨a, rfl, ⟨vs, hK ▸ q.sq⟩, k R' H' h' xs _ p' x e' (src a vs (fun R2 H2 m => (m.fro _ _ q).sq) t)⟩
theorem di_tup {tg e : Expr} {t : TDE} (hK : C.K = X.K) (he : PE X e (lift C Wx t)) : PI X tg e (liftI C Wx (dItT t)) := (pi_tup (pe_D he)).imD fun σ H Q q => by
  obtain ⟨R, ds, h, P, Z, e, p, k, z⟩ := q
  refine ⟨R, ds, h, _, Z, e, p, fun R' H' h' d v ⟨xs, hd, p'⟩ x e' r => ?_, z⟩
  subst hd
  obtain ⟨a, vs, rfl, q, t⟩ := r_tup r
  refine ⟨a, rfl, ⟨vs, q.sq⟩, k R' H' h' xs _ p' x e' ?_⟩
  rw [← hK]
  refine ⟨fun i R2 H2 m hi => ⟨vs, vs[i]'(by rw [← relDs_len t]; exact hi), (m.tup _ _ q).sq, by simp⟩, fun R2 H2 m => ⟨vs, (m.tup _ _ q).sq, by rw [relDs_len t]; exact Nat.le_refl _⟩, fun i R2 H2 v H3 d ds σ h m e2 hd y => ?_⟩
  obtain ⟨rfl, y⟩ := y
  obtain ⟨u, hu, ru⟩ := relDs_get t hd
  have := y vs (m.tup _ _ q).sq
  rw [hu] at this
  cases this
  exact ⟨Ex.refl _ _, e2, relD_mo m ru⟩
theorem di_str {tg e : Expr} {t : TDE} (he : PE X e (lift C Wx t)) : PI X tg e (liftI C Wx (dItS t)) := (pi_str (pe_D he)).imD fun σ H Q q => by
  obtain ⟨R, ds, h, P, Z, e, p, k, z⟩ := q
  refine ⟨R, ds, h, _, Z, e, p, fun R' H' h' d v ⟨s, hd, p'⟩ x e' r => ?_, z⟩
  subst hd
  refine ⟨s, r_str r, k R' H' h' _ _ p' x e' ?_⟩
  have w := walk_str (z := s)
  have hl : (s.cps.toList.map fun c => D.str ⟨#[c]⟩).length = s.cps.size := by simp
  refine ⟨fun i R2 H2 m hi => w.goes i H2 (by rw [← hl]; exact hi) trivial, fun R2 H2 m => by rw [hl]; exact w.stops H2 trivial, fun i R2 H2 v H3 d ds σ h m e2 hd y => ?_⟩
  have hi : i < s.cps.size := by rw [← hl]; exact (List.getElem?_eq_some_iff.mp hd).1
  obtain ⟨rfl, c, hc, rfl⟩ := w.yields i H2 v H3 hi trivial y
  have : D.str ⟨#[c]⟩ = d := by
    rw [List.getElem?_map] at hd
    have h2 : s.cps.toList[i]? = some c := by simpa using hc
    rw [h2] at hd
    cases hd; rfl
  subst this
  exact ⟨Ex.refl _ _, e2, m_str⟩
/-- range(n), range(a, b) -/
def rngD (lo : Int) (n : Nat) : List D := (List.range n).map fun (i : Nat) => .int (lo + (i : Int))
def dItR1 (t : TDE) : TDI := fun ds h P Z => dCons t dNil ds h (fun xs h' => ∃ j, xs = [.int j] ∧ -(2 ^ 62) ≤ j ∧ j < 2 ^ 62 ∧ P (rngD 0 j.toNat) h') Z
def dItR2 (t u : TDE) : TDI := fun ds h P Z => dCons t (dCons u dNil) ds h (fun xs h' => ∃ i j, xs = [.int i, .int j] ∧ (-(2 ^ 62) ≤ i ∧ i < 2 ^ 62 ∧ -(2 ^ 62) ≤ j ∧ j < 2 ^ 62) ∧ P (rngD i (j - i).toNat) h') Z
theorem src_rng {R : Rg} {H : Hp} {lo : Int} {n : Nat} : Src C R H (rngD lo n) (Itr lo n) := by
  have hl : (rngD lo n).length = n := by unfold rngD; simp
  refine ⟨fun i _ _ _ hi => by rw [hl] at hi; exact hi, fun _ _ _ => by rw [hl]; exact Nat.le_refl n, fun i R2 H2 v H3 d ds σ h m e2 hd y => ?_⟩
  obtain ⟨rfl, rfl⟩ := y
  have hi : i < n := by rw [← hl]; exact (List.getElem?_eq_some_iff.mp hd).1
  have : D.int (lo + (i : Int)) = d := by
    unfold rngD at hd
    rw [List.getElem?_map, List.getElem?_range hi] at hd
    cases hd; rfl
  subst this
  exact ⟨Ex.refl _ _, e2, m_int⟩
theorem di_r1 {tg a : Expr} {t : TDE} {p pos : Pos} (hg : Gl X "range") (hm : X.mg "range" = none) (ha : PE X a (lift C Wx t)) (hs : starEach [a] X.env = [(false, eval a X.env)]) : PI X tg (.Call (.Name "range" p) [a] [] pos) (liftI C Wx (dItR1 t)) :=
  (pi_range1 hg hm (da_cons ha da_nil hs) hs).imD fun σ H Q q => by
    obtain ⟨R, ds, h, P, Z, e, p, k, z⟩ := q
    refine ⟨R, ds, h, _, Z, e, p, fun R' H' h' d v ⟨j, hd, l1, l2, p'⟩ x e' r => ?_, z⟩
    subst hd
    obtain ⟨v1, vr, rfl, r1, r2⟩ := r_cons r
    cases r_nil r2
    cases r_int r1
    exact ⟨j, rfl, l1, l2, k R' H' h' _ _ p' x e' src_rng⟩
theorem di_r2 {tg a b : Expr} {t u : TDE} {p pos : Pos} (hg : Gl X "range") (hm : X.mg "range" = none) (ha : PE X a (lift C Wx t)) (hb : PE X b (lift C Wx u)) (hs : starEach [a, b] X.env = [(false, eval a X.env), (false, eval b X.env)]) (hs2 : starEach [b] X.env = [(false, eval b X.env)]) :
    PI X tg (.Call (.Name "range" p) [a, b] [] pos) (liftI C Wx (dItR2 t u)) :=
  (pi_range2 hg hm (da_cons ha (da_cons hb da_nil hs2) (by rw [hs, hs2])) hs hs2).imD fun σ H Q q => by
    obtain ⟨R, ds, h, P, Z, e, p, k, z⟩ := q
    refine ⟨R, ds, h, _, Z, e, p, fun R' H' h' d v ⟨i, j, hd, l, p'⟩ x e' r => ?_, z⟩
    subst hd
    obtain ⟨v1, vr, rfl, r1, r2⟩ := r_cons r
    obtain ⟨v2, vr, rfl, rb, r3⟩ := r_cons r2
    cases r_nil r3
    cases r_int r1
    cases r_int rb
    exact ⟨i, j, rfl, l, k R' H' h' _ _ p' x e' src_rng⟩
def forD (g : Tg) (tb : TDS) (P : DEnds) : List D → DSt → Hs → Prop
  | [], ds, h => P.nx ds h
  | x :: xs, ds, h => g.put x ds fun ds2 => tb ds2 h { P with nx := forD g tb P xs, ct := forD g tb P xs, bk := P.nx }
def dFor (ti : TDI) (g : Tg) (tb : TDS) : TDS := fun ds h P => ti ds h (fun xs h' => forD g tb P xs ds h') (fun x h' => P.ex x ds h')
theorem ds_for {tg iter : Expr} {body : List Stmt} {ti : TDI} {g : Tg} {tb : TDS} {pos : Pos} (hp : PassesOwn (model X.prog X.w) X.A X.env X.xe) (hc : X.calm = true) (hi : PI X tg iter (liftI C Wx ti)) (hg : PG X tg (liftG C g)) (hb : PSs X body (liftS C Wx tb))
    (hs : ∀ x, foldedSetIterable iter X.env x = pure x) : PS X (.For tg iter body [] pos) (liftS C Wx (dFor ti g tb)) := (ps_for hp hc hi hg hb hs).imD fun D σ H q => by
  obtain ⟨R, ds, h, P, e, p, k⟩ := q
  refine ⟨R, ds, h, _, _, e, p, fun R1 H1 h1 xs J p1 x1 e1 src => ?_, k.exE e⟩
  have m1 := x1.mo e.ok
  refine ⟨fun i m σ' H' => m = xs.length - i ∧ i ≤ xs.length ∧ ∃ R' ds' h', Env C R' ds' σ' H' h' ∧ Mo C.K R1 H1 R' H' ∧ forD g tb P (xs.drop i) ds' h', ⟨xs.length, by simp, Nat.zero_le _, R1, ds, h1, e1, Mo.refl _ _ _, by simpa using p1⟩, ?_⟩
  rintro i m σ2 H2 ⟨rfl, hle, R2, ds2, h2, e2, m2, p2⟩
  by_cases hlt : i < xs.length
  · right
    rw [List.drop_eq_getElem_cons hlt] at p2
    refine ⟨src.go i R2 H2 m2 hlt, fun σ' H' => ∃ R' ds' h', Env C R' ds' σ' H' h' ∧ Mo C.K R1 H1 R' H' ∧ forD g tb P (xs.drop (i + 1)) ds' h', fun σ' H' ⟨R', ds', h', e', mm, p'⟩ => ⟨xs.length - (i + 1), by omega, rfl, hlt, R', ds', h', e', mm, p'⟩, fun v H3 y => ?_⟩
    obtain ⟨x3, e3, r3⟩ := src.yld i R2 H2 v H3 xs[i] ds2 σ2 h2 m2 e2 (List.getElem?_eq_getElem hlt) y
    have m3 := m2.trans (x3.mo e2.ok)
    unfold forD at p2
    refine ⟨R2, ds2, h2, _, _, e3, r3, p2, fun ds4 σ4 e4 _ p4 => ⟨R2, ds4, h2, _, e4, p4, ⟨fun R' ds' σ' H' h' e' mm p' => ⟨R', ds', h', e', m3.trans mm, p'⟩, fun R' ds' σ' H' h' e' mm p' => k.nx R' ds' σ' H' h' e' (m1.trans (m3.trans mm)) p',
      fun R' ds' σ' H' h' e' mm p' => ⟨R', ds', h', e', m3.trans mm, p'⟩, k.rt, fun R' ds' σ' H' h' x cls dd e' mm r p' => k.ex R' ds' σ' H' h' x cls dd e' (m1.trans (m3.trans mm)) r p'⟩⟩⟩
  · left
    have ei : i = xs.length := by omega
    subst ei
    rw [List.drop_length] at p2
    exact ⟨src.stop R2 H2 m2, k.nx R2 ds2 σ2 H2 h2 e2 (m1.trans m2) p2⟩
end
end DL
set_option maxHeartbeats 4000000
namespace DL
open PySem PySem.Spec PyProof.Rows L2
/-- classes that are raised in except suites -/
def hotN : List Str := ["InvalidPaper", "InvalidRow", "InvalidEvent", "NotUsable", "Barred"]
def cold (K : PySem.W.Frag) : Value → Bool
  | .ref C => match K.lookup C with
    | some ⟨_, _, .cls cd, _⟩ => !hotN.contains cd.name
    | _ => true
  | _ => true
abbrev onlyB (K : PySem.W.Frag) (b : Bool) (W : WX) : WX := fun c d σ H => cold K c = b ∧ W c d σ H
/-- an exception in the air of X -/
def XE (X : Cx) (W : WX) (u : Value) (s' : Shared) : Prop := L2.XE X (onlyB X.K false W) u s' ∨ L2N.XE X (onlyB X.K true W) u s'
def Takes (X : Cx) (W : WX) : Prop := ∀ u s', XE X W u s' → X.xe u s'
theorem Takes.hot {X : Cx} {W : WX} (t : Takes X W) : L2.Takes X (onlyB X.K false W) := fun u s' x => t u s' (.inl x)
theorem Takes.cold {X : Cx} {W : WX} (t : Takes X W) : L2N.Takes X (onlyB X.K true W) := fun u s' x => t u s' (.inr x)
theorem Takes.imp {X : Cx} {W W' : WX} (t : Takes X W) (h : ∀ c d σ H, W' c d σ H → W c d σ H) : Takes X W' := fun u s' x => by
  rcases x with x | x
  · exact t.hot.imp (fun c d σ H q => ⟨q.1, h _ _ _ _ q.2⟩) u s' x
  · exact t.cold.imp (fun c d σ H q => ⟨q.1, h _ _ _ _ q.2⟩) u s' x
/-- behind a call that let an exception out -/
def CX (K : PySem.W.Frag) (P : Program) (w : World) : CXT := fun outer H s E u s' =>
  L2.CX P w outer H s (fun c d H' => DL.cold K c = false ∧ E c d H') u s' ∨ L2N.CX P w outer H s (fun c d H' => DL.cold K c = true ∧ E c d H') u s'
section
variable {X : Cx} {pins : List (Addr × Obj)} {σ : Sl} {H : Hp} {s s' : Shared} {W : WX} {E : XK}
theorem XE.of_call (I : Inv X pins σ H s) (hW : ∀ cls d H', E cls d H' → W cls d σ H') {u : Value} (c : CX X.K X.prog X.w X.stack H s E u s') : XE X W u s' := by
  rcases c with c | c
  · exact .inl (L2.XE.of_call I (fun cls d H' q => ⟨q.1, hW _ _ _ q.2⟩) c)
  · exact .inr (L2N.XE.of_call I (fun cls d H' q => ⟨q.1, hW _ _ _ q.2⟩) c)
theorem takes_of (hs : X.stack = X.env :: X.outer) (hf : X.env.frame = some X.env.locals) (hex : X.ex = []) {E₁ : Value → Shared → Prop}
    (hx : X.xe = fun e s' => wpAny (model X.prog X.w) X.A (leaving X.env e) (fun _ s'' => CX X.K X.prog X.w X.outer X.H_0 X.s_0 E e s'') E₁ s') : Takes X (fun cls d _ H => E cls d H) := fun u s' x => by
  rw [hx]
  rcases x with x | x
  · exact wpAny_mono (L2.XE.leave (E₁ := E₁) (E := fun c d H' => DL.cold X.K c = false ∧ E c d H') hs hf hex (fun _ _ _ _ q => q) x) (fun _ _ q => .inl q) fun _ _ q => q
  · exact wpAny_mono (L2N.XE.leave (E₁ := E₁) (E := fun c d H' => DL.cold X.K c = true ∧ E c d H') hs hf hex (fun _ _ _ _ q => q) x) (fun _ _ q => .inr q) fun _ _ q => q
/-- an expression that makes an exception: its record has its fields, no context -/
abbrev PMk (X : Cx) (e : Expr) (t : Sl → Hp → XK → Prop) : Prop := L2H.PMk5 X e t
theorem mkP_zc {X : Cx} {pins : List (Addr × Obj)} {σ : Sl} {Q : XK} {u : Value} {s' : Shared} (h : L2N.MkP X pins σ Q u s') : L2.MkP X pins σ Q u s' := by
  obtain ⟨a, oe, vs, sI, H', cls, d, e, J, k, hne, ha, hz, r⟩ := h
  exact ⟨a, oe, vs, sI, H', cls, d, e, J, k, hne, ha, hz.zc, r⟩
theorem mkP_mono {X : Cx} {pins : List (Addr × Obj)} {σ : Sl} {Q Q' : XK} {u : Value} {s' : Shared} (h : L2N.MkP X pins σ Q u s') (m : ∀ c d H', Q c d H' → Q' c d H') : L2N.MkP X pins σ Q' u s' := by
  obtain ⟨a, oe, vs, sI, H', cls, d, e, J, k, hne, ha, hz, r1, r2, r3, r4, r5, r6, q⟩ := h
  exact ⟨a, oe, vs, sI, H', cls, d, e, J, k, hne, ha, hz, r1, r2, r3, r4, r5, r6, m _ _ _ q⟩
theorem ps_raiseC {W : WX} {e : Expr} {t : Sl → Hp → XK → Prop} {pos : Pos} (C : Value) (hc : X.calm = true) (tk : Takes X W) (he : PMk X e t) :
    PS X (.Raise (some e) none pos) (fun _ σ H => t σ H fun cls d H' => cls = C ∧ W cls d σ H') := by
  have he2 : L2N.PMk X e (fun σ H Q' => t σ H (fun cls d H' => cls = C ∧ W cls d σ H') ∧ ∀ c d H', (c = C ∧ W c d σ H') → Q' c d H') := fun pins s σ H Q I q => thn (he pins s σ H _ I q.1) fun _ _ x => mkP_mono x.1 q.2
  cases hC : DL.cold X.K C with
  | true => exact (L2N.ps_raise hc tk.cold he2).imD fun D σ H q => ⟨q, fun c d H' q => ⟨by rw [q.1]; exact hC, q.2⟩⟩
  | false => exact (L2.ps_raise hc tk.hot fun pins s σ H Q I q => thn (he2 pins s σ H Q I q) fun _ _ x => mkP_zc x).imD fun D σ H q => ⟨q, fun c d H' q => ⟨by rw [q.1]; exact hC, q.2⟩⟩
end
end DL
set_option maxHeartbeats 4000000
namespace DL
open PySem PySem.Spec PyProof.Rows L2
abbrev Gd (gd : Bool) (A : Around) : Prop := gd = true → A.guards = some []
structure FnG (P : Program) (w : World) (K : Fg) (mg : Str → Option Value) (base : Heap) (gd : Bool) (k : Nat) (f : Addr) (fd : FuncData) (ps : List Str) (sp : Sp) : Prop where
  len : ∀ vs H Q E, sp vs H Q E → vs.length = ps.length
  run : ∀ (A : Around) (outer : List PySem.Env) (s : Shared) (H : Hp) (args : Args) (us : List Value) (vs : List V) (Q : VK) (E : XK), Room k A → Gd gd A → Env0 P w K mg base A outer s H → BindsTo s fd args (ps.zip us) →
    Vals vs us → sp vs H Q E → codeAny (model P w) A (.call (.ref f) args) (CR (CX K P w) outer P w H s Q E) s
section
variable {P : Program} {w : World} {K : Fg} {mg : Str → Option Value} {base : Heap} {gd : Bool}
theorem FnG.mono {j k : Nat} {f : Addr} {fd : FuncData} {ps : List Str} {sp : Sp} (F : FnG P w K mg base gd j f fd ps sp) (h : j ≤ k) : FnG P w K mg base gd k f fd ps sp :=
  ⟨F.len, fun A o s H a us vs Q E hr => F.run A o s H a us vs Q E (hr.mono h)⟩
theorem FnG.imp {k : Nat} {f : Addr} {fd : FuncData} {ps : List Str} {sp sp' : Sp} (F : FnG P w K mg base gd k f fd ps sp) (h : ∀ vs H Q E, sp' vs H Q E → sp vs H Q E) : FnG P w K mg base gd k f fd ps sp' :=
  ⟨fun vs H Q E q => F.len vs H Q E (h _ _ _ _ q), fun A o s H a us vs Q E hr hg e0 hb r q => F.run A o s H a us vs Q E hr hg e0 hb r (h _ _ _ _ q)⟩
/-- a def of the text, by its body -/
theorem fnG_of {k : Nat} {f : Addr} {name qual : Str} {params : Arguments} {body : List Stmt} {scope : Scope} {dV kV doc pm cdv ct oc : Value} {an od : Option Addr} {osl : Array (Option Value)} {N ps : List Str} {sp : Sp}
    (lk : K.lookup f = some ⟨oc, od, .func (PySem.W.fnOf name qual params body scope dV kV doc pm an cdv ct), osl⟩) (hcd : PySem.W.codeIn K cdv qual = true) (S : FnScope N ps scope) (len : ∀ vs H Q E, sp vs H Q E → vs.length = ps.length)
    (hbody : ∀ (A : Around) (outer : List PySem.Env) (s : Shared) (H : Hp) (vs : List V) (Q : VK) (E : XK), Room k (A.deeper (envOfC qual scope s.heap.objs.size f cdv)) → Gd gd A → sp vs H Q E →
      ∃ t, PSs (cxOf (CX K P w) P w K mg base N qual scope f cdv A outer s H E) body t ∧ t { nx := fun _ H' => Q .non H', rt := Q } (start N vs) H) :
    FnG P w K mg base gd (k + 1) f (PySem.W.fnOf name qual params body scope dV kV doc pm an cdv ct) ps sp := by
  refine ⟨len, fun A outer s H args us vs Q E hr hgd e0 hb rv hsp => ?_⟩
  have kin : K.In s.heap := e0.mod.kin.keeps fun b o q => (e0.bs b o q).1
  have nol : s.heap.NoLimit := e0.mod.nolimit.keeps fun b o q => (e0.bs b o q).1
  have kinds : ∀ y ∈ ps.zip us, scope.names.lookup y.1 = some .local ∨ (scope.names.lookup y.1 = some .cell ∧ ((cellsFrom (s.heap.objs.size + 1) scope.names []).lookup y.1).isSome = true) := by
    rintro ⟨n, v⟩ hy
    rcases S.par n (List.of_mem_zip hy).1 with z | z
    · exact Or.inl z
    · exact Or.inr ⟨z, PySem.W.cellsFrom_some _ _ _ (Or.inl z)⟩
  refine codeAny_call_function hr.depth (kin _ _ lk) rfl S.co S.gen rfl (PySem.W.codeRec_of kin hcd) (hb _ _ _ _ ?_)
  refine wpAny_newFunctionEnv_cells S.kind kinds fun env henv s1 x1 => ?_
  subst henv
  refine ⟨nol.keeps x1.toInCall.keep, codeAny_func ?_⟩
  obtain ⟨t, pt, qt⟩ := hbody A outer s H vs Q E (hr.deeper _) hgd hsp
  have inv := inv_start (CX := CX K P w) (P := P) (w := w) (K := K) (mg := mg) (base := base) (N := N) (qual := qual) (f := f) (cd := cdv) (A := A) (outer := outer) (H := H) (E := E) S hr.hd e0 (len _ _ _ _ hsp) rv x1
  refine wpAny_mono (pt.run [] s1 (start N vs) H _ inv qt) (fun fl s' z => ?_) fun _ _ z => z
  cases fl with
  | ret u => obtain ⟨v, σ', H', J, r, q⟩ := z; exact ⟨v, H', J.os, J.bare, J.base, J.hok, r, q⟩
  | next => obtain ⟨σ', H', J, q⟩ := z; exact ⟨.non, H', J.os, J.bare, J.base, J.hok, rfl, q⟩
  | brk => obtain ⟨_, _, _, q⟩ := z; exact q.elim
  | cont => obtain ⟨_, _, _, q⟩ := z; exact q.elim
end
section
variable {X : Cx} {gd : Bool} {k : Nat} {f : Addr} {fd : FuncData} {ps : List Str} {sp : Sp} {Wx : WX}
/-- the wish of exceptions at these slots -/
def atS (Wx : WX) (σ : Sl) : XK := fun cls d H => Wx cls d σ H
theorem run_fnG {pins : List (Addr × Obj)} {σ : Sl} {H : Hp} {s : Shared} {Q : VK} {args : Args} {us : List Value} {vs : List V} (F : FnG X.prog X.w X.K X.mg X.base gd k f fd ps sp) (hr : Room k X.A) (hg : Gd gd X.A) (tk : Takes X Wx)
    (I : Inv X pins σ H s) (hb : BindsTo s fd args (ps.zip us)) (r : Vals vs us) (q : sp vs H Q (atS Wx σ)) : codeAny (model X.prog X.w) X.A (.call (.ref f) args) (fun res s' => match res with
      | .ok (.ret u) => EP X pins σ Q u s'
      | .ok _ => False
      | .error e => X.xe e s') s := by
  refine codeAny_mono (F.run X.A X.stack s H args us vs Q (atS Wx σ) hr hg I.env0 hb r q) fun res s' z => ?_
  cases res with
  | error e => exact tk e s' (XE.of_call I (fun _ _ _ h => h) z)
  | ok fl =>
    cases fl with
    | ret u => exact I.after z
    | next => exact z.elim
    | brk => exact z.elim
    | cont => exact z.elim
def tCallG (sp : Sp) (dvs : List V) (Wx : WX) (t : TA) : TE := fun σ H Q => t σ H fun vs H1 => sp (vs ++ dvs) H1 Q (atS Wx σ)
theorem pe_callG {x : Str} {p pos : Pos} {e : Expr} {es : List Expr} {t : TA} {dvs : List V} {dl : List Value} (F : FnG X.prog X.w X.K X.mg X.base gd k f fd ps sp) (hr : Room k X.A) (hgd : Gd gd X.A) (tk : Takes X Wx) (hg : Gl X x) (hm : X.mg x = some (.ref f)) (hk : PySem.W.keepIn X.K (.ref f) = true)
    (hb : Binds X.K fd ps dl) (hd : Vals dvs dl) (ha : PA X (e :: es) t) (hdb : (x == ("__debug__" : Str)) = false) (he : starEach (e :: es) X.env = (false, eval e X.env) :: starEach es X.env) (hpl : (backTo pos (starEach es X.env)).any (·.1) = false) :
    PE X (.Call (.Name x p) (e :: es) [] pos) (tCallG sp dvs Wx t) := by
  refine ⟨fun pins s σ H Q I q => ?_⟩
  refine wpAny_Call_Name_kw (ld_glob I hg hm ?_ hdb)
  refine PySem.W.callWith_K (h₀ := X.base) I.ok.mod.kin hk (thn (ha.run pos pins s σ H _ I q) fun us s1 ⟨vs, H1, I1, r, q1⟩ => ⟨I1.kIn, ?_⟩) he hpl
  have r2 := r.append hd
  have hl : (us ++ dl).length = ps.length := by rw [← r2.length]; exact F.len _ _ _ _ q1
  refine wpAny_call (codeAny_mono (run_fnG F hr hgd tk I1 (hb s1 us I1.kIn hl) r2 q1) fun res s' z => ?_)
  cases res with
  | error e => exact z
  | ok fl =>
    cases fl with
    | ret u => exact z
    | next => exact z.elim
    | brk => exact z.elim
    | cont => exact z.elim
end
abbrev FnD := List D → Hs → (D → Hs → Prop) → XD → Prop
def liftF (K : Fg) (Cl : Cm) (n : Nat) (f : FnD) : Sp := fun vs H Q E => ∃ R xs h P Z, HOk' K Cl R H h ∧ RelDs K R H xs vs ∧ xs.length = n ∧ f xs h P Z ∧
  (∀ R' H' h' d v, P d h' → Ex R H R' H' → HOk' K Cl R' H' h' → RelD K R' H' d v → Q v H') ∧
  (∀ R' H' h' x cls dd, Z x h' → Ex R H R' H' → HOk' K Cl R' H' h' → RelX ⟨K, Cl, R, H⟩ R' H' x cls dd → E cls dd H')
section
variable {X : Cx} {C : Cn} {Wx : WX}
def dCall (n : Nat) (f : FnD) (t : TDA) : TDE := fun ds h P Z => t ds h (fun xs h1 => xs.length = n ∧ f xs h1 (fun d h2 => P (.d d) h2) Z) Z
theorem de_call {x : Str} {p pos : Pos} {e : Expr} {es : List Expr} {t : TDA} {f : FnD} {gd : Bool} {k : Nat} {fa : Addr} {fd : FuncData} {ps : List Str} (hK : C.K = X.K) (F : FnG X.prog X.w X.K X.mg X.base gd k fa fd ps (liftF C.K C.Cl ps.length f)) (hr : Room k X.A) (hgd : Gd gd X.A) (tk : Takes X Wx) (hg : Gl X x) (hm : X.mg x = some (.ref fa)) (hk : PySem.W.keepIn X.K (.ref fa) = true)
    (hb : Binds X.K fd ps []) (ha : PA X (e :: es) (liftA C Wx t)) (hdb : (x == ("__debug__" : Str)) = false) (he : starEach (e :: es) X.env = (false, eval e X.env) :: starEach es X.env) (hpl : (backTo pos (starEach es X.env)).any (·.1) = false) :
    PE X (.Call (.Name x p) (e :: es) [] pos) (lift C Wx (dCall ps.length f t)) :=
  (pe_callG F hr hgd tk hg hm hk hb .nil ha hdb he hpl).imD fun σ H Q q => by
    obtain ⟨R, ds, h, P, Z, e, p, k, z⟩ := q
    refine ⟨R, ds, h, _, Z, e, p, fun R1 H1 h1 xs vs ⟨hl, p1⟩ x1 e1 r1 => ?_, z⟩
    refine ⟨R1, xs, h1, _, Z, e1.ok, by rw [List.append_nil]; exact r1, hl, p1, fun R2 H2 h2 d v p2 x2 ok2 r2 => ?_, fun R2 H2 h2 y cls dd p2 x2 ok2 r2 => ?_⟩
    · exact k R2 H2 h2 (.d d) v p2 (x1.trans x2) (e1.step x2 ok2) r2
    · exact z R2 H2 h2 y cls dd p2 (x1.trans x2) (e1.step x2 ok2) r2
end
/-- a body's start -/
def startD (n : Nat) (xs : List D) : DSt := xs.map (fun d => some (.d d)) ++ List.replicate (n - xs.length) none
theorem relDs_slot {K : Fg} {R : Rg} {H : Hp} {xs : List D} {vs : List V} (r : RelDs K R H xs vs) {i : Nat} {w : W} {n : Nat} (e : (startD n xs)[i]? = some (some w)) : ∃ d v, w = .d d ∧ vs[i]? = some v ∧ RelD K R H d v := by
  unfold startD at e
  by_cases hl : i < xs.length
  · rw [List.getElem?_append_left (by simpa using hl), List.getElem?_map, List.getElem?_eq_getElem hl] at e
    cases e
    obtain ⟨v, hv, rv⟩ := relDs_get r (List.getElem?_eq_getElem hl)
    exact ⟨_, v, rfl, hv, rv⟩
  · rw [List.getElem?_append_right (by simpa using hl), List.getElem?_replicate] at e
    split at e
    · cases e
    · cases e
theorem env_start {K : Fg} {Cl : Cm} {R : Rg} {H : Hp} {h : Hs} {xs : List D} {vs : List V} {N : List Str} (ok : HOk' K Cl R H h) (r : RelDs K R H xs vs) : Env ⟨K, Cl, R, H⟩ R (startD N.length xs) (start N vs) H h where
  ok := ok
  ex := Ex.refl _ _
  len := by unfold startD L2.start; simp [relDs_len r]
  slot := fun i w q => by
    obtain ⟨d, v, rfl, hv, rv⟩ := relDs_slot r q
    refine ⟨v, ?_, rv⟩
    have hl : i < vs.length := (List.getElem?_eq_some_iff.mp hv).1
    unfold L2.start
    rw [List.getElem?_append_left (by simpa using hl), List.getElem?_map, hv]
    rfl
  nnew := fun i xs q => by obtain ⟨d, v, z, _⟩ := relDs_slot r q; cases z
  own := fun i j xs ys a q => by obtain ⟨d, v, z, _⟩ := relDs_slot r q; cases z
  own0 := fun i xs a q => by obtain ⟨d, v, z, _⟩ := relDs_slot r q; cases z
section
variable {P : Program} {w : World} {K : Fg} {mg : Str → Option Value} {base : Heap} {gd : Bool} {Cl : Cm}
/-- a def keeps its promise over trees, by its body's reading -/
theorem fnG_body {x qual : Str} {st : Stmt} {f : Addr} {fd : FuncData} {N ps : List Str} {k : Nat} {sp : FnD} {t : TDS} (F : Fun K x qual st f fd) (S : FnScope N ps (defScope st))
    (hpt : ∀ (C : Cn) (cdv : Value) (A : Around) (outer : List PySem.Env) (s : Shared) (H : Hp) (E : XK), (∃ oc od osl fd0, K.lookup f = some ⟨oc, od, .func fd0, osl⟩ ∧ fd0.code = cdv ∧ PySem.W.codeIn K cdv qual = true) → C.K = K → C.Cl = Cl → Room k (A.deeper (envOfC qual (defScope st) s.heap.objs.size f cdv)) → Gd gd A →
      PSs (cxOf (CX K P w) P w K mg base N qual (defScope st) f cdv A outer s H E) (defBody st) (liftS C (fun cls d _ H' => E cls d H') t))
    (hsp : ∀ xs h Q Z, xs.length = ps.length → sp xs h Q Z → t (startD N.length xs) h ⟨fun _ h' => Q .non h', Q, fun y _ h' => Z y h', fun _ _ => False, fun _ _ => False⟩) :
    FnG P w K mg base gd (k + 1) f fd ps (liftF K Cl ps.length sp) := by
  obtain ⟨oc, od, kV, doc, pm, an, cdv, ct, osl, rfl, lk, hcd⟩ := F.ex
  refine fnG_of lk hcd S (fun vs H Q E z => ?_) fun A outer s H vs Q E hr hg z => ?_
  · obtain ⟨R, xs, h, Pd, Z, ok, r, hl, _⟩ := z
    rw [← relDs_len r]; exact hl
  obtain ⟨R, xs, h, Pd, Z, ok, r, hl, q, k1, k2⟩ := z
  refine ⟨_, hpt ⟨K, Cl, R, H⟩ cdv A outer s H E ⟨_, _, _, _, lk, rfl, hcd⟩ rfl rfl hr hg, R, _, h, _, env_start ok r, hsp xs h _ _ hl q, ?_⟩
  exact ⟨fun R' ds σ H' h' e _ p => k1 R' H' h' .non .non p e.ex e.ok m_non, fun _ _ _ _ _ _ _ p => p.elim, fun _ _ _ _ _ _ _ p => p.elim, fun R' H' h' d v ok' x' r' p => k1 R' H' h' d v p x' ok' r',
    fun R' ds σ H' h' y cls dd e _ r' p => k2 R' H' h' y cls dd p e.ex e.ok r'⟩
end
end DL
set_option maxHeartbeats 4000000
namespace DL
open PySem PySem.Spec PyProof.Rows L2
section
variable {X : Cx} {C : Cn} {Wx : WX}
/-- x.append(e), x an own list -/
def dApp (i : Nat) (t : TDE) : TDS := fun ds h P => ∃ xs, ds[i]? = some (some (.own xs)) ∧ xs.length < sizeLine ∧ dD t ds h (fun d h' => P.nx (ds.set i (some (.own (xs ++ [d])))) h') (fun x h' => P.ex x ds h')
theorem relDs_one {K : Fg} {R : Rg} {H : Hp} {d : D} {v : V} (r : RelD K R H d v) : RelDs K R H [d] [v] := m_cons r m_nil
theorem ds_app {i : Nat} {x : Str} {e : Expr} {t : TDE} {p1 apos cpos pos : Pos} (hK : C.K = X.K) (hN : X.N[i]? = some x) (hv : Vis X.env.scope x) (hd : (x == ("__debug__" : Str)) = false) (hcd : (x == ("__classdict__" : Str)) = false) (he : PE X e (lift C Wx t))
    (hs : starEach [e] X.env = (false, eval e X.env) :: starEach [] X.env) (hline : (apos.endLine == cpos.line) = true) (hpl : (((backTo cpos (starEach [e] X.env)).all (fun x => !x.1) && (backToKw cpos (keywordEach [] X.env)).all fun x => x.1.isSome) && decide (([e].length + ([] : List Keyword).length + if ([] : List Keyword).isEmpty = true then 0 else 1) < 30)) = true) (hb : attributeBase (.Name x p1) "append" X.env (eval (.Name x p1) X.env) = eval (.Name x p1) X.env)
    (hsw : swapsWith (.Call (.Attribute (.Name x p1) "append" apos) [e] [] cpos) none pos.line X.env = pure false) :
    PS X (.Expr (.Call (.Attribute (.Name x p1) "append" apos) [e] [] cpos) pos) (liftS C Wx (dApp i t)) :=
  (ps_expr (pe_bm PySem.F.plainAttrs_list PySem.F.slot_list_append PySem.F.type_list_append mt_append (pe_var hN hv hd hcd) (pa_cons (pe_D he) pa_nil hs) hb hpl hline hs) hsw).imD fun D σ H q => by
    obtain ⟨R, ds, h, P, e, ⟨xs, hi, hl, p⟩, k⟩ := q
    obtain ⟨v, hv, a, vs, rfl, q, nf, o, tt⟩ := e.slot i _ hi
    refine ⟨.ref a, hv, .inl ⟨rfl, vs, .inl (.inl q)⟩, R, ds, h, _, _, e, p, fun R' H' h' d u p' x e' r => ?_, k.exE e⟩
    have rs := e'.relW hi hv
    obtain ⟨a', vs', ea, q', nf', o', tt'⟩ := rs
    cases ea
    obtain ⟨e2, m2⟩ := e'.wr hi hv (relDs_append tt' (relDs_one r))
    exact ⟨a, vs', u, rfl, rfl, q', by rw [← relDs_len tt']; exact hl, k.nx R' _ σ _ h' e2 ((x.mo e.ok).trans m2) p'⟩
/-- x[j] = e, x an own list -/
def dSix (i : Nat) (tj t : TDE) : TDS := fun ds h P => dD t ds h (fun d h1 => ∃ xs, ds[i]? = some (some (.own xs)) ∧ tj ds h1 (fun w h2 => ∃ k j, w = .d (.int k) ∧ ixN xs.length k = some j ∧ P.nx (ds.set i (some (.own (xs.set j d)))) h2) (fun x h' => P.ex x ds h')) (fun x h' => P.ex x ds h')
theorem ds_six {i : Nat} {x : Str} {e j : Expr} {t tj : TDE} {p1 tpos pos : Pos} (hN : X.N[i]? = some x) (hv : Vis X.env.scope x) (hd : (x == ("__debug__" : Str)) = false) (hcd : (x == ("__classdict__" : Str)) = false) (he : PE X e (lift C Wx t)) (hj : PE X j (lift C Wx tj))
    (ha : ∀ v, assign (.Subscript (.Name x p1) j tpos) X.env v = (do
      let ov ← holding [v] (eval (.Name x p1) X.env)
      let iv ← holding [v, ov] (eval j X.env)
      standAt tpos
      holding [v, ov, iv] (setItem ov iv v)
      release [v, ov, iv] []))
    (hs : swapsWithSole [.Subscript (.Name x p1) j tpos] e pos.line X.env = pure false) (hw : swappedStores [.Subscript (.Name x p1) j tpos] e X.env = pure none)
    (h1 : (assignEach [.Subscript (.Name x p1) j tpos] X.env).map (·.2) = [assign (.Subscript (.Name x p1) j tpos) X.env]) :
    PS X (.Assign [.Subscript (.Name x p1) j tpos] e pos) (liftS C Wx (dSix i tj t)) :=
  (ps_asg (pe_D he) (pg_sub (pe_var hN hv hd hcd) hj set_list ha) hs hw h1).imD fun D σ H q => by
    obtain ⟨R, ds, h, P, e, p, k⟩ := q
    refine ⟨R, ds, h, _, _, e, p, fun R1 H1 h1 d u p1 x1 e1 r1 => ?_, k.exE e⟩
    obtain ⟨xs, hi, p1⟩ := p1
    obtain ⟨v, hv, a, vs, rfl, q, nf, o, tt⟩ := e1.slot i _ hi
    refine ⟨.ref a, hv, R1, ds, h1, _, _, e1, p1, fun R2 H2 h2 w2 v2 ⟨kk, jj, hw, hj, p2⟩ x2 e2 r2 => ?_, (k.later (x1.mo e.ok)).exE e1⟩
    subst hw
    cases rw_int r2
    obtain ⟨a', vs', ea, q', nf', o', tt'⟩ := e2.relW hi hv
    cases ea
    obtain ⟨e3, m3⟩ := e2.wr hi hv (relDs_set jj tt' (relD_ex e1.ok x2 r1))
    exact ⟨a, vs', kk, jj, rfl, rfl, q', by rw [← relDs_len tt']; exact hj, k.nx R2 _ σ _ h2 e3 (((x1.trans x2).mo e.ok).trans m3) p2⟩
/-- a list that no slot and no tree holds is written -/
theorem Env.wrP {R : Rg} {ds : DSt} {σ : Sl} {H : Hp} {h : Hs} {vs us : List V} {a : Addr} (e : Env C R ds σ H h) (q : H a = some (.lst vs)) (nf : ¬ R.fz a) (o : Out R a) (h0 : C.H₀ a = none)
    (hn : ∀ (j : Nat) ys, ds[j]? = some (some (.own ys)) → σ[j]? ≠ some (some (.ref a))) : Env C R ds σ (upd H a (.lst us)) h ∧ Mo C.K R H R (upd H a (.lst us)) := by
  have m : Mo C.K R H R (upd H a (.lst us)) := Mo.wr q nf
  refine ⟨⟨⟨e.ok.len, fun j o' hj => ?_, e.ok.inj, e.ok.nfz, fun b z => ?_, tabs_wr q (fun _ => HO.noConfusion) (fun _ => HO.noConfusion) e.ok.tab⟩, ⟨e.ex.le, e.ex.at_, e.ex.fz, e.ex.nat, e.ex.nfz, fun b u q1 o1 n1 => ?_, fun b q1 => ?_, fun b o' u' q1 => by rw [upd_ne (fun y => by subst y; rw [h0] at q1; cases q1)]; exact e.ex.lk b o' u' q1⟩, e.len, fun j w q1 => ?_, e.nnew, e.own, e.own0⟩, m⟩
  · obtain ⟨u, e2, r2⟩ := e.ok.obj j o' hj
    have hjn : j < R.n := by rw [← e.ok.len]; exact (List.getElem?_eq_some_iff.mp hj).1
    exact ⟨u, by rw [upd_ne (o j hjn)]; exact e2, relO_mo m r2⟩
  · obtain ⟨ws, e2⟩ := e.ok.fzd b z
    exact ⟨ws, by rw [upd_ne (show b ≠ a from fun y => nf (by rw [← y]; exact z))]; exact e2⟩
  · rw [upd_ne (fun y => by subst y; rw [h0] at q1; cases q1)]
    exact e.ex.frm b u q1 o1 n1
  · by_cases y : b = a
    · subst y; exact h0
    · rw [upd_ne y] at q1; exact e.ex.dom b q1
  · obtain ⟨v2, s2, r2⟩ := e.slot j w q1
    refine ⟨v2, s2, ?_⟩
    cases w with
    | d y => exact relD_mo m r2
    | new zs => exact absurd q1 (e.nnew j zs)
    | fn _ => exact r2
    | own zs =>
      obtain ⟨b, ws, ev2, q2, nf2, o2, t2⟩ := r2
      subst ev2
      exact ⟨b, ws, rfl, by rw [upd_ne (fun y => hn j zs q1 (by rw [s2, y]))]; exact q2, nf2, o2, relDs_mo m t2⟩
/-- slots forgotten -/
def wipeD (ds : DSt) : List Nat → DSt
  | [] => ds
  | v :: vs => (wipeD ds vs).set v none
theorem wipeD_len (ds : DSt) : ∀ vs : List Nat, (wipeD ds vs).length = ds.length
  | [] => rfl
  | v :: vs => by unfold wipeD; rw [List.length_set, wipeD_len ds vs]
theorem wipeD_some {ds : DSt} {i : Nat} {w : W} : ∀ {vs : List Nat}, (wipeD ds vs)[i]? = some (some w) → ds[i]? = some (some w) ∧ i ∉ vs
  | [], e => ⟨e, by simp⟩
  | v :: vs, e => by
    unfold wipeD at e
    by_cases hi : v = i
    · subst hi
      by_cases hv : v < (wipeD ds vs).length
      · rw [List.getElem?_set_self hv] at e; cases e
      · rw [List.getElem?_eq_none (by simpa using hv)] at e; cases e
    · rw [List.getElem?_set_ne hi] at e
      obtain ⟨h1, h2⟩ := wipeD_some e
      exact ⟨h1, by simp only [List.mem_cons, not_or]; exact ⟨fun z => hi z.symm, h2⟩⟩
theorem wipe_keep {σ : Sl} {i : Nat} : ∀ {vs : List Nat}, i ∉ vs → (wipe σ vs)[i]? = σ[i]?
  | [], _ => rfl
  | v :: vs, h => by
    unfold wipe
    rw [List.getElem?_set_ne (fun z => h (by simp [z]))]
    exact wipe_keep fun z => h (List.mem_cons_of_mem _ z)
theorem Env.wiped {R : Rg} {ds : DSt} {σ : Sl} {H : Hp} {h : Hs} (e : Env C R ds σ H h) (vs : List Nat) : Env C R (wipeD ds vs) (wipe σ vs) H h where
  ok := e.ok
  ex := e.ex
  len := by rw [wipeD_len, wipe_length]; exact e.len
  slot := fun i w q => by
    obtain ⟨q1, q2⟩ := wipeD_some q
    rw [wipe_keep q2]
    exact e.slot i w q1
  nnew := fun i xs q => e.nnew i xs (wipeD_some q).1
  own := fun i j xs ys a q1 s1 q2 s2 => by
    obtain ⟨a1, a2⟩ := wipeD_some q1
    obtain ⟨b1, b2⟩ := wipeD_some q2
    rw [wipe_keep a2] at s1
    rw [wipe_keep b2] at s2
    exact e.own i j xs ys a a1 s1 b1 s2
  own0 := fun i xs a q1 s1 => by
    obtain ⟨a1, a2⟩ := wipeD_some q1
    rw [wipe_keep a2] at s1
    exact e.own0 i xs a a1 s1
theorem wipe_none {σ : Sl} {i : Nat} : ∀ {vs : List Nat}, i ∈ vs → i < σ.length → (wipe σ vs)[i]? = some none
  | [], h, _ => by simp at h
  | v :: vs, h, hl => by
    unfold wipe
    by_cases hi : v = i
    · subst hi; rw [List.getElem?_set_self (by rw [wipe_length]; exact hl)]
    · rw [List.getElem?_set_ne hi]
      exact wipe_none (by rcases List.mem_cons.mp h with z | z; exact absurd z.symm hi; exact z) hl
theorem wipe_kept {σ σ' : Sl} {vs l : List Nat} (k : Kept l (wipe σ vs) σ') (hl : ∀ i ∈ l, i ∈ vs) : wipe σ' vs = wipe σ vs := by
  apply List.ext_getElem?
  intro i
  have len : σ'.length = σ.length := by rw [k.1, wipe_length]
  by_cases hi : i ∈ vs
  · by_cases hb : i < σ.length
    · rw [wipe_none hi (by rw [len]; exact hb), wipe_none hi hb]
    · rw [List.getElem?_eq_none (by rw [wipe_length]; omega), List.getElem?_eq_none (by rw [wipe_length]; omega)]
  · rw [wipe_keep hi, k.2 i (fun z => hi (hl i z)), wipe_keep hi]
def noX : XD := fun _ _ => False
def noW : WX := fun _ _ _ _ => False
/-- the items in turn; what is kept -/
def lcD (ds : DSt) (vs : List Nat) (g : Tg) (tt : TDT) (te : TDE) (P : List D → Hs → Prop) : List D → List D → Hs → Prop
  | [], acc, h => P acc h
  | x :: xs, acc, h => g.put x (wipeD ds vs) fun ds2 => tt ds2 h (fun b h2 => if b = true then dD te ds2 h2 (fun y h3 => acc.length < sizeLine ∧ lcD ds vs g tt te P xs (acc ++ [y]) h3) noX else lcD ds vs g tt te P xs acc h2) noX
def dLc (ti : TDI) (g : Tg) (tt : TDT) (te : TDE) (vs : List Nat) : TDE := fun ds h P Z => ti ds h (fun xs h1 => lcD ds vs g tt te (fun acc h2 => P (.new acc) h2) xs [] h1) Z
def dYes : TDT := fun _ h P _ => P true h
theorem dts_nil {X' : Cx} : PTs X' [] (liftT C noW dYes) := ⟨fun pins s σ H Q I q => pts_nil.run pins s σ H Q I (by
  obtain ⟨R, ds, h, P, Z, e, p, k, z⟩ := q
  exact k R H h true p (Ex.refl _ _) e)⟩
theorem lift_lc {ti : TDI} {g : Tg} {tt : TDT} {te : TDE} {vs : List Nat} (hv : ∀ i ∈ g.slots, i ∈ vs) {σ : Sl} {H : Hp} {Q : VK} (q : lift C Wx (dLc ti g tt te vs) σ H Q) :
    tLc (liftI C Wx ti) (liftG C g) (liftT C noW tt) (liftV C noW (dD te)) vs σ H Q := by
  obtain ⟨R, ds, h, P, Z, e, p, k, z⟩ := q
  refine ⟨R, ds, h, _, Z, e, p, fun R1 H1 h1 xs J p1 x1 e1 src => ?_, z⟩
  intro A nA
  have nf := e1.ok.nfresh nA
  have hA0 : H A = none := x1.dom A nA
  have own0 : ∀ (j : Nat) ys, ds[j]? = some (some (.own ys)) → σ[j]? ≠ some (some (.ref A)) := fun j ys hj hs => by
    obtain ⟨v0, s0, a0, vs0, ev0, q0, _⟩ := e.slot j _ hj
    rw [hs] at s0; cases s0; cases ev0; rw [hA0] at q0; cases q0
  have h0A : C.H₀ A = none := e.ex.dom A hA0
  refine ⟨fun i m H' => m = xs.length - i ∧ i ≤ xs.length ∧ ∃ R' h' acc us, Env C R' ds σ H' h' ∧ Mo C.K R1 H1 R' H' ∧ Ex R H R' H' ∧ H' A = some (.lst us) ∧ ¬ R'.fz A ∧ Out R' A ∧ RelDs C.K R' H' acc us ∧ lcD ds vs g tt te (fun acc h2 => P (.new acc) h2) (xs.drop i) acc h',
    ⟨xs.length, by simp, Nat.zero_le _, R1, h1, [], [], e1.fresh nA, (Ex.fresh nA).mo e1.ok, x1.trans (Ex.fresh nA), upd_same, nf.1, nf.2, m_nil, by simpa using p1⟩, ?_⟩
  rintro i m H2 ⟨rfl, hle, R2, h2, acc, us, e2, m2, x2, hA, nfA, oA, rA, p2⟩
  by_cases hlt : i < xs.length
  · right
    rw [List.drop_eq_getElem_cons hlt] at p2
    refine ⟨src.go i R2 H2 m2 hlt, fun H' => ∃ R' h' acc us, Env C R' ds σ H' h' ∧ Mo C.K R1 H1 R' H' ∧ Ex R H R' H' ∧ H' A = some (.lst us) ∧ ¬ R'.fz A ∧ Out R' A ∧ RelDs C.K R' H' acc us ∧ lcD ds vs g tt te (fun acc h2 => P (.new acc) h2) (xs.drop (i + 1)) acc h',
      fun H' z => ⟨xs.length - (i + 1), by omega, rfl, hlt, z⟩, fun v H3 y => ?_⟩
    obtain ⟨x3, e3, r3⟩ := src.yld i R2 H2 v H3 xs[i] ds σ h2 m2 e2 (List.getElem?_eq_getElem hlt) y
    unfold lcD at p2
    refine ⟨R2, wipeD ds vs, h2, xs[i], _, e3.wiped vs, r3, p2, fun ds4 σ4 e4 kp p4 => ⟨wipe_kept kp hv, ?_⟩⟩
    have stay : ∀ R' H', Ex R2 H3 R' H' → H' A = some (.lst us) ∧ ¬ R'.fz A ∧ Out R' A ∧ RelDs C.K R' H' acc us := fun R' H' x => by
      have hA3 : H3 A = some (.lst us) := x3.frm A _ hA oA fun _ => HO.noConfusion
      refine ⟨x.frm A _ hA3 oA fun _ => HO.noConfusion, fun z => ?_, x.out hA3 oA, relDs_ex e3.ok x (relDs_ex e2.ok x3 rA)⟩
      rcases x.nfz A z with z | z
      · exact nfA z
      · rw [hA3] at z; cases z
    refine ⟨R2, ds4, h2, _, noX, e4, p4, fun R5 H5 h5 b p5 x5 e5 => ?_, fun _ _ _ _ _ _ z => z.elim⟩
    have e5o : Env C R5 ds σ H5 h5 := e3.step x5 e5.ok
    obtain ⟨hA5, nfA5, oA5, rA5⟩ := stay R5 H5 x5
    have m5 : Mo C.K R1 H1 R5 H5 := (m2.trans (x3.mo e2.ok)).trans (x5.mo e3.ok)
    have x05 : Ex R H R5 H5 := (x2.trans x3).trans x5
    cases b with
    | false => exact ⟨R5, h5, acc, us, e5o, m5, x05, hA5, nfA5, oA5, rA5, p5⟩
    | true =>
      refine ⟨R5, ds4, h5, _, noX, e5, p5, fun R6 H6 h6 d u ⟨hl, p6⟩ x6 e6 r6 => ?_, fun _ _ _ _ _ _ z => z.elim⟩
      have e6o : Env C R6 ds σ H6 h6 := e5o.step x6 e6.ok
      have hA6 : H6 A = some (.lst us) := x6.frm A _ hA5 oA5 fun _ => HO.noConfusion
      have nfA6 : ¬ R6.fz A := fun z => by
        rcases x6.nfz A z with z | z
        · exact nfA5 z
        · rw [hA5] at z; cases z
      have oA6 := x6.out hA5 oA5
      have rA6 : RelDs C.K R6 H6 acc us := relDs_ex e5.ok x6 rA5
      obtain ⟨e7, m7⟩ := e6o.wrP (us := us ++ [u]) hA6 nfA6 oA6 h0A own0
      refine ⟨us, hA6, by rw [← relDs_len rA6]; exact hl, R6, h6, acc ++ [d], us ++ [u], e7, (m5.trans (x6.mo e5.ok)).trans m7, ?_, upd_same, nfA6, oA6, relDs_mo m7 (relDs_append rA6 (relDs_one r6)), p6⟩
      have x06 := x05.trans x6
      exact ⟨x06.le, x06.at_, x06.fz, x06.nat, x06.nfz, fun b u q1 o1 n1 => by rw [upd_ne (ne_of_none q1 hA0)]; exact x06.frm b u q1 o1 n1, fun b q1 => by
        by_cases y : b = A
        · subst y; exact hA0
        · rw [upd_ne y] at q1; exact x06.dom b q1, fun b o' u' q1 => by rw [upd_ne (ne_of_none q1 hA0)]; exact x06.lk b o' u' q1⟩
  · left
    have ei : i = xs.length := by omega
    subst ei
    rw [List.drop_length] at p2
    unfold lcD at p2
    exact ⟨src.stop R2 H2 m2, k R2 H2 h2 (.new acc) (.ref A) p2 x2 e2 ⟨A, us, rfl, hA0, hA, nfA, oA, rA⟩⟩
theorem de_lc {elt tg iter : Expr} {ifs : List Expr} {scope : Scope} {own : List (Str × Nat)} {pos : Pos} {ti : TDI} {g : Tg} {tt : TDT} {te : TDE} (hc : X.calm = true) (hN : X.N.Nodup) (hi : PI X tg iter (liftI C Wx ti)) (ok : BlkOk X.N X.env.scope scope own)
    (hg : ∀ (s : Shared) (H : Hp) (A : Addr) (cl : List (Str × Addr)) (fp : List Addr), PG (X.blk s H scope (compEnvC scope cl A X.env) fp) tg (liftG C g)) (ht : ∀ (s : Shared) (H : Hp) (A : Addr) (cl : List (Str × Addr)) (fp : List Addr), PTs (X.blk s H scope (compEnvC scope cl A X.env) fp) ifs (liftT C noW tt))
    (he : ∀ (s : Shared) (H : Hp) (A : Addr) (cl : List (Str × Addr)) (fp : List Addr), PE (X.blk s H scope (compEnvC scope cl A X.env) fp) elt (lift C noW te)) (hv : ∀ i ∈ g.slots, i ∈ own.map (·.2)) (hs : ∀ x, foldedSetIterable iter X.env x = pure x) :
    PE X (.ListComp elt [⟨tg, iter, ifs, 0⟩] scope pos) (lift C Wx (dLc ti g tt te (own.map (·.2)))) :=
  (pe_lc hc hN hi ok hg ht (fun s H A cl fp => pe_D (he s H A cl fp)) hs).imD fun σ H Q q => lift_lc hv q
/-- name = [..] on one line: a tree, or an own list -/
theorem ds_setLc {own? : Bool} {i : Nat} {y : Str} {py : Pos} {elt tg iter : Expr} {ifs : List Expr} {scope : Scope} {own : List (Str × Nat)} {pos spos : Pos} {ti : TDI} {g : Tg} {tt : TDT} {te : TDE} (hc : X.calm = true) (hN : X.N.Nodup) (hy : X.N[i]? = some y) (hyl : X.env.scope.names.lookup y = some .local)
    (hsw : swapsWith (.ListComp elt [⟨tg, iter, ifs, 0⟩] scope pos) (some (.Name y py)) spos.line X.env = pure true) (hi : PI X tg iter (liftI C Wx ti)) (ok : BlkOk X.N X.env.scope scope own)
    (hg : ∀ (s : Shared) (H : Hp) (A : Addr) (cl : List (Str × Addr)) (fp : List Addr), PG (X.blk s H scope (compEnvC scope cl A X.env) fp) tg (liftG C g)) (ht : ∀ (s : Shared) (H : Hp) (A : Addr) (cl : List (Str × Addr)) (fp : List Addr), PTs (X.blk s H scope (compEnvC scope cl A X.env) fp) ifs (liftT C noW tt))
    (he : ∀ (s : Shared) (H : Hp) (A : Addr) (cl : List (Str × Addr)) (fp : List Addr), PE (X.blk s H scope (compEnvC scope cl A X.env) fp) elt (lift C noW te)) (hv : ∀ i ∈ g.slots, i ∈ own.map (·.2)) (hs : ∀ x, foldedSetIterable iter X.env x = pure x) :
    PS X (.Assign [.Name y py] (.ListComp elt [⟨tg, iter, ifs, 0⟩] scope pos) spos) (liftS C Wx (if own? = true then dOwn i (dLc ti g tt te (own.map (·.2))) else dSet i (dLc ti g tt te (own.map (·.2))))) := by
  refine (ps_setLc (i := i) hc hN hy hyl hsw hi ok hg ht (fun s H A cl fp => pe_D (he s H A cl fp)) hs).imD fun D σ H q => ?_
  cases own? with
  | true =>
    obtain ⟨R, ds, h, P, e, p, k⟩ := q
    rw [if_pos rfl] at p
    refine lift_lc hv ⟨R, ds, h, _, _, e, p, fun R' H' h' w v ⟨xs, hw, p'⟩ x e' r => ?_, k.exE e⟩
    subst hw
    exact k.nx R' _ _ H' h' (Env.ownNew i e e' r) (x.mo e.ok) p'
  | false =>
    obtain ⟨R, ds, h, P, e, p, k⟩ := q
    rw [if_neg Bool.false_ne_true] at p
    unfold dSet dD at p
    refine lift_lc hv ⟨R, ds, h, _, _, e, p, fun R' H' h' w v ⟨d, hd, p'⟩ x e' r => ?_, k.exE e⟩
    obtain ⟨R'', x', e'', r', _⟩ := frzW e x e' r hd
    exact k.nx R'' _ _ H' h' (e''.set i r') (x'.mo e.ok) p'
end
end DL
set_option maxHeartbeats 8000000
namespace DL
open PySem PySem.Spec PyProof.Rows L2
/-- enumerate(v), one argument -/
theorem enumNew1 {v : Value} {o : Obj} {H : Heap → Prop} (B : Begins v o H) : Meets (Builtin.«enumerate.__new__» ⟨[.type "enumerate", v], []⟩) (fun _ R s => H s.heap ∧
      R (.ok (.ret (.ref (s.heap.push o).objs.size))) { s with heap := (s.heap.push o).push { cls := .type "enumerate", data := .fields #[.none, .bool false, .ref s.heap.objs.size, rawInt 0, .none, .none] } }) :=
  .of_wp fun prog w A R s z => by
    obtain ⟨hp, g, d, tk, os⟩ := s
    obtain ⟨h1, z⟩ := z
    have hsub := sub_enumerate
    have walkIt : ∀ {A' : Around} {E : Value → Shared → Prop} {Q : Value → Shared → Prop}, Q (.ref hp.objs.size) ⟨hp.push o, g, d, tk, os⟩ → wpAny (model prog w) A' (pyIter v) Q E ⟨hp, g, d, tk, os⟩ := fun y => B.iter prog w _ _ ⟨hp, g, d, tk, os⟩ _ h1 y
    wp_walk using walkIt
    refine wpAny_stack_any fun stk => wpAny_pure ?_
    split
    · rename_i c _ _ _ _ _
      cases (c == Value.type "enumerate") <;> (wp_walk using walkIt; exact ⟨_, rfl, z⟩)
    · wp_walk using walkIt
      exact ⟨_, rfl, z⟩
theorem enumCall1 {prog : Program} {w : World} {A : Around} {E : Value → Shared → Prop} {s : Shared} {v : Value} {o : Obj} {H : Heap → Prop} {Q : Value → Shared → Prop} (B : Begins v o H) (h1 : H s.heap)
    (k : ∀ h', IsEnum h' (s.heap.objs.size + 1) s.heap.objs.size 0 .none → h'.get? s.heap.objs.size = some o → h'.objs.size = s.heap.objs.size + 2 → (∀ b o, s.heap.get? b = some o → h'.get? b = some o) → Q (.ref (s.heap.objs.size + 1)) { s with heap := h' }) :
    wpAny (model prog w) A (call (.type "enumerate") [v]) Q E s := by
  refine callType_new F.called_enumerate (by decide) (F.typeCall_enumerate_1 _) (F.newCall_enumerate_1 _) (fun obj => F.args_object_init_2 obj _) F.entry_enumerate_new (enumNew1 B) ⟨h1, ?_⟩
  have sz : (s.heap.push o).objs.size = s.heap.objs.size + 1 := Heap.size_push ..
  show _ ∧ _
  rw [sz]
  have en : IsEnum ((s.heap.push o).push { cls := .type "enumerate", data := .fields #[.none, .bool false, .ref s.heap.objs.size, rawInt 0, .none, .none] }) (s.heap.objs.size + 1) s.heap.objs.size 0 .none := by
    have := Heap.get?_push_size (s.heap.push o) (o := { cls := .type "enumerate", data := .fields #[.none, .bool false, .ref s.heap.objs.size, rawInt 0, .none, .none] }) rfl
    rw [sz] at this
    exact this
  exact ⟨⟨_, en, rfl⟩, k _ en (Heap.get?_push_of_some _ (Heap.get?_push_size _ B.free)) (by rw [Heap.size_push, sz]) fun b o x => Heap.get?_push_of_some _ (Heap.get?_push_of_some _ x)⟩
/-- the tuple at a, each item in a new pair -/
def ItEt (K : Fg) (a : Addr) : It :=
  ⟨fun i H => ∃ (xs : List V) (x : V), SqT K H a xs ∧ xs[i]? = some x, fun i H v H' => ∃ T x, v = .ref T ∧ H T = none ∧ H' = upd H T (.tup [.int (i : Nat), x]) ∧ ∀ xs, SqT K H a xs → xs[i]? = some x, fun i H => ∃ xs : List V, SqT K H a xs ∧ xs.length = i⟩
theorem two_mem {b e it : Addr} (h : b ∈ [e, it]) : b = e ∨ b = it := by simpa using h
theorem turn_enumT {P : Program} {w : World} {K : Fg} {elts : List Expr} {kk : Nat} {tpos : Pos} (a e it : Addr) :
    Turn P w K (.Tuple elts kk tpos) (ItEt K a) [e, it] e (fun i h => (∃ old, IsEnum h e it ((i : Nat) : Int) old) ∧ h.IsTupleIter it a i ∧ e ≠ it ∧ a ≠ it ∧ e ≠ a) where
  mem := by simp
  obj := fun i h st b hb => by
    obtain ⟨⟨old, he⟩, ⟨o, ho, hc, hd⟩, _⟩ := st
    rcases two_mem hb with z | z
    · exact ⟨_, by rw [z]; exact he, fun v q => by cases q⟩
    · exact ⟨o, by rw [z]; exact ho, fun v q => by rw [hd] at q; cases q⟩
  keep := fun i h h' st k => by
    obtain ⟨⟨old, he⟩, hi, hn⟩ := st
    exact ⟨⟨old, k e (by simp) _ he⟩, hi.at fun o q => k it (by simp) o q, hn⟩
  item := by
    intro X hP hw hK hc i pins s σ H E I hf st hg
    subst hP hw hK
    obtain ⟨⟨old, he⟩, hit, hne, hai, hea⟩ := st
    obtain ⟨xs, x, hq, hx⟩ := hg
    obtain ⟨its, rv, p, hz⟩ := I.tuple hq
    obtain ⟨u, hu, ru⟩ := rv.get hx
    have hel : e < s.heap.objs.size := Heap.lt_size he
    have hil : it < s.heap.objs.size := by
      obtain ⟨_, q, _⟩ := hit
      exact Heap.lt_size q
    have D := Draws.tuple (prog := X.prog) (w := X.w) (A := X.A.in1) (I.ok.hd hc) it a hai its.toArray
    have hlt : i < its.toArray.size := by
      have := (List.getElem?_eq_some_iff.mp hu).1
      simpa using this
    refine wpAny_pyNext_enum_itemD D he ⟨hit, p⟩ hlt hne (by simp [hne, hea]) fun y h' tk hy ho hst' hT hsz hk => ?_
    have ey : y = u := by
      have h1 : its.toArray[i]? = some u := by simpa using hu
      have h2 : its.toArray[i]? = some y := hy
      rw [h1] at h2
      exact (Option.some.inj h2).symm
    subst ey
    refine ⟨_, rfl, wpAny_letOwnedTupleGo_enum (s := { s with heap := h', toks := tk + 1 }) ho fun h'' he' sb => ?_⟩
    have hT2 : h''.get? s.heap.objs.size = some { cls := .type "tuple", data := .seq #[.int i tk, y] } := (sb.2 _ (Nat.ne_of_gt hel)).trans hT
    have nw : ObjOk X.prog X.w (upd H s.heap.objs.size (.tup [.int (i : Nat), x])) h'' s.heap.objs.size (.tup [.int (i : Nat), x]) :=
      ⟨by show 2 ≤ sizeLine; decide, [.int i tk, y], .cons ⟨_, rfl⟩ (.cons ru .nil), ⟨_, hT2, rfl, _, rfl⟩⟩
    have J : Inv X pins σ (upd H s.heap.objs.size (.tup [.int (i : Nat), x])) { s with heap := h'', toks := tk + 1 } :=
      I.turnedNew (ch := [e, it]) (fun b ob hb q => (sb.2 b (fun z => hb (by simp [z]))).trans (hk b ob (fun z => hb (by simp [z])) (fun z => hb (by simp [z])) q)) hf (Nat.le_refl _) nw
    refine ⟨.ref s.heap.objs.size, _, J, rfl, ⟨_, x, rfl, I.hok.fresh (Nat.le_refl _), rfl, fun ys hy => by rw [I.tuple_inj hy hq]; exact hx⟩, ⟨⟨y, ?_⟩, hst'.1.at fun o q => (sb.2 it (Ne.symm hne)).trans q, hne, hai, hea⟩, fun b hb => ?_⟩
    · rw [show ((i + 1 : Nat) : Int) = (i : Int) + 1 by omega]
      exact he'
    · have lt : b < s.heap.objs.size := by
        rcases two_mem hb with z | z
        · rw [z]; exact hel
        · rw [z]; exact hil
      rw [upd_ne (Nat.ne_of_lt lt)]
      exact (hf b hb).1
  done := by
    intro X hP hw hK hc i pins s σ H E I hf st hg
    subst hP hw hK
    obtain ⟨⟨old, he⟩, hit, hne, hai, hea⟩ := st
    obtain ⟨xs, hq, hx⟩ := hg
    obtain ⟨its, rv, p, hz⟩ := I.tuple hq
    obtain ⟨f0, f1, f2, f3, f4, f5⟩ := hf it (by simp)
    have D := Draws.tuple (prog := X.prog) (w := X.w) (A := X.A.in1) (I.ok.hd hc) it a hai its.toArray
    have hsz : its.toArray.size = i := by
      have := rv.length
      rw [List.size_toArray, ← this]
      exact hx
    exact wpAny_pyNext_enum_endD D he ⟨by rw [hsz]; exact hit, p⟩ fun h' eb => ⟨rfl, I.turned (t' := s.toks) (fun b o hb q => eb b o hb q) f0 f1 f3 f4 f5⟩
  self := fun A i s Q E st h => by
    obtain ⟨⟨_, he⟩, _⟩ := st
    exact wpAny_pyIter_enum he h
/-- enumerate(e), e a tuple -/
def iEnumT (K : Fg) (ta : TA) : TI := fun σ H R => ta σ H fun vs H1 => ∃ a xs, vs = [.ref a] ∧ SqT K H1 a xs ∧ R (ItEt K a) H1
theorem pi_enumT {X : Cx} {e : Expr} {ta : TA} {p pos tpos : Pos} {elts : List Expr} {kk : Nat} (hg : Gl X "enumerate") (hm : X.mg "enumerate" = none) (ha : PA X [e] ta) (hs : starEach [e] X.env = [(false, eval e X.env)]) :
    PI X (.Tuple elts kk tpos) (.Call (.Name "enumerate" p) [e] [] pos) (iEnumT X.K ta) := by
  refine ⟨fun pins s σ H R I z => ?_⟩
  refine Call_ (ld_blt I hg hm boot_enumerate (PyProof.Rows.callWith_type1 (thn (ha.run pos pins s σ H _ I z) fun us s1 ⟨vs, H1, I1, r1, q1⟩ => ?_) hs rfl))
  obtain ⟨a, xs, rfl, hq, q⟩ := q1
  cases r1 with
  | cons r rr =>
    cases rr
    cases r
    obtain ⟨its, rv, p', hz⟩ := I1.tuple hq
    refine enumCall1 (begins_tuple a its.toArray) p' fun h' he hit hsz hk => wpAny_pyIter_enum he ?_
    have I2 : Inv X pins σ H1 { s1 with heap := h' } := I1.kept (t' := s1.toks) hk
    have al : a < s1.heap.objs.size := by
      obtain ⟨o, e1, _⟩ := p'
      exact Heap.lt_size e1
    refine ⟨s1.heap.objs.size + 1, [s1.heap.objs.size + 1, s1.heap.objs.size], _, _, H1, rfl, I2, turn_enumT a (s1.heap.objs.size + 1) s1.heap.objs.size, ⟨⟨.none, he⟩, ⟨_, hit, rfl, rfl⟩, Nat.succ_ne_self _, Nat.ne_of_lt al, ?_⟩, fun b hb => ?_, q⟩
    · intro z
      have : s1.heap.objs.size + 1 < s1.heap.objs.size := by rw [z]; exact al
      exact absurd this (Nat.not_lt.mpr (Nat.le_succ _))
    · have ge : s1.heap.objs.size ≤ b := by
        rcases two_mem hb with z | z
        · rw [z]; exact Nat.le_succ _
        · rw [z]; exact Nat.le_refl _
      exact I1.fpOk ge (I1.hok.fresh ge)
def enD (xs : List D) : List D := xs.zipIdx.map fun p => .tup [.int (p.2 : Nat), p.1]
def dItE (t : TDE) : TDI := fun ds h P Z => dD t ds h (fun d h' => ∃ xs, d = .tup xs ∧ P (enD xs) h') Z
section
variable {X : Cx} {C : Cn} {Wx : WX}
theorem relDs_mkstrs {K : Fg} {R : Rg} {H : Hp} {α : Type} (f : α → Str) : ∀ (ns : List α), RelDs K R H (ns.map fun c => D.str (f c)) (ns.map fun c => V.str (f c))
  | [] => m_nil
  | n :: ns => m_cons m_str (relDs_mkstrs f ns)
theorem relDs_rev {K : Fg} {R : Rg} {H : Hp} : ∀ {ds : List D} {vs : List V}, RelDs K R H ds vs → RelDs K R H ds.reverse vs.reverse
  | [], vs, r => by cases r_nil r; exact m_nil
  | d :: ds, vs, r => by
    obtain ⟨v, q, rfl, r1, r2⟩ := r_cons r
    rw [List.reverse_cons, List.reverse_cons]
    exact relDs_append (relDs_rev r2) (relDs_one r1)
theorem di_en {elts : List Expr} {kk : Nat} {tp : Pos} {e : Expr} {t : TDE} {p pos : Pos} (hK : C.K = X.K) (hg : Gl X "enumerate") (hm : X.mg "enumerate" = none) (ha : PE X e (lift C Wx t)) (hs : starEach [e] X.env = [(false, eval e X.env)]) : PI X (.Tuple elts kk tp) (.Call (.Name "enumerate" p) [e] [] pos) (liftI C Wx (dItE t)) :=
  (pi_enumT hg hm (pa_cons (pe_D ha) pa_nil hs) hs).imD fun σ H Q q => by
    obtain ⟨R, ds, h, P, Z, e, p, k, z⟩ := q
    refine ⟨R, ds, h, _, Z, e, p, fun R' H' h' d v ⟨xs, hd, p'⟩ x e' r => ?_, z⟩
    subst hd
    obtain ⟨a, vs, rfl, sq, t⟩ := r_tup r
    refine ⟨a, vs, rfl, sq.sq, k R' H' h' _ _ p' x e' ?_⟩
    rw [← hK]
    have hl : (enD xs).length = xs.length := by unfold enD; simp
    refine ⟨fun i R2 H2 m hi => ⟨vs, vs[i]'(by rw [← relDs_len t, ← hl]; exact hi), (m.tup _ _ sq).sq, by simp⟩, fun R2 H2 m => ⟨vs, (m.tup _ _ sq).sq, by rw [hl, relDs_len t]⟩, fun i R2 H2 v H3 d ds σ h m e2 hd y => ?_⟩
    obtain ⟨T, y, rfl, nT, rfl, hy⟩ := y
    have hi : i < xs.length := by rw [← hl]; exact (List.getElem?_eq_some_iff.mp hd).1
    have ed : d = .tup [.int (i : Nat), xs[i]] := by
      unfold enD at hd
      rw [List.getElem?_map, List.getElem?_zipIdx, List.getElem?_eq_getElem hi] at hd
      simp at hd
      exact hd.symm
    subst ed
    obtain ⟨u, hu, ru⟩ := relDs_get t (List.getElem?_eq_getElem hi)
    have := hy vs (m.tup _ _ sq).sq
    rw [hu] at this
    cases this
    refine ⟨Ex.fresh nT, e2.fresh nT, m_tup upd_same (m_cons m_int (m_cons (relD_ex e2.ok (Ex.fresh nT) (relD_mo m ru)) m_nil))⟩
end
end DL
set_option maxHeartbeats 8000000
namespace DL
open PySem PySem.Spec PyProof.Rows L2
/-- the text x, each sign in a new pair -/
def ItEs (x : Str) : It :=
  ⟨fun i _ => i < x.cps.size, fun i H v H' => ∃ T c, v = .ref T ∧ H T = none ∧ H' = upd H T (.tup [.int (i : Nat), .str ⟨#[c]⟩]) ∧ x.cps[i]? = some c, fun i _ => x.cps.size = i⟩
theorem turn_enumS {P : Program} {w : World} {K : Fg} {elts : List Expr} {kk : Nat} {tpos : Pos} {x : Str} {t : Tok} (e it : Addr) :
    Turn P w K (.Tuple elts kk tpos) (ItEs x) [e, it] e (fun i h => (∃ old, IsEnum h e it ((i : Nat) : Int) old) ∧ h.IsStrIter it (strIterType x) x t i ∧ e ≠ it) where
  mem := by simp
  obj := fun i h st b hb => by
    obtain ⟨⟨old, he⟩, hit, _⟩ := st
    rcases two_mem hb with z | z
    · exact ⟨_, by rw [z]; exact he, fun v q => by cases q⟩
    · obtain ⟨o, ho, hc, hd⟩ := hit
      exact ⟨o, by rw [z]; exact ho, fun v q => by rw [hd] at q; cases q⟩
  keep := fun i h h' st k => by
    obtain ⟨⟨old, he⟩, hi, hn⟩ := st
    obtain ⟨o, a1, a2, a3⟩ := hi
    exact ⟨⟨old, k e (by simp) _ he⟩, ⟨o, k it (by simp) o a1, a2, a3⟩, hn⟩
  item := by
    intro X hP hw hK hc i pins s σ H E I hf st hg
    subst hP hw hK
    obtain ⟨⟨old, he⟩, hit, hne⟩ := st
    have hg : i < x.cps.size := hg
    have hel : e < s.heap.objs.size := Heap.lt_size he
    have hil : it < s.heap.objs.size := by
      obtain ⟨_, q, _⟩ := hit
      exact Heap.lt_size q
    have D := Draws.text (prog := X.prog) (w := X.w) (A := X.A.in1) (I.ok.hd hc) it x t
    refine wpAny_pyNext_enum_itemD D he hit hg hne (by simp [hne]) fun y h' tk hy ho hst' hT hsz hk => ?_
    obtain ⟨c, u, hcx, rfl⟩ := hy
    refine ⟨_, rfl, wpAny_letOwnedTupleGo_enum (s := { s with heap := h', toks := tk + 1 }) ho fun h'' he' sb => ?_⟩
    have hT2 : h''.get? s.heap.objs.size = some { cls := .type "tuple", data := .seq #[.int i tk, .str ⟨#[c]⟩ u] } := (sb.2 _ (Nat.ne_of_gt hel)).trans hT
    have nw : ObjOk X.prog X.w (upd H s.heap.objs.size (.tup [.int (i : Nat), .str ⟨#[c]⟩])) h'' s.heap.objs.size (.tup [.int (i : Nat), .str ⟨#[c]⟩]) :=
      ⟨by show 2 ≤ sizeLine; decide, [.int i tk, .str ⟨#[c]⟩ u], .cons ⟨_, rfl⟩ (.cons ⟨_, rfl⟩ .nil), ⟨_, hT2, rfl, _, rfl⟩⟩
    have J : Inv X pins σ (upd H s.heap.objs.size (.tup [.int (i : Nat), .str ⟨#[c]⟩])) { s with heap := h'', toks := tk + 1 } :=
      I.turnedNew (ch := [e, it]) (fun b ob hb q => (sb.2 b (fun z => hb (by simp [z]))).trans (hk b ob (fun z => hb (by simp [z])) (fun z => hb (by simp [z])) q)) hf (Nat.le_refl _) nw
    refine ⟨.ref s.heap.objs.size, _, J, rfl, ⟨_, c, rfl, I.hok.fresh (Nat.le_refl _), rfl, hcx⟩, ⟨⟨.str ⟨#[c]⟩ u, ?_⟩, by obtain ⟨o, a1, a2, a3⟩ := hst'; exact ⟨o, (sb.2 it (Ne.symm hne)).trans a1, a2, a3⟩, hne⟩, fun b hb => ?_⟩
    · rw [show ((i + 1 : Nat) : Int) = (i : Int) + 1 by omega]
      exact he'
    · have lt : b < s.heap.objs.size := by
        rcases two_mem hb with z | z
        · rw [z]; exact hel
        · rw [z]; exact hil
      rw [upd_ne (Nat.ne_of_lt lt)]
      exact (hf b hb).1
  done := by
    intro X hP hw hK hc i pins s σ H E I hf st hg
    subst hP hw hK
    obtain ⟨⟨old, he⟩, hit, hne⟩ := st
    have hg : x.cps.size = i := hg
    obtain ⟨f0, f1, f2, f3, f4, f5⟩ := hf it (by simp)
    have D := Draws.text (prog := X.prog) (w := X.w) (A := X.A.in1) (I.ok.hd hc) it x t
    exact wpAny_pyNext_enum_endD D he (by rw [hg]; exact hit) fun h' eb => ⟨rfl, I.turned (t' := s.toks) (fun b o hb q => eb b o hb q) f0 f1 f3 f4 f5⟩
  self := fun A i s Q E st h => by
    obtain ⟨⟨_, he⟩, _⟩ := st
    exact wpAny_pyIter_enum he h
/-- enumerate(e), e a text -/
def iEnumS (ta : TA) : TI := fun σ H R => ta σ H fun vs H1 => ∃ x : Str, vs = [.str x] ∧ R (ItEs x) H1
theorem pi_enumS {X : Cx} {e : Expr} {ta : TA} {p pos tpos : Pos} {elts : List Expr} {kk : Nat} (hg : Gl X "enumerate") (hm : X.mg "enumerate" = none) (ha : PA X [e] ta) (hs : starEach [e] X.env = [(false, eval e X.env)]) :
    PI X (.Tuple elts kk tpos) (.Call (.Name "enumerate" p) [e] [] pos) (iEnumS ta) := by
  refine ⟨fun pins s σ H R I z => ?_⟩
  refine Call_ (ld_blt I hg hm boot_enumerate (PyProof.Rows.callWith_type1 (thn (ha.run pos pins s σ H _ I z) fun us s1 ⟨vs, H1, I1, r1, q1⟩ => ?_) hs rfl))
  obtain ⟨x, rfl, q⟩ := q1
  cases r1 with
  | cons r rr =>
    cases rr
    obtain ⟨t, rfl⟩ := r
    refine enumCall1 (begins_text x t) trivial fun h' he hit hsz hk => wpAny_pyIter_enum he ?_
    have I2 : Inv X pins σ H1 { s1 with heap := h' } := I1.kept (t' := s1.toks) hk
    refine ⟨s1.heap.objs.size + 1, [s1.heap.objs.size + 1, s1.heap.objs.size], _, _, H1, rfl, I2, turn_enumS (x := x) (t := t) (s1.heap.objs.size + 1) s1.heap.objs.size, ⟨⟨.none, he⟩, ⟨_, hit, rfl, rfl⟩, Nat.succ_ne_self _⟩, fun b hb => ?_, q⟩
    have ge : s1.heap.objs.size ≤ b := by
      rcases two_mem hb with z | z
      · rw [z]; exact Nat.le_succ _
      · rw [z]; exact Nat.le_refl _
    exact I1.fpOk ge (I1.hok.fresh ge)
def dItES (t : TDE) : TDI := fun ds h P Z => dD t ds h (fun d h' => ∃ x : Str, d = .str x ∧ P (enD (x.cps.toList.map fun c => .str ⟨#[c]⟩)) h') Z
def dItEL (t : TDE) : TDI := fun ds h P Z => dD t ds h (fun d h' => ∃ xs, (d = .lst xs ∨ d = .fro xs) ∧ P (enD xs) h') Z
theorem enD_len {xs : List D} : (enD xs).length = xs.length := by unfold enD; simp
theorem enD_get {xs : List D} {i : Nat} {d : D} (h : (enD xs)[i]? = some d) : ∃ y, xs[i]? = some y ∧ d = .tup [.int (i : Nat), y] := by
  have hi : i < xs.length := by rw [← enD_len]; exact (List.getElem?_eq_some_iff.mp h).1
  unfold enD at h
  rw [List.getElem?_map, List.getElem?_zipIdx, List.getElem?_eq_getElem hi] at h
  simp at h
  exact ⟨xs[i], List.getElem?_eq_getElem hi, h.symm⟩
section
variable {X : Cx} {C : Cn} {Wx : WX}
theorem di_ens {elts : List Expr} {kk : Nat} {tp : Pos} {e : Expr} {t : TDE} {p pos : Pos} (hg : Gl X "enumerate") (hm : X.mg "enumerate" = none) (ha : PE X e (lift C Wx t)) (hs : starEach [e] X.env = [(false, eval e X.env)]) : PI X (.Tuple elts kk tp) (.Call (.Name "enumerate" p) [e] [] pos) (liftI C Wx (dItES t)) :=
  (pi_enumS hg hm (pa_cons (pe_D ha) pa_nil hs) hs).imD fun σ H Q q => by
    obtain ⟨R, ds, h, P, Z, e, p, k, z⟩ := q
    refine ⟨R, ds, h, _, Z, e, p, fun R' H' h' d v ⟨x, hd, p'⟩ x' e' r => ?_, z⟩
    subst hd
    cases r_str r
    refine ⟨x, rfl, k R' H' h' _ _ p' x' e' ?_⟩
    have hl : (enD (x.cps.toList.map fun c => D.str ⟨#[c]⟩)).length = x.cps.size := by rw [enD_len]; simp
    refine ⟨fun i R2 H2 m hi => by show i < x.cps.size; rw [← hl]; exact hi, fun R2 H2 m => hl.symm, fun i R2 H2 v H3 d ds σ h m e2 hd y => ?_⟩
    obtain ⟨T, c, rfl, nT, rfl, hy⟩ := y
    obtain ⟨y, hy2, rfl⟩ := enD_get hd
    have : y = .str ⟨#[c]⟩ := by
      rw [List.getElem?_map] at hy2
      have e3 : x.cps.toList[i]? = some c := by simpa using hy
      rw [e3] at hy2
      exact (Option.some.inj hy2).symm
    subst this
    exact ⟨Ex.fresh nT, e2.fresh nT, m_tup upd_same (m_cons m_int (m_cons m_str m_nil))⟩
theorem di_enl {elts : List Expr} {kk : Nat} {tp : Pos} {e : Expr} {t : TDE} {p pos : Pos} (hK : C.K = X.K) (hg : Gl X "enumerate") (hm : X.mg "enumerate" = none) (ha : PE X e (lift C Wx t)) (hs : starEach [e] X.env = [(false, eval e X.env)]) : PI X (.Tuple elts kk tp) (.Call (.Name "enumerate" p) [e] [] pos) (liftI C Wx (dItEL t)) :=
  (pi_enum hg hm (pa_cons (pe_D ha) pa_nil hs) hs).imD fun σ H Q q => by
    obtain ⟨R, ds, h, P, Z, e, p, k, z⟩ := q
    refine ⟨R, ds, h, _, Z, e, p, fun R' H' h' d v ⟨xs, hd, p'⟩ x e' r => ?_, z⟩
    have src : ∀ a vs, (∀ R2 H2, Mo C.K R' H' R2 H2 → SqL C.K H2 a vs) → RelDs C.K R' H' xs vs → Src C R' H' (enD xs) (Ite X.K a) := fun a vs st t => by
      rw [← hK]
      have hl : (enD xs).length = xs.length := enD_len
      refine ⟨fun i R2 H2 m hi => ⟨vs, vs[i]'(by rw [← relDs_len t, ← hl]; exact hi), st R2 H2 m, by simp⟩, fun R2 H2 m => ⟨vs, st R2 H2 m, by rw [hl, relDs_len t]; exact Nat.le_refl _⟩, fun i R2 H2 v H3 d ds σ h m e2 hd y => ?_⟩
      obtain ⟨T, y, rfl, nT, rfl, hy⟩ := y
      obtain ⟨d0, hd0, rfl⟩ := enD_get hd
      obtain ⟨u, hu, ru⟩ := relDs_get t hd0
      have := hy vs (st R2 _ m)
      rw [hu] at this
      cases this
      exact ⟨Ex.fresh nT, e2.fresh nT, m_tup upd_same (m_cons m_int (m_cons (relD_ex e2.ok (Ex.fresh nT) (relD_mo m ru)) m_nil))⟩
    rcases hd with rfl | rfl
    · obtain ⟨a, vs, rfl, q, t⟩ := r_lst r
      exact ⟨a, vs, rfl, hK ▸ q.sq, k R' H' h' _ _ p' x e' (src a vs (fun R2 H2 m => (m.lst _ _ q).sq) t)⟩
    · obtain ⟨a, vs, rfl, q, t⟩ := r_fro r
      exact ⟨a, vs, rfl, hK ▸ q.sq, k R' H' h' _ _ p' x e' (src a vs (fun R2 H2 m => (m.fro _ _ q).sq) t)⟩
end
end DL
set_option maxHeartbeats 8000000
namespace DL
open PySem PySem.Spec PyProof.Rows L2
abbrev TDW := DSt → Hs → (List W → Hs → Prop) → XD → Prop
def dNilW : TDW := fun _ h P _ => P [] h
def dConsW (t : TDE) (u : TDW) : TDW := fun ds h P Z => t ds h (fun x h1 => u ds h1 (fun xs h2 => P (x :: xs) h2) Z) Z
section
variable {K : Fg} {R R' : Rg} {H H' H₁ : Hp}
end
section
variable {X : Cx} {C : Cn} {Wx : WX}
end
end DL
set_option maxHeartbeats 4000000
namespace DL
open PySem PySem.Spec PyProof.Rows L2
/-- a call of the lambda's function at f, at any later state -/
def ActOk (P : Program) (w : World) (K : Fg) (mg : Str → Option Value) (base : Heap) (gd : Bool) (k : Nat) (fr : List Addr) (H : Hp) (s : Shared) (f : Addr) (tl : XK → Hp → VK → Prop) : Prop :=
  ∀ (A : Around) (outer : List PySem.Env) (t : Shared) (G : Hp) (Q : VK) (E : XK), Room k A → Gd gd A → Env0 P w K mg base A outer t G → Un fr [] H G s.heap t.heap → tl E G Q →
    codeAny (model P w) A (.call (.ref f) ⟨[], []⟩) (CR (CX K P w) outer P w G t Q E) t
/-- the context of a lambda's body -/
abbrev lamCxh (X : Cx) (A : Around) (outer : List PySem.Env) (s : Shared) (H : Hp) (E : XK) (scope : Scope) (f c' : Addr) : Cx := (LamX.lamCx X A outer s H E scope f c').wish fun e s' => wpAny (model X.prog X.w) (A.deeper (LamX.lamEnv X scope s.heap.objs.size f c')) (leaving (LamX.lamEnv X scope s.heap.objs.size f c') e) (fun _ s'' => CX X.K X.prog X.w outer H s E e s'') (fun e' s'' => CX X.K X.prog X.w outer H s E e' s'') s'
section
variable {X : Cx} {pins : List (Addr × Obj)} {σ : Sl} {H : Hp} {s : Shared}
theorem act_ok {f c : Addr} {pm ctv : Value} {params : Arguments} {body : Expr} {scope : Scope} {k : Nat} {gd : Bool} {tb : XK → TE} (I : Inv X pins σ H s) (L : LamX.LamS X.env.scope scope)
    (hf : s.heap.get? f = some (PySem.W.kla_obj "<lambda>" (X.env.qual ++ "<lambda>") params body scope (cloFrom X.env.cells scope.names []) pm c ctv)) (hn : H f = none) (hfr : f ∉ frs X.stack)
    (hbd : bindArgs (PySem.W.kla_fn "<lambda>" (X.env.qual ++ "<lambda>") params body scope (cloFrom X.env.cells scope.names []) pm (.ref c) ctv) ⟨[], []⟩ = pure [])
    (hb : ∀ (A : Around) (outer : List PySem.Env) (t : Shared) (G : Hp) (E : XK), Room k (A.deeper (LamX.lamEnv X scope t.heap.objs.size f c)) → Gd gd A → PE (lamCxh X A outer t G E scope f c) body (tb E)) :
    ActOk X.prog X.w X.K X.mg X.base gd (k + 1) (frs X.stack) H s f (fun E G Q => G c = some (LamX.CodeO c (X.env.qual ++ "<lambda>")) ∧ tb E σ G Q) := by
  intro A outer t G Q E hr hg e0 un ⟨hc, ht⟩
  have ft := un.keep f _ hf hn hfr (fun z => nomatch z)
  obtain ⟨⟨oc, us, tk, oc1, oc2, oc3⟩, _⟩ := e0.hok c _ hc
  have nol : t.heap.NoLimit := e0.mod.nolimit.keeps fun b o z => (e0.bs b o z).1
  refine PySem.W.kla_callFunE hr.depth ft rfl L.co L.gen rfl ⟨c, oc, us, tk, rfl, oc1, oc2, oc3⟩ ?_
  rw [hbd]
  refine wpAny_pure (wpAny_newFunctionEnv (fun y hy => (L.own y hy).2) (fun y hy => nomatch hy) (fun g1 n1 n2 => ⟨nol.fresh _ n2, ?_⟩) L.kind)
  have kp : ∀ b o, t.heap.get? b = some o → g1.get? b = some o := fun b o z => n2.extBut b o (Nat.ne_of_lt (Heap.lt_size z)) (Heap.get?_push_of_some _ z)
  have J := LamX.lam_start2 (tk := t.toks + ([] : List (Str × Value)).length) (E := E) (f := f) (c' := c) I L e0 hr.hd un n1 kp |>.wish (fun e s' => wpAny (model X.prog X.w) (A.deeper (LamX.lamEnv X scope t.heap.objs.size f c)) (leaving (LamX.lamEnv X scope t.heap.objs.size f c) e) (fun _ s'' => CX X.K X.prog X.w outer G t E e s'') (fun e' s'' => CX X.K X.prog X.w outer G t E e' s'') s')
  refine PySem.W.kla_codeExpr (wpAny_mono ((hb A outer t G E (hr.deeper _) hg).run [] _ _ G Q J ht) (fun v s' z => ?_) fun _ _ z => z)
  obtain ⟨u, G', J', ru, zq⟩ := z
  exact ⟨u, G', J'.os, J'.bare, J'.base, J'.hok, ru, zq⟩
/-- x(): the slot i holds the lambda's function -/
theorem pe_actG {Z : Cx} {gd : Bool} {k i : Nat} {x : Str} {f : Addr} {tl : XK → Hp → VK → Prop} {Wx : WX} {p1 p2 : Pos} {o : Obj} (hact : ActOk Z.prog Z.w Z.K Z.mg Z.base gd k (frs Z.outer) Z.H_0 Z.s_0 f tl) (hex : Z.ex = []) (hr : Room k Z.A) (hg : Gd gd Z.A) (tk : Takes Z Wx)
    (hfo : Z.s_0.heap.get? f = some o) (hfd : ∃ fd, o.data = .func fd) (hfn : Z.H_0 f = none) (hff : f ∉ frs Z.outer) (hN : Z.N[i]? = some x) (hv : Vis Z.env.scope x) (hd : (x == ("__debug__" : Str)) = false) (hcd : (x == ("__classdict__" : Str)) = false) :
    PE Z (.Call (.Name x p1) [] [] p2) (fun σ H Q => σ[i]? = some (some (.ref f)) ∧ tl (atS Wx σ) H Q) := by
  refine ⟨fun pins s σ H Q I h => ?_⟩
  obtain ⟨h1, h3⟩ := h
  refine wpAny_Call_Name_kw (thn ((pe_var (pos := p1) (i := i) hN hv hd hcd).run pins s σ H (fun v G => v = .ref f ∧ G = H) I ⟨.ref f, h1, rfl, rfl⟩) fun u t ⟨v, G, J, ru, ev, eg⟩ => ?_)
  subst ev eg
  cases (show u = Value.ref f from ru)
  have un : Un (frs Z.outer) [] Z.H_0 G Z.s_0.heap t.heap := by
    have b := J.base
    rw [hex] at b
    exact b
  have ft := un.keep f _ hfo hfn hff (fun z => nomatch z)
  obtain ⟨fd, hfd⟩ := hfd
  obtain ⟨oc, od, dt, sl⟩ := o
  cases (show dt = _ from hfd)
  refine PySem.W.callWith_F0 ⟨_, _, _, _, ft⟩ ?_
  refine wpAny_call (codeAny_mono (hact Z.A Z.stack t G Q (atS Wx σ) hr hg J.env0 un h3) fun r t2 z => ?_)
  cases r with
  | error e => exact tk e t2 (XE.of_call J (fun _ _ _ h => h) z)
  | ok fl =>
    cases fl with
    | ret u => exact J.after z
    | next => exact z.elim
    | brk => exact z.elim
    | cont => exact z.elim
/-- the lambda is made: as the library's, and what was told of stays told of -/
theorem lam_mk {T : List (Addr × Str)} {cd Pt : Addr} {params : Arguments} {body : Expr} {scope : Scope} {pos : Pos} {E Q : Value → Shared → Prop} (I : Inv X pins σ H s) (TB : LamX.TabB X.base X.mg cd Pt) (hcd : X.env.code = .ref cd) (hin : (Pt, X.env.qual ++ "<lambda>") ∈ T) (hone : ∀ y ∈ T, y.1 = Pt → y.2 = X.env.qual ++ "<lambda>")
    (hT : LamX.Tabs T H) (hdf : defaultsOf params X.env = ([], [])) (hfr : ∀ y ∈ scope.names, y.2 = .free → ∃ c, X.env.cells.lookup y.1 = some c)
    (fin : ∀ (f c : Addr) (pm ctv : Value) (G : Hp) (t : Shared), Inv X pins σ G t → LamX.ExtN H G → (∀ b, G b = none → H b = none) → LamX.Tabs T G → t.heap.get? f = some (PySem.W.kla_obj "<lambda>" (X.env.qual ++ "<lambda>") params body scope (cloFrom X.env.cells scope.names []) pm c ctv) → G f = none → f ∉ frs X.stack → G c = some (LamX.CodeO c (X.env.qual ++ "<lambda>")) → Q (.ref f) t) :
    wpAny (model X.prog X.w) X.A (eval (.Lambda params body scope pos) X.env) Q E s := by
  obtain ⟨row, h1, h2, h3⟩ := hT _ hin
  refine PySem.W.kla_eval hdf ?_
  have tabAt := I.hok Pt _ h1
  have bAt : s.heap.BuiltinsAt X.mg Pt := TB.bm.keeps I.bk
  have gAt := I.mod.glob.keeps I.bk
  have cAt := TB.code.keeps I.bk
  have out : ∀ f, s.heap.objs.size ≤ f → f ∉ frs X.stack := fun f hf z => by
    rcases List.mem_cons.mp (I.stkSub _ z) with y | y
    · exact absurd (y ▸ I.lt) (Nat.not_lt.mpr hf)
    · exact I.nofs hf y
  cases look : codeAmong pos row.toList with
  | some cv =>
    obtain ⟨c, rfl, hc⟩ := h3 pos cv look
    refine PySem.W.kla_makeFunctionHit (mg := X.mg) (c := cd) (P := Pt) (ps := row) (closure_ok hfr) I.ok.glob gAt hcd cAt tabAt h2 look bAt fun ctv g tk gx gsz => ?_
    refine fin g.objs.size c ((X.mg "__name__").getD .none) ctv H _ (I.kept fun b o z => Heap.get?_push_of_some _ (gx b o z)) (LamX.ExtN.refl H) (fun _ z => z) hT (Heap.get?_push_size _ rfl) (I.hok.fresh gsz) (out _ gsz) hc
  | none =>
    refine PySem.W.kla_makeFunction (mg := X.mg) (c := cd) (P := Pt) (ps := row) (closure_ok hfr) I.ok.glob gAt hcd cAt tabAt h2 look TB.gP bAt fun c ctv g tk gx ge gl gr gt => ?_
    obtain ⟨c2, oc, us, tq, ec, g1, g2, g3⟩ := gr
    cases ec
    have sz : s.heap.objs.size ≤ g.objs.size := Nat.le_trans ge (Nat.le_of_lt gl)
    have nc : H c = none := I.hok.fresh ge
    have J := LamX.inv_table (t' := tk) (more := #[rawInt pos.line, rawInt pos.col, .ref c]) (h' := g.push (PySem.W.kla_obj "<lambda>" (X.env.qual ++ "<lambda>") params body scope (cloFrom X.env.cells scope.names []) ((X.mg "__name__").getD .none) c ctv)) I h1
      (fun b o hb z => Heap.get?_push_of_some _ (gx b o hb z)) (Heap.get?_push_of_some _ gt) ge ⟨oc, us, tq, Heap.get?_push_of_some _ g1, g2, g3⟩
    have neP : ∀ b o, H b = some o → (∀ ps, o ≠ .tbl ps) → b ≠ Pt := fun b o z n y => n row (Option.some.inj (z.symm.trans (by rw [y]; exact h1)))
    have ext : LamX.ExtN H (upd (upd H Pt (.tbl (row ++ #[rawInt pos.line, rawInt pos.col, .ref c]))) c (LamX.CodeO c (X.env.qual ++ "<lambda>"))) := fun b o z n => by
      rw [upd_ne (ne_of_none z nc), upd_ne (neP b o z n)]; exact z
    have lst : (row ++ #[rawInt pos.line, rawInt pos.col, .ref c]).toList = row.toList ++ [rawInt pos.line, rawInt pos.col, .ref c] := by simp
    have nPc : Pt ≠ c := ne_of_none h1 nc
    have nfP : g.objs.size ≠ Pt := Nat.ne_of_gt (Nat.lt_of_lt_of_le (Heap.lt_size (show s.heap.get? Pt = some _ from tabAt)) sz)
    refine fin g.objs.size c ((X.mg "__name__").getD .none) ctv _ _ J ext (fun b z => ?_) (fun y hy => ?_) (Heap.get?_push_size _ rfl) ?_ (out _ sz) upd_same
    · by_cases y1 : b = c
      · rw [y1]; exact nc
      · rw [upd_ne y1] at z
        by_cases y2 : b = Pt
        · rw [y2, upd_same] at z; cases z
        · rw [upd_ne y2] at z; exact z
    · by_cases yb : y.1 = Pt
      · rw [hone y hy yb, yb]
        refine ⟨_, by rw [upd_ne nPc, upd_same], by rw [lst]; exact PySem.TriplesOk_snoc _ _ _ _ h2, fun p cv z => ?_⟩
        rw [lst] at z
        rcases LamX.among_app _ h2 z with u | u
        · obtain ⟨c0, e1, e2⟩ := h3 p cv u
          exact ⟨c0, e1, ext _ _ e2 LamX.codeO_ne⟩
        · exact ⟨c, u, upd_same⟩
      · obtain ⟨r2, a1, a2, a3⟩ := hT y hy
        refine ⟨r2, by rw [upd_ne (ne_of_none a1 nc), upd_ne yb]; exact a1, a2, fun p cv z => ?_⟩
        obtain ⟨c0, e1, e2⟩ := a3 p cv z
        exact ⟨c0, e1, ext _ _ e2 LamX.codeO_ne⟩
    · rw [upd_ne (Nat.ne_of_gt gl), upd_ne nfP]; exact I.hok.fresh sz
abbrev ActD := Hs → (D → Hs → Prop) → XD → Prop
abbrev HFn := ActD → Hs → (D → Hs → Prop) → XD → Prop
/-- the lambda's reading over trees, at any later state: R, H: where it was made -/
def tlD (K : Fg) (Cl : Cm) (R : Rg) (H : Hp) (act : ActD) : XK → Hp → VK → Prop := fun E G Q => ∃ R' h' Pd Zd, HOk' K Cl R' G h' ∧ Ex R H R' G ∧ act h' Pd Zd ∧
  (∀ R2 G2 h2 d v, Pd d h2 → Ex R' G R2 G2 → HOk' K Cl R2 G2 h2 → RelD K R2 G2 d v → Q v G2) ∧ (∀ R2 G2 h2 x cls dd, Zd x h2 → Ex R' G R2 G2 → HOk' K Cl R2 G2 h2 → RelX ⟨K, Cl, R', G⟩ R2 G2 x cls dd → E cls dd G2)
theorem ActOk.imp {P : Program} {w : World} {K : Fg} {mg : Str → Option Value} {base : Heap} {gd : Bool} {k : Nat} {fr : List Addr} {f : Addr} {tl tl' : XK → Hp → VK → Prop} (a : ActOk P w K mg base gd k fr H s f tl) (h : ∀ E G Q, tl' E G Q → tl E G Q) : ActOk P w K mg base gd k fr H s f tl' :=
  fun A outer t G Q E hr hg e0 un z => a A outer t G Q E hr hg e0 un (h E G Q z)
def dAct (i : Nat) (a : Addr → ActD) : TDE := fun ds h P Z => ∃ f, ds[i]? = some (some (.fn f)) ∧ a f h (fun d h' => P (.d d) h') Z
/-- the reading of the only function that is handed in -/
def onlyA (f : Addr) (act : ActD) : Addr → ActD := fun g h P Z => g = f ∧ act h P Z
def noA : Addr → ActD := fun _ _ _ _ => False
theorem de_act {Z : Cx} {C : Cn} {gd : Bool} {k i : Nat} {x : Str} {f : Addr} {act : ActD} {Wx : WX} {p1 p2 : Pos} {o : Obj} (hK : C.K = Z.K) (hH : C.H₀ = Z.H_0) (hact : ActOk Z.prog Z.w Z.K Z.mg Z.base gd k (frs Z.outer) Z.H_0 Z.s_0 f (tlD C.K C.Cl C.R₀ C.H₀ act)) (hex : Z.ex = []) (hr : Room k Z.A) (hg : Gd gd Z.A) (tk : Takes Z Wx)
    (hfo : Z.s_0.heap.get? f = some o) (hfd : ∃ fd, o.data = .func fd) (hfn : Z.H_0 f = none) (hff : f ∉ frs Z.outer) (hN : Z.N[i]? = some x) (hv : Vis Z.env.scope x) (hd : (x == ("__debug__" : Str)) = false) (hcd : (x == ("__classdict__" : Str)) = false) :
    PE Z (.Call (.Name x p1) [] [] p2) (lift C Wx (dAct i (onlyA f act))) :=
  (pe_actG hact hex hr hg tk hfo hfd hfn hff hN hv hd hcd).imD fun σ G Q q => by
    obtain ⟨R, ds, h, P, Zd, e, ⟨f', hf', ef, p⟩, k, z⟩ := q
    subst ef
    obtain ⟨v, hv, r⟩ := e.slot i _ hf'
    cases (show v = .ref f' from r)
    exact ⟨hv, R, h, _, Zd, e.ok, e.ex, p, fun R2 G2 h2 d v p2 x2 ok2 r2 => k R2 G2 h2 (.d d) v p2 x2 (e.step x2 ok2) r2, fun R2 G2 h2 y cls dd p2 x2 ok2 r2 => z R2 G2 h2 y cls dd p2 x2 (e.step x2 ok2) r2⟩
theorem de_noact {Z : Cx} {C : Cn} {Wx : WX} {e : Expr} {i : Nat} : PE Z e (lift C Wx (dAct i noA)) := ⟨fun pins s σ H Q I q => by
  obtain ⟨R, ds, h, P, Zd, e, ⟨f', hf', p⟩, k, z⟩ := q
  exact p.elim⟩
/-- a def that calls what it is handed -/
structure HoG (P : Program) (w : World) (K : Fg) (mg : Str → Option Value) (base : Heap) (gd : Bool) (k : Nat) (g : Addr) (fd : FuncData) (a : Str) (Cl : Cm) (sp : HFn) : Prop where
  run : ∀ (A : Around) (outer : List PySem.Env) (s : Shared) (H : Hp) (R : Rg) (h : Hs) (f : Addr) (o : Obj) (act : ActD) (Pd : D → Hs → Prop) (Zd : XD) (Q : VK) (E : XK), Room (k + 1) A → Gd gd A → Env0 P w K mg base A outer s H → BindsTo s fd ⟨[.ref f], []⟩ [(a, .ref f)] →
    s.heap.get? f = some o → (∃ fd', o.data = .func fd') → H f = none → f ∉ frs outer → ActOk P w K mg base gd k (frs outer) H s f (tlD K Cl R H act) → HOk' K Cl R H h → sp act h Pd Zd →
    (∀ R' H' h' d v, Pd d h' → Ex R H R' H' → HOk' K Cl R' H' h' → RelD K R' H' d v → Q v H') → (∀ R' H' h' x cls dd, Zd x h' → Ex R H R' H' → HOk' K Cl R' H' h' → RelX ⟨K, Cl, R, H⟩ R' H' x cls dd → E cls dd H') →
    codeAny (model P w) A (.call (.ref g) ⟨[.ref f], []⟩) (CR (CX K P w) outer P w H s Q E) s
def startF (n : Nat) (f : Addr) : DSt := some (.fn f) :: List.replicate (n - 1) none
theorem env_startF {K : Fg} {Cl : Cm} {R : Rg} {H : Hp} {h : Hs} {f : Addr} {N : List Str} (hN : 0 < N.length) (ok : HOk' K Cl R H h) : Env ⟨K, Cl, R, H⟩ R (startF N.length f) (start N [.ref f]) H h := by
  have sl : ∀ (i : Nat) w, (startF N.length f)[i]? = some (some w) → i = 0 ∧ w = .fn f := fun i w q => by
    unfold startF at q
    cases i with
    | zero => simp at q; exact ⟨rfl, q.symm⟩
    | succ i =>
      rw [List.getElem?_cons_succ, List.getElem?_replicate] at q
      split at q <;> cases q
  refine ⟨ok, Ex.refl _ _, by unfold startF L2.start; simp, fun i w q => ?_, fun i xs q => ?_, fun i j xs ys a q => ?_, fun i xs a q => ?_⟩
  · obtain ⟨rfl, rfl⟩ := sl i w q
    exact ⟨.ref f, by unfold L2.start; simp, rfl⟩
  · obtain ⟨_, z⟩ := sl i _ q; cases z
  · obtain ⟨_, z⟩ := sl i _ q; cases z
  · obtain ⟨_, z⟩ := sl i _ q; cases z
section
variable {C : Cn} {Wx : WX}
def dLam (sp : HFn) (tb : TDE) : TDE := fun ds h P Z => sp (fun h' P' Z' => dD tb ds h' P' Z') h (fun d h' => P (.d d) h') Z
theorem de_lam {x a : Str} {g c Pt : Addr} {k : Nat} {gd : Bool} {fd : FuncData} {sp : HFn} {params : Arguments} {body : Expr} {scope : Scope} {tb : TDE} {p lpos pos : Pos} (hK : C.K = X.K) (F : HoG X.prog X.w C.K X.mg X.base gd (k + 1) g fd a C.Cl sp) (hr : Room (k + 2) X.A) (hgd : Gd gd X.A) (tk : Takes X Wx) (hg : Gl X x) (hm : X.mg x = some (.ref g)) (hk : PySem.W.keepIn X.K (.ref g) = true)
    (hb : Binds X.K fd [a] []) (TB : LamX.TabB X.base X.mg c Pt) (hcode : X.env.code = .ref c) (hT : (Pt, X.env.qual ++ "<lambda>") ∈ C.Cl.T) (hu : ∀ p ∈ C.Cl.T, p.1 = Pt → p.2 = X.env.qual ++ "<lambda>") (L : LamX.LamS X.env.scope scope) (hdf : defaultsOf params X.env = ([], []))
    (hbd : ∀ (q : Str) (cl : List (Str × Addr)) (pm cv ctv : Value), bindArgs (PySem.W.kla_fn "<lambda>" q params body scope cl pm cv ctv) ⟨[], []⟩ = pure [])
    (hbody : ∀ (A : Around) (outer : List PySem.Env) (t : Shared) (G : Hp) (E : XK) (f c' : Addr), Room k (A.deeper (LamX.lamEnv X scope t.heap.objs.size f c')) → Gd gd A → PE (lamCxh X A outer t G E scope f c') body (lift C (fun cls d _ G => E cls d G) tb))
    (hdb : (x == ("__debug__" : Str)) = false) : PE X (.Call (.Name x p) [.Lambda params body scope lpos] [] pos) (lift C Wx (dLam sp tb)) := by
  refine ⟨fun pins s σ H Q I q => ?_⟩
  obtain ⟨R, ds, h, Pd, Zd, e, p, kk, z⟩ := q
  refine wpAny_Call_Name_kw (ld_glob I hg hm ?_ hdb)
  refine PySem.W.callWith_K (h₀ := X.base) I.ok.mod.kin hk ?_ (by rfl) (by rfl)
  show wpAny _ _ (spliced ((false, eval (.Lambda params body scope lpos) X.env) :: backTo pos (starEach [] X.env))) _ _ s
  refine Calls.spliced_cons (lam_mk I TB hcode hT hu e.ok.tab hdf (L.has I.ok) fun f c' pm ctv H1 s1 I1 eN dm T1 hf hfn hff hco => Calls.spliced_nil ⟨I1.kIn, ?_⟩)
  have x1 : Ex R H R H1 := ⟨Nat.le_refl _, fun _ _ => rfl, fun _ y => y, fun i a b => absurd b (by omega), fun _ y => .inl y, fun b o y _ n => eN b o y n, dm, fun b o u y => eN b _ y (fun _ => HO.noConfusion)⟩
  have ok1 : HOk' C.K C.Cl R H1 h := e.ok.ex x1 (fun i hi => by
    have hl : i < h.length := by rw [e.ok.len]; exact hi
    obtain ⟨u, hu, ro⟩ := e.ok.obj i h[i] (List.getElem?_eq_getElem hl)
    rw [hu]
    refine eN _ _ hu fun ps y => ?_
    subst y
    exact shr_of ro) T1
  have e1 : Env C R ds σ H1 h := e.step x1 ok1
  have oc : ∀ R' G, HOk' C.K C.Cl R' G h → True := fun _ _ _ => trivial
  have act := act_ok (gd := gd) (k := k) (c := c') I1 L hf hfn hff (hbd _ _ _ _ _) (tb := fun E => liftV C (fun cls d _ G => E cls d G) (dD tb)) (fun A outer t G E hr hg => pe_D (hbody A outer t G E f c' hr hg))
  have act2 : ActOk X.prog X.w X.K X.mg X.base gd (k + 1) (frs X.stack) H1 s1 f (tlD C.K C.Cl R H1 (fun h' P' Z' => dD tb ds h' P' Z')) := act.imp fun E G Q' y => by
    obtain ⟨R', h', Pd', Zd', ok', x', a', k1, k2⟩ := y
    have co : Out R c' := ok1.outT hco ⟨fun _ => HO.noConfusion, fun _ => HO.noConfusion, fun _ => HO.noConfusion, fun _ _ _ => HO.noConfusion, fun _ _ => HO.noConfusion⟩
    refine ⟨x'.frm c' _ hco co LamX.codeO_ne, R', ds, h', Pd', Zd', e1.step x' ok', a', fun R2 G2 h2 d v p2 x2 e2 r2 => k1 R2 G2 h2 d v p2 x2 e2.ok r2, fun R2 G2 h2 y cls dd p2 x2 e2 r2 => k2 R2 G2 h2 y cls dd p2 x2 e2.ok r2⟩
  have e0 := I1.env0
  rw [← hK] at e0 act2
  refine wpAny_call (codeAny_mono (F.run X.A X.stack s1 H1 R h f _ _ _ Zd Q (atS Wx σ) hr hgd e0 (hb s1 [.ref f] I1.kIn rfl) hf ⟨_, rfl⟩ hfn hff act2 ok1 p (fun R' H' h' d v p2 x2 ok2 r2 => kk R' H' h' (.d d) v p2 (x1.trans x2) (e1.step x2 ok2) r2) (fun R' H' h' y cls dd p2 x2 ok2 r2 => z R' H' h' y cls dd p2 (x1.trans x2) (e1.step x2 ok2) r2)) fun r s2 y => ?_)
  cases r with
  | error er => exact tk er s2 (XE.of_call I1 (fun _ _ _ h => h) (hK ▸ y))
  | ok fl =>
    cases fl with
    | ret u => exact I1.after y
    | next => exact y.elim
    | brk => exact y.elim
    | cont => exact y.elim
end
end
end DL
set_option maxHeartbeats 4000000
namespace DL
open PySem PySem.Spec PyProof.Rows L2
section
variable {κ : Type} [DecidableEq κ]
def valD (kvs : List (κ × D)) (k : κ) : Option D := (kvs.find? fun kv => decide (kv.1 = k)).map (·.2)
def putD (kvs : List (κ × D)) (k : κ) (v : D) : List (κ × D) :=
  if (kvs.any fun kv => decide (kv.1 = k)) = true then kvs.map (fun kv => if kv.1 = k then (kv.1, v) else kv) else kvs ++ [(k, v)]
variable {K : Fg} {R : Rg} {H : Hp}
theorem relKd_val {k : κ} {d : D} : ∀ {kvs : List (κ × D)} {ks : List (κ × V)}, RelKd K R H kvs ks → valD kvs k = some d → ∃ v, valV ks k = some v ∧ RelD K R H d v
  | [], ks, r, e => by simp [valD] at e
  | (x, y) :: kvs, ks, r, e => by
    obtain ⟨v, q, rfl, r1, r2⟩ := r
    by_cases hx : x = k
    · have : some y = some d := by simpa [valD, List.find?_cons, hx] using e
      cases this
      exact ⟨v, valV_pos (p := (x, v)) hx, r1⟩
    · obtain ⟨u, e1, e2⟩ := relKd_val (k := k) (d := d) r2 (by simpa [valD, List.find?_cons, hx] using e)
      exact ⟨u, by rw [valV_neg (p := (x, v)) hx]; exact e1, e2⟩
theorem relKd_no {k : κ} : ∀ {kvs : List (κ × D)} {ks : List (κ × V)}, RelKd K R H kvs ks → valD kvs k = none → valV ks k = none
  | [], ks, r, e => by cases (show ks = [] from r); rfl
  | (x, y) :: kvs, ks, r, e => by
    obtain ⟨v, q, rfl, r1, r2⟩ := r
    by_cases hx : x = k
    · simp [valD, List.find?_cons, hx] at e
    · rw [valV_neg (p := (x, v)) hx]
      exact relKd_no r2 (by simpa [valD, List.find?_cons, hx] using e)
theorem relKd_any {k : κ} : ∀ {kvs : List (κ × D)} {ks : List (κ × V)}, RelKd K R H kvs ks → (kvs.any fun kv => decide (kv.1 = k)) = ks.any fun kv => decide (kv.1 = k)
  | [], ks, r => by cases (show ks = [] from r); rfl
  | (x, y) :: kvs, ks, r => by
    obtain ⟨v, q, rfl, r1, r2⟩ := r
    rw [List.any_cons, List.any_cons, relKd_any r2]
theorem relKd_map {k : κ} {d : D} {u : V} (rd : RelD K R H d u) : ∀ {kvs : List (κ × D)} {ks : List (κ × V)}, RelKd K R H kvs ks → RelKd K R H (kvs.map fun kv => if kv.1 = k then (kv.1, d) else kv) (ks.map fun kv => if kv.1 = k then (kv.1, u) else kv)
  | [], ks, r => by cases (show ks = [] from r); rfl
  | (x, y) :: kvs, ks, r => by
    obtain ⟨v, q, rfl, r1, r2⟩ := r
    rw [List.map_cons, List.map_cons]
    by_cases hx : x = k
    · simp only [hx, if_true]; exact ⟨u, _, rfl, rd, relKd_map rd r2⟩
    · simp only [hx, if_false]; exact ⟨v, _, rfl, r1, relKd_map rd r2⟩
theorem relKd_app {k : κ} {d : D} {u : V} (rd : RelD K R H d u) : ∀ {kvs : List (κ × D)} {ks : List (κ × V)}, RelKd K R H kvs ks → RelKd K R H (kvs ++ [(k, d)]) (ks ++ [(k, u)])
  | [], ks, r => by cases (show ks = [] from r); exact ⟨u, [], rfl, rd, rfl⟩
  | (x, y) :: kvs, ks, r => by
    obtain ⟨v, q, rfl, r1, r2⟩ := r
    exact ⟨v, _, rfl, r1, relKd_app rd r2⟩
theorem relKd_put {k : κ} {d : D} {u : V} {kvs : List (κ × D)} {ks : List (κ × V)} (r : RelKd K R H kvs ks) (rd : RelD K R H d u) : RelKd K R H (putD kvs k d) (putK ks k u) := by
  unfold putD putK
  rw [relKd_any r]
  split
  · exact relKd_map rd r
  · exact relKd_app rd r
theorem relKd_len : ∀ {kvs : List (κ × D)} {ks : List (κ × V)}, RelKd K R H kvs ks → kvs.length = ks.length
  | [], ks, r => by cases (show ks = [] from r); rfl
  | (x, y) :: kvs, ks, r => by
    obtain ⟨v, q, rfl, r1, r2⟩ := r
    simp [relKd_len r2]
theorem relKd_zip : ∀ {ks : List κ} {xs : List D} {vs : List V}, RelDs K R H xs vs → RelKd K R H (ks.zip xs) (ks.zip vs)
  | [], xs, vs, r => by simp; rfl
  | k :: ks, [], vs, r => by cases r_nil r; simp; rfl
  | k :: ks, x :: xs, vs, r => by
    obtain ⟨v, q, rfl, r1, r2⟩ := r_cons r
    exact ⟨v, _, rfl, r1, relKd_zip r2⟩
theorem merge_new : ∀ (more acc : List (Key × V)), ((acc ++ more).map (·.1)).Nodup → mergeK acc more = acc ++ more
  | [], acc, _ => by simp [mergeK]
  | (k, v) :: more, acc, h => by
    have e : putK acc k v = acc ++ [(k, v)] := by
      unfold putK
      rw [if_neg]
      intro z
      obtain ⟨p, hp, e⟩ := List.any_eq_true.mp z
      rw [List.map_append, List.nodup_append] at h
      exact h.2.2 p.1 (List.mem_map.mpr ⟨p, hp, rfl⟩) k (by simp) (of_decide_eq_true e)
    show mergeK (putK acc k v) more = _
    rw [e, merge_new more (acc ++ [(k, v)]) (by simpa using h)]
    simp
end
def keyW : W → Option Key
  | .d (.int i) => some (.inl i)
  | .d (.str x) => some (.inr x)
  | _ => none
theorem key_of {K : Fg} {R : Rg} {H H1 : Hp} {w : W} {v : V} {k : Key} (r : RelW K H1 R H w v) (e : keyW w = some k) : v = kV k := by
  unfold keyW at e
  split at e
  · cases e; exact rw_int r
  · cases e; exact rw_str r
  · cases e
section
variable {X : Cx} {C : Cn} {Wx : WX}
def dDget (ta tk : TDE) : TDE := fun ds h P Z => ta ds h (fun x h1 => tk ds h1 (fun y h2 => ∃ n kvs k d, x = .d (.ref n) ∧ h2[n]? = some (.dic kvs) ∧ keyW y = some k ∧ valD kvs k = some d ∧ P (.d d) h2) Z) Z
theorem de_dget {a b : Expr} {ta tb : TDE} {pos : Pos} (hu : X.A.units + 1 < cLine) (hs : NoSl b) (ha : PE X a (lift C Wx ta)) (hb : PE X b (lift C Wx tb)) : PE X (.Subscript a b pos) (lift C Wx (dDget ta tb)) :=
  (pe_dget hu ha hb hs).imD fun σ H Q q => by
    obtain ⟨R, ds, h, P, Z, e, p, k, z⟩ := q
    refine ⟨R, ds, h, _, Z, e, p, fun R1 H1 h1 w1 v1 p1 x1 e1 r1 => ?_, z⟩
    refine ⟨R1, ds, h1, _, Z, e1, p1, fun R2 H2 h2 w2 v2 ⟨n, kvs, ky, d, hx, hn, hk, hd, p2⟩ x2 e2 r2 => ?_, fun R' H' h' x cls dd a b c d => z R' H' h' x cls dd a (x1.trans b) c d⟩
    subst hx
    have r1' : RelD C.K R2 H2 (.ref n) v1 := relW_ex e1.ok x2 r1
    obtain ⟨_, rfl⟩ := r_ref r1'
    obtain ⟨u, hu', ks, rfl, t⟩ := e2.ok.obj n _ hn
    obtain ⟨v, e3, rv⟩ := relKd_val t hd
    rw [key_of r2 hk]
    exact ⟨_, v, rfl, by rw [← e3]; exact DGet.k hu', k R2 H2 h2 _ _ p2 (x1.trans x2) e2 rv⟩
def dDput (to tk t : TDE) : TDS := fun ds h P => dD t ds h (fun d h1 => to ds h1 (fun o h2 => tk ds h2 (fun y h3 => ∃ n kvs k, o = .d (.ref n) ∧ h3[n]? = some (.dic kvs) ∧ keyW y = some k ∧ kvs.length < sizeLine ∧ P.nx ds (h3.set n (.dic (putD kvs k d)))) (fun x h' => P.ex x ds h')) (fun x h' => P.ex x ds h')) (fun x h' => P.ex x ds h')
theorem ds_dput {e o j : Expr} {t to tj : TDE} {tpos pos : Pos} (hu : X.A.units + 1 < cLine) (he : PE X e (lift C Wx t)) (ho : PE X o (lift C Wx to)) (hj : PE X j (lift C Wx tj)) (hs : swapsWith e (some (.Subscript o j tpos)) pos.line X.env = pure false) :
    PS X (.Assign [.Subscript o j tpos] e pos) (liftS C Wx (dDput to tj t)) :=
  (ps_dput hu ho hj (pe_D he) hs).imD fun D σ H q => by
    obtain ⟨R, ds, h, P, e, p, k⟩ := q
    refine ⟨R, ds, h, _, _, e, p, fun R1 H1 h1 d u p1 x1 e1 r1 => ?_, k.exE e⟩
    refine ⟨R1, ds, h1, _, _, e1, p1, fun R2 H2 h2 w2 v2 p2 x2 e2 r2 => ?_, (k.later (x1.mo e.ok)).exE e1⟩
    have x12 := x1.trans x2
    refine ⟨R2, ds, h2, _, _, e2, p2, fun R3 H3 h3 w3 v3 ⟨n, kvs, ky, ho, hn, hk, hl, p3⟩ x3 e3 r3 => ?_, (k.later (x12.mo e.ok)).exE e2⟩
    subst ho
    have x13 := x12.trans x3
    have rr : RelD C.K R3 H3 (.ref n) v2 := relW_ex e2.ok x3 r2
    obtain ⟨_, rfl⟩ := r_ref rr
    obtain ⟨uo, hu, vs, rfl, tt⟩ := e3.ok.obj n _ hn
    have rd : RelD C.K R3 H3 d u := relD_ex e1.ok (x2.trans x3) r1
    obtain ⟨e4, m4⟩ := e3.hw (o2 := .dic (putD kvs ky d)) (u2 := .dK (putK vs ky u)) hn ⟨_, rfl, relKd_put tt rd⟩
    rw [key_of r3 hk]
    exact ⟨_, _, rfl, DPut.k hu (by rw [← relKd_len tt]; exact hl), k.nx R3 ds σ _ _ e4 ((x13.mo e.ok).trans m4) p3⟩
/-- a dict that stands apart becomes a shared one -/
theorem Env.haP {R : Rg} {ds : DSt} {σ : Sl} {H : Hp} {h : Hs} {p : Addr} {o : O} {u : HO} {k0 : List (Key × V)} (e : Env C R ds σ H h) (hp : H p = some (.dK k0)) (op : Out R p) (h0 : C.H₀ p = none) (r : RelO C.K C.Cl R H o u) :
    ∃ R', Env C R' ds σ (upd H p u) (h ++ [o]) ∧ (∀ R0 H0, Ex R0 H0 R H → H0 p = none → Ex R0 H0 R' (upd H p u)) ∧ R'.at_ h.length = p ∧ R'.n = h.length + 1 := by
  let R' : Rg := ⟨R.n + 1, fun i => if i = R.n then p else R.at_ i, R.fz⟩
  have hlt : ∀ i, i < R.n → R'.at_ i = R.at_ i := fun i hi => if_neg (Nat.ne_of_lt hi)
  have hat : R'.at_ R.n = p := if_pos rfl
  have ne : ∀ b v, H b = some v → (∀ k, v ≠ .dK k) → b ≠ p := fun b v q n z => by subst z; rw [hp] at q; cases q; exact n _ rfl
  have nfz : ¬ R.fz p := fun z => by obtain ⟨vs, q⟩ := e.ok.fzd p z; rw [hp] at q; cases q
  have x : ∀ R0 H0, Ex R0 H0 R H → H0 p = none → Ex R0 H0 R' (upd H p u) := fun R0 H0 x n0 => by
    refine ⟨Nat.le_succ_of_le x.le, fun i hi => by rw [hlt i (Nat.lt_of_lt_of_le hi x.le)]; exact x.at_ i hi, x.fz, fun i a b => ?_, x.nfz, fun b v q o1 n1 => ?_, fun b q => ?_, fun b o' u' q => by rw [upd_ne (fun y => by subst y; rw [n0] at q; cases q)]; exact x.lk b o' u' q⟩
    · have b' : i < R.n + 1 := b
      by_cases y : i = R.n
      · subst y; rw [hat]; exact n0
      · rw [hlt i (by omega)]; exact x.nat i a (by omega)
    · rw [upd_ne (fun y => by subst y; rw [n0] at q; cases q)]; exact x.frm b v q o1 n1
    · by_cases y : b = p
      · subst y; exact n0
      · rw [upd_ne y] at q; exact x.dom b q
  have m : Mo C.K R H R' (upd H p u) := by
    refine ⟨Nat.le_succ _, hlt, fun b us q => ?_, fun b us q => ⟨q.1, by rw [upd_ne (ne b _ q.2 fun _ => HO.noConfusion)]; exact q.2⟩, fun b us q => ?_, fun b o' u' q => by rw [upd_ne (ne b _ q fun _ => HO.noConfusion)]; exact q⟩
    · show upd H p u b = _
      rw [upd_ne (ne b _ q fun _ => HO.noConfusion)]; exact q
    · rcases q with ⟨o', q⟩ | q
      · exact .inl ⟨o', by rw [upd_ne (ne b _ q fun _ => HO.noConfusion)]; exact q⟩
      · exact .inr q
  refine ⟨R', ⟨⟨by show (h ++ [o]).length = R.n + 1; simp [e.ok.len], fun j o' hj => ?_, fun i j hi hj q => ?_, fun i hi z => ?_, fun b z => ?_, tabs_wr hp (fun _ => HO.noConfusion) (fun _ => HO.noConfusion) e.ok.tab⟩, x _ _ e.ex h0, e.len, fun j w q1 => ?_, e.nnew, e.own, e.own0⟩, x, by rw [e.ok.len]; exact hat, by rw [e.ok.len]⟩
  · by_cases hl : j < h.length
    · rw [List.getElem?_append_left hl] at hj
      obtain ⟨v, e2, r3⟩ := e.ok.obj j o' hj
      have hjl : j < R.n := by rw [← e.ok.len]; exact hl
      exact ⟨v, by rw [hlt j hjl, upd_ne (op j hjl)]; exact e2, relO_mo m r3⟩
    · have hb : j < (h ++ [o]).length := (List.getElem?_eq_some_iff.mp hj).1
      have ej : j = h.length := by simp at hb; omega
      subst ej
      simp at hj
      subst hj
      exact ⟨u, by rw [e.ok.len, hat]; exact upd_same, relO_mo m r⟩
  · have hi' : i < R.n + 1 := hi
    have hj' : j < R.n + 1 := hj
    by_cases a : i = R.n
    · by_cases b : j = R.n
      · omega
      · exfalso; rw [a, hat, hlt j (by omega)] at q; exact op j (by omega) q.symm
    · by_cases b : j = R.n
      · exfalso; rw [b, hat, hlt i (by omega)] at q; exact op i (by omega) q
      · rw [hlt i (by omega), hlt j (by omega)] at q; exact e.ok.inj i j (by omega) (by omega) q
  · have hi' : i < R.n + 1 := hi
    by_cases a : i = R.n
    · subst a; rw [hat] at z; exact nfz z
    · rw [hlt i (by omega)] at z; exact e.ok.nfz i (by omega) z
  · obtain ⟨vs, q⟩ := e.ok.fzd b z
    exact ⟨vs, by rw [upd_ne (ne b _ q fun _ => HO.noConfusion)]; exact q⟩
  · obtain ⟨v2, s2, r3⟩ := e.slot j w q1
    refine ⟨v2, s2, ?_⟩
    cases w with
    | d y => exact relD_mo m r3
    | new zs => exact absurd q1 (e.nnew j zs)
    | fn _ => exact r3
    | own zs =>
      obtain ⟨b, ws, ev2, q2, nf2, o2, t2⟩ := r3
      have hbp := ne b _ q2 fun _ => HO.noConfusion
      refine ⟨b, ws, ev2, by rw [upd_ne hbp]; exact q2, nf2, fun i hi z => ?_, relDs_mo m t2⟩
      have hi' : i < R.n + 1 := hi
      by_cases a : i = R.n
      · subst a; rw [hat] at z; exact hbp z.symm
      · rw [hlt i (by omega)] at z; exact o2 i (by omega) z
/-- {'a': x, ..}: a new shared dict -/
def dDic (ks : List Str) (ta : TDA) : TDE := fun ds h P Z => ta ds h (fun xs h1 => xs.length = ks.length ∧ P (.d (.ref h1.length)) (h1 ++ [.dic ((ks.map Sum.inr).zip xs)])) Z
theorem zip_fst {α β : Type} : ∀ {as : List α} {bs : List β}, bs.length = as.length → (as.zip bs).map (·.1) = as
  | [], bs, h => by simp
  | a :: as, [], h => by simp at h
  | a :: as, b :: bs, h => by simp at h; simp [zip_fst h]
theorem zip_key : ∀ {ks : List Str} {vs : List V}, (ks.map V.str).zip vs = (((ks.map Sum.inr : List Key)).zip vs).map fun kv => (kV kv.1, kv.2)
  | [], vs => by simp
  | k :: ks, [] => by simp
  | k :: ks, v :: vs => by simp [zip_key (ks := ks) (vs := vs), kV]
theorem de_dic {keys : List (Option Expr)} {values : List Expr} {trs : List (TE × TE)} {ks : List Str} {ta : TDA} {pos : Pos} (pp : PPs X pos keys values trs) (ht : ∀ σ H Q, liftA C Wx ta σ H (fun vs H' => Q ((ks.map V.str).zip vs) H') → tPairs trs σ H Q) (hall : keys.all (·.isSome) = true) (hl : keys.length = values.length) (h0 : keys ≠ []) (h15 : keys.length ≤ 15) (hk : ks.length ≤ 15) (nd : ks.Nodup) :
    PE X (.Dict keys values pos) (lift C Wx (dDic ks ta)) :=
  (pe_disp pp hall hl h0 h15).imD fun σ H Q q => by
    obtain ⟨R, ds, h, P, Z, e, p, k, z⟩ := q
    intro pp np
    have nf := e.ok.nfresh np
    refine ht σ (upd H pp (.dK [])) _ ⟨R, ds, h, _, Z, e.fresh (o := .dK []) np, p, fun R1 H1 h1 xs vs ⟨hx, p1⟩ x1 e1 r1 => ?_, fun R' H' h' x cls dd a b c d => z R' H' h' x cls dd a ((Ex.fresh (o := .dK []) np).trans b) c d⟩
    have hp1 : H1 pp = some (.dK []) := x1.frm pp _ upd_same nf.2 fun _ => HO.noConfusion
    have o1 : Out R1 pp := x1.out (o := .dK []) upd_same nf.2
    have hlen : vs.length = ks.length := by rw [← relDs_len r1]; exact hx
    refine ⟨hp1, (ks.map Sum.inr).zip vs, zip_key, by simp; omega, ?_⟩
    have nd2 : ((ks.map Sum.inr : List Key)).Nodup := by
      refine List.Pairwise.map _ (fun a b h z => h (Sum.inr.inj z)) nd
    show Q (.ref pp) (upd H1 pp (.dK (mergeK [] ((ks.map Sum.inr).zip vs))))
    rw [merge_new _ [] (by rw [List.nil_append, zip_fst (by simpa using hlen)]; exact nd2), List.nil_append]
    obtain ⟨R2, e2, x2, a2, n2⟩ := e1.haP (o := .dic ((ks.map Sum.inr).zip xs)) hp1 o1 (e.ex.dom pp np) ⟨_, rfl, relKd_zip r1⟩
    have x02 := x2 R H ((Ex.fresh (o := .dK []) np).trans x1) np
    have rr : ∀ G, RelD C.K R2 G (.ref h1.length) (.ref pp) := fun G => by
      unfold RelD
      exact ⟨by rw [n2]; omega, by rw [a2]⟩
    exact k R2 (upd H1 pp (.dK ((ks.map Sum.inr).zip vs))) _ (.d (.ref h1.length)) (.ref pp) p1 x02 e2 (rr (upd H1 pp (.dK ((ks.map Sum.inr).zip vs))))
end
end DL
set_option maxHeartbeats 4000000
namespace DL
open PySem PySem.Spec PyProof.Rows L2
theorem nostand : notAStandIn Value.none = pure () := by rfl
/-- parameters by place, no defaults -/
def posA : Arguments → Option (List Str)
  | ⟨[], as, none, [], [], none, []⟩ => if (as.map (·.arg)).Nodup then some (as.map (·.arg)) else none
  | _ => none
theorem posA_ok {p : Arguments} {ps : List Str} (h : posA p = some ps) : ∃ as : List Arg, p = ⟨[], as, none, [], [], none, []⟩ ∧ as.map (·.arg) = ps ∧ ps.Nodup := by
  unfold posA at h
  split at h
  · split at h
    · rename_i hn
      cases h
      exact ⟨_, rfl, rfl, hn⟩
    · cases h
  · cases h
theorem kwLoop {f : Str × Value → List (Str × Value) × List (Str × Value) → Sem (ForInStep (List (Str × Value) × List (Str × Value)))} : ∀ (kw sl : List (Str × Value)), (∀ kv ∈ kw, ∀ sl, (List.lookup kv.1 sl).isSome = false → f kv (sl, []) = pure (.yield (sl ++ [kv], []))) →
    ((sl ++ kw).map (·.1)).Nodup → forIn kw (sl, []) f = pure (sl ++ kw, [])
  | [], sl, _, _ => by simp
  | kv :: kw, sl, hf, hn => by
    have nl : (List.lookup kv.1 sl).isSome = false := by
      cases h : List.lookup kv.1 sl with
      | none => rfl
      | some u =>
        exfalso
        rw [List.map_append, List.nodup_append] at hn
        exact hn.2.2 kv.1 (List.mem_map.mpr ⟨_, PySem.mem_of_lookup h, rfl⟩) kv.1 (by simp) rfl
    rw [List.forIn_cons, hf kv (by simp) sl nl, pure_bind]
    show forIn kw (sl ++ [kv], []) f = _
    rw [kwLoop kw (sl ++ [kv]) (fun y hy => hf y (List.mem_cons_of_mem _ hy)) (by simpa using hn)]
    simp
theorem look_zip {α : Type} : ∀ {ns : List Str} {us : List α} {i : Nat} {n : Str} {u : α}, ns.Nodup → ns[i]? = some n → us[i]? = some u → (ns.zip us).lookup n = some u
  | [], us, i, n, u, _, h, _ => by simp at h
  | m :: ns, [], i, n, u, _, _, h => by simp at h
  | m :: ns, v :: us, 0, n, u, _, h1, h2 => by
    simp at h1 h2
    subst h1 h2
    simp [List.lookup]
  | m :: ns, v :: us, i + 1, n, u, hn, h1, h2 => by
    have hm : n ≠ m := fun z => by
      subst z
      rw [List.nodup_cons] at hn
      exact hn.1 (List.mem_of_getElem? (by simpa using h1))
    have hb : (n == m) = false := by simpa using hm
    rw [List.zip_cons_cons, List.lookup_cons, hb]
    exact look_zip (List.nodup_cons.mp hn).2 (by simpa using h1) (by simpa using h2)
/-- by place and by name: names as written, where each parameter's value stands -/
def kwB (ps : List Str) (np : Nat) (ks : List Str) (pi : List Nat) : Bool := decide (np + ks.length = ps.length) && decide ((ps.take np ++ ks).Nodup) && decide (pi.map (fun i => (ps.take np ++ ks)[i]?) = ps.map some) && (ks.all fun k => ps.contains k)
def pick {α : Type} (pi : List Nat) (xs : List α) : List α := pi.filterMap fun i => xs[i]?
theorem pick_zip {ns : List Str} {vs : List Value} (hn : ns.Nodup) (hl : ns.length = vs.length) : ∀ {pi : List Nat} {ps : List Str}, pi.map (fun i => ns[i]?) = ps.map some → (ps.filterMap fun n => ((ns.zip vs).lookup n).map (n, ·)) = ps.zip (pick pi vs) ∧ (∀ n ∈ ps, ((ns.zip vs).lookup n).isSome = true) ∧ (pick pi vs).length = ps.length
  | [], [], _ => ⟨rfl, fun _ h => (by simp at h), rfl⟩
  | [], _ :: _, h => by simp at h
  | _ :: _, [], h => by simp at h
  | i :: pi, p :: ps, h => by
    simp only [List.map_cons, List.cons.injEq] at h
    have hi : i < ns.length := (List.getElem?_eq_some_iff.mp h.1).1
    have hv : vs[i]? = some (vs[i]'(by omega)) := List.getElem?_eq_getElem (by omega)
    have lk := look_zip hn h.1 hv
    obtain ⟨a, b, c⟩ := pick_zip hn hl h.2
    refine ⟨?_, ?_, ?_⟩
    · rw [List.filterMap_cons, lk]
      simp only [Option.map_some, pick, List.filterMap_cons, hv]
      rw [a]; rfl
    · intro n hn'
      rcases List.mem_cons.mp hn' with rfl | hn'
      · rw [lk]; rfl
      · exact b n hn'
    · simp only [pick, List.filterMap_cons, hv, List.length_cons]
      rw [show (List.filterMap (fun i => vs[i]?) pi).length = ps.length from c]
theorem zip_take {α β : Type} : ∀ {ps : List α} {us : List β}, ps.zip us = (ps.take us.length).zip us
  | [], us => by simp
  | p :: ps, [] => by simp
  | p :: ps, u :: us => by simp [zip_take (ps := ps) (us := us)]
theorem bind_kw {fd : FuncData} {ps ks : List Str} {pi : List Nat} {us ws : List Value} (h : posA fd.params = some ps) (hd : fd.defaults = .none) (hk : kwB ps us.length ks pi = true) (hw : ws.length = ks.length) : bindArgs fd ⟨us, ks.zip ws⟩ = pure (ps.zip (pick pi (us ++ ws))) := by
  obtain ⟨as, hp, rfl, hnd⟩ := posA_ok h
  unfold kwB at hk
  simp only [Bool.and_eq_true, decide_eq_true_eq, List.all_eq_true] at hk
  obtain ⟨⟨⟨k1, k2⟩, k3⟩, k4⟩ := hk
  generalize hns : as.map (·.arg) = ns at *
  have eL : ns.zip us ++ ks.zip ws = (ns.take us.length ++ ks).zip (us ++ ws) := by
    rw [zip_take, List.zip_append (by rw [List.length_take]; omega)]
  have fsts : ((ns.zip us ++ ks.zip ws).map (·.1)) = ns.take us.length ++ ks := by
    rw [eL, zip_fst (by simp; omega)]
  obtain ⟨q1, q2, q3⟩ := pick_zip (ns := ns.take us.length ++ ks) (vs := us ++ ws) k2 (by simp; omega) k3
  rw [← eL] at q1 q2
  have miss : ns.filter (fun n => ((ns.zip us ++ ks.zip ws).lookup n).isNone) = [] := by
    rw [List.filter_eq_nil_iff]
    intro n hn
    have := q2 n hn
    cases hh : (ns.zip us ++ ks.zip ws).lookup n with
    | none => rw [hh] at this; cases this
    | some _ => simp
  unfold bindArgs
  simp only [hp, hd, hns]
  have hgt : ¬ us.length > ns.length := by omega
  simp only [List.map_nil, List.nil_append, List.append_nil, seqItems?, pure_bind, nostand, Option.getD, List.length_nil, List.drop_nil, Nat.sub_zero, List.take_length,  List.drop_length, List.zip_nil_right, List.isEmpty_nil, Nat.zero_sub, List.forIn_nil]
  rw [kwLoop (ks.zip ws) (ns.zip us) (fun kv hkv sl hsl => ?_) (by rw [fsts]; exact k2)]
  · simp only [pure_bind, miss]
    simp [hgt, q1]
  · have : kv.1 ∈ ns := by simpa using k4 kv.1 (List.of_mem_zip hkv).1
    simp [this, hsl]
/-- how a call by place and by name binds -/
def BK (fd : FuncData) (ps : List Str) : Prop := ∀ (ks : List Str) (pi : List Nat) (us ws : List Value), kwB ps us.length ks pi = true → ws.length = ks.length → bindArgs fd ⟨us, ks.zip ws⟩ = pure (ps.zip (pick pi (us ++ ws)))
theorem relDs_pick {K : Fg} {R : Rg} {H : Hp} {xs : List D} {vs : List V} (r : RelDs K R H xs vs) : ∀ (pi : List Nat), RelDs K R H (pick pi xs) (pick pi vs)
  | [] => m_nil
  | i :: pi => by
    unfold pick
    rw [List.filterMap_cons, List.filterMap_cons]
    by_cases hi : i < xs.length
    · obtain ⟨v, e, rv⟩ := relDs_get r (List.getElem?_eq_getElem hi)
      rw [e, List.getElem?_eq_getElem hi]
      exact m_cons rv (relDs_pick r pi)
    · rw [List.getElem?_eq_none (by omega), List.getElem?_eq_none (by rw [← relDs_len r]; omega)]
      exact relDs_pick r pi
theorem vals_get : ∀ {vs : List V} {us : List Value} {i : Nat}, Vals vs us → (∀ v, vs[i]? = some v → ∃ u, us[i]? = some u ∧ RelV v u) ∧ (vs[i]? = none → us[i]? = none)
  | [], _, i, .nil => ⟨fun v h => by simp at h, fun _ => by simp⟩
  | v :: vs, u :: us, 0, .cons r t => ⟨fun w h => by simp at h; subst h; exact ⟨u, by simp, r⟩, fun h => by simp at h⟩
  | v :: vs, u :: us, i + 1, .cons r t => by
    obtain ⟨a, b⟩ := vals_get (i := i) t
    exact ⟨fun w h => by obtain ⟨x, e1, e2⟩ := a w (by simpa using h); exact ⟨x, by simpa using e1, e2⟩, fun h => by simpa using b (by simpa using h)⟩
theorem vals_pick {vs : List V} {us : List Value} (r : Vals vs us) : ∀ (pi : List Nat), Vals (pick pi vs) (pick pi us)
  | [] => .nil
  | i :: pi => by
    unfold pick
    rw [List.filterMap_cons, List.filterMap_cons]
    cases h : vs[i]? with
    | some v =>
      obtain ⟨u, e, ru⟩ := (vals_get r).1 v h
      rw [e]
      exact .cons ru (vals_pick r pi)
    | none =>
      rw [(vals_get r).2 h]
      exact vals_pick r pi
section
variable {X : Cx} {C : Cn} {Wx : WX}
theorem pk_consD {nm : Option Str} {kpos : Pos} {e : Expr} {kws : List Keyword} {t : TDE} {u : TDA} (he : PE X e (lift C Wx t)) (hr : PK X kws (liftA C Wx u)) : PK X (⟨nm, e, kpos⟩ :: kws) (liftA C Wx (dCons t u)) := by
  refine ⟨fun pos pins s σ H Q I q => (pk_cons (pe_D he) hr).run pos pins s σ H Q I ?_⟩
  obtain ⟨R, ds, h, P, Z, e, p, k, z⟩ := q
  refine ⟨R, ds, h, _, Z, e, p, fun R1 H1 h1 d v p1 x1 e1 r1 => ?_, z⟩
  exact ⟨R1, ds, h1, _, Z, e1, p1, fun R2 H2 h2 xs vs p2 x2 e2 r2 => k R2 H2 h2 (d :: xs) (v :: vs) p2 (x1.trans x2) e2 (m_cons (relD_ex e1.ok x2 r1) r2), fun R' H' h' x cls dd a b c d => z R' H' h' x cls dd a (x1.trans b) c d⟩
theorem pk_nilD : PK X [] (liftA C Wx dNil) := ⟨fun pos pins s σ H Q I q => pk_nil.run pos pins s σ H Q I (by
  obtain ⟨R, ds, h, P, Z, e, p, k, z⟩ := q
  exact k R H h _ _ p (Ex.refl _ _) e m_nil)⟩
def dCallK (n np nk : Nat) (pi : List Nat) (f : FnD) (t u : TDA) : TDE := fun ds h P Z => t ds h (fun xs h1 => xs.length = np ∧ u ds h1 (fun ys h2 => ys.length = nk ∧ (pick pi (xs ++ ys)).length = n ∧ f (pick pi (xs ++ ys)) h2 (fun d h3 => P (.d d) h3) Z) Z) Z
theorem run_callK {x : Str} {gd : Bool} {k : Nat} {fa : Addr} {fd : FuncData} {ps ks : List Str} {pi : List Nat} {f : FnD} {pins : List (Addr × Obj)} {s2 : Shared} {σ : Sl} {H2 : Hp} {Q : VK} {us ws : List Value} {vs zs : List V} (F : FnG X.prog X.w X.K X.mg X.base gd k fa fd ps (liftF C.K C.Cl ps.length f)) (hr : Room k X.A) (hgd : Gd gd X.A) (tk : Takes X Wx) (bk : BK fd ps)
    (I : Inv X pins σ H2 s2) (r : Vals vs us) (rz : Vals zs ws) (hkw : kwB ps us.length ks pi = true) (hw : ws.length = ks.length) (q : liftF C.K C.Cl ps.length f (pick pi (vs ++ zs)) H2 Q (atS Wx σ)) :
    wpAny (model X.prog X.w) X.A (call (.ref fa) us (ks.zip ws)) (EP X pins σ Q) X.xe s2 := by
  refine wpAny_call (codeAny_mono (run_fnG F hr hgd tk I (.of_eq (bk ks pi us ws hkw hw)) (vals_pick (r.append rz) pi) q) fun res s' z => ?_)
  cases res with
  | error e => exact z
  | ok fl =>
    cases fl with
    | ret u => exact z
    | next => exact z.elim
    | brk => exact z.elim
    | cont => exact z.elim
theorem kw_all {kws : List Keyword} {ks : List Str} {env : PySem.Env} {pos : Pos} : kws.map (·.arg) = ks.map some → (backToKw pos (keywordEach kws env)).all (·.1.isSome) = true ∧ (backToKw pos (keywordEach kws env)).filterMap (·.1) = ks ∧ (backToKw pos (keywordEach kws env)).any (·.1.isNone) = false := by
  induction kws generalizing ks with
  | nil => intro h; cases ks with
    | nil => exact ⟨rfl, rfl, rfl⟩
    | cons k ks => simp at h
  | cons kw kws ih =>
    intro h
    cases ks with
    | nil => simp at h
    | cons k ks =>
      obtain ⟨nm, e, kp⟩ := kw
      simp only [List.map_cons, List.cons.injEq] at h
      obtain ⟨h1, h2⟩ := h
      subst h1
      obtain ⟨a, b, c⟩ := ih h2
      unfold backToKw at a b c ⊢
      simp only [keywordEach, List.map_cons, List.all_cons, List.any_cons, List.filterMap_cons, a, b, c]
      exact ⟨by first | trivial | rfl, by first | trivial | rfl, by first | trivial | rfl⟩
theorem de_callK {x : Str} {p pos : Pos} {ls : List Expr} {kws : List Keyword} {t u : TDA} {f : FnD} {gd : Bool} {k : Nat} {fa : Addr} {fd : FuncData} {ps ks : List Str} {pi : List Nat} (hK : C.K = X.K) (F : FnG X.prog X.w X.K X.mg X.base gd k fa fd ps (liftF C.K C.Cl ps.length f)) (hr : Room k X.A) (hgd : Gd gd X.A) (tk : Takes X Wx) (hg : Gl X x) (hm : X.mg x = some (.ref fa)) (hk : PySem.W.keepIn X.K (.ref fa) = true)
    (bk : BK fd ps) (ha : PA X ls (liftA C Wx t)) (hkw : PK X kws (liftA C Wx u)) (hb : kwB ps ls.length ks pi = true) (hks : kws.map (·.arg) = ks.map some) (hdb : (x == ("__debug__" : Str)) = false) (hst : ls = [] ∨ ∃ e es, ls = e :: es ∧ starEach (e :: es) X.env = (false, eval e X.env) :: starEach es X.env) (hpl : (backTo pos (starEach ls X.env)).any (·.1) = false) (h0 : ls = [] → ∀ ds h Z (P : List D → Hs → Prop), t ds h P Z → P [] h) :
    PE X (.Call (.Name x p) ls kws pos) (lift C Wx (dCallK ps.length ls.length ks.length pi f t u)) := by
  refine ⟨fun pins s σ H Q I q => ?_⟩
  obtain ⟨R, ds, h, P, Z, e, pd, kk, z⟩ := q
  obtain ⟨a1, a2, a3⟩ := kw_all (env := X.env) (pos := pos) hks
  refine wpAny_Call_Name_kw (ld_glob I hg hm ?_ hdb)
  have go : ∀ {s1 : Shared} {R1 : Rg} {H1 : Hp} {h1 : Hs} {xs : List D} {vs : List V} {us : List Value}, Inv X pins σ H1 s1 → Ex R H R1 H1 → Env C R1 ds σ H1 h1 → RelDs C.K R1 H1 xs vs → Vals vs us → xs.length = ls.length ∧ u ds h1 (fun ys h2 => ys.length = ks.length ∧ (pick pi (xs ++ ys)).length = ps.length ∧ f (pick pi (xs ++ ys)) h2 (fun d h3 => P (.d d) h3) Z) Z →
      wpAny (model X.prog X.w) X.A (evalAll ((backToKw pos (keywordEach kws X.env)).map (·.2))) (fun ws s2 => X.K.In s2.heap ∧ wpAny (model X.prog X.w) X.A (call (.ref fa) ([] ++ us) (((backToKw pos (keywordEach kws X.env)).filterMap (·.1)).zip ws)) (EP X pins σ Q) X.xe s2) X.xe s1 := by
    intro s1 R1 H1 h1 xs vs us I1 x1 e1 r1 rv ⟨hl, p1⟩
    refine thn (hkw.run pos pins s1 σ H1 (fun zs H2 => ∃ R2 h2 ys, RelDs C.K R2 H2 ys zs ∧ Ex R1 H1 R2 H2 ∧ Env C R2 ds σ H2 h2 ∧ ys.length = ks.length ∧ (pick pi (xs ++ ys)).length = ps.length ∧ f (pick pi (xs ++ ys)) h2 (fun d h3 => P (.d d) h3) Z) I1 ⟨R1, ds, h1, _, Z, e1, p1, fun R2 H2 h2 ys zs p2 x2 e2 r2 => ⟨R2, h2, ys, r2, x2, e2, p2⟩, fun R' H' h' y cls dd a b c d => z R' H' h' y cls dd a (x1.trans b) c d⟩) fun ws s2 ⟨zs, H2, I2, rz, R2, h2, ys, r2, x2, e2, hl2, hl3, p2⟩ => ⟨I2.kIn, ?_⟩
    rw [a2, List.nil_append]
    have lu : us.length = ls.length := by rw [← rv.length, ← relDs_len r1]; exact hl
    refine run_callK (x := x) (C := C) F hr hgd tk bk I2 rv rz (by rw [lu]; exact hb) (by rw [← rz.length, ← relDs_len r2]; exact hl2) ?_
    refine ⟨R2, pick pi (xs ++ ys), h2, _, Z, e2.ok, relDs_pick (relDs_append (relDs_ex e1.ok x2 r1) r2) pi, hl3, p2, fun R3 H3 h3 d v p3 x3 ok3 r3 => ?_, fun R3 H3 h3 y cls dd p3 x3 ok3 r3 => ?_⟩
    · exact kk R3 H3 h3 (.d d) v p3 ((x1.trans x2).trans x3) (e2.step x3 ok3) r3
    · exact z R3 H3 h3 y cls dd p3 ((x1.trans x2).trans x3) (e2.step x3 ok3) r3
  rcases hst with rfl | ⟨e0, es, rfl, he⟩
  · refine PySem.W.callWith_KW0 (h₀ := X.base) I.ok.mod.kin hk a1 ?_ (by rw [a3]; rfl)
    exact go (xs := []) (vs := []) (us := []) I (Ex.refl _ _) e m_nil .nil (h0 rfl ds h Z _ pd)
  · refine PySem.W.callWith_KW (h₀ := X.base) I.ok.mod.kin hk a1 (thn (ha.run pos pins s σ H (fun vs H1 => ∃ R1 h1 xs, Ex R H R1 H1 ∧ Env C R1 ds σ H1 h1 ∧ RelDs C.K R1 H1 xs vs ∧ (xs.length = (e0 :: es).length ∧ u ds h1 (fun ys h2 => ys.length = ks.length ∧ (pick pi (xs ++ ys)).length = ps.length ∧ f (pick pi (xs ++ ys)) h2 (fun d h3 => P (.d d) h3) Z) Z)) I ⟨R, ds, h, _, Z, e, pd, fun R1 H1 h1 xs vs p1 x1 e1 r1 => ⟨R1, h1, xs, x1, e1, r1, p1⟩, z⟩) fun us s1 ⟨vs, H1, I1, rv, R1, h1, xs, x1, e1, r1, p1⟩ => go I1 x1 e1 r1 rv p1) (by rw [hpl, a3]; rfl) he
end
end DL
set_option maxHeartbeats 4000000
namespace DL
open PySem PySem.Spec PySem.W PyProof.Rows L2
/-- parameters by place, then such by name alone -/
def koA : Arguments → Option (List Str × Nat)
  | ⟨[], as, none, kas, _, none, []⟩ => if (as.map (·.arg) ++ kas.map (·.arg)).Nodup then some (as.map (·.arg) ++ kas.map (·.arg), as.length) else none
  | _ => none
theorem koA_ok {p : Arguments} {ps : List Str} {np : Nat} (h : koA p = some (ps, np)) : ∃ (as kas : List Arg) (kd : List (Option Expr)), p = ⟨[], as, none, kas, kd, none, []⟩ ∧ as.map (·.arg) ++ kas.map (·.arg) = ps ∧ as.length = np ∧ ps.Nodup := by
  unfold koA at h
  split at h
  · split at h
    · rename_i hn
      cases h
      exact ⟨_, _, _, rfl, rfl, rfl, hn⟩
    · cases h
  · cases h
theorem zip_map_self {dv : Str → Value} : ∀ l : List Str, l.map (fun n => (n, dv n)) = l.zip (l.map dv)
  | [] => rfl
  | a :: l => by simp [zip_map_self l]
theorem koLoop {M : Model} {h : Heap} {σ : Type} (mk : List (Str × Value) → σ) (dv : Str → Value) {f : Str → σ → Sem (ForInStep σ)} : ∀ (kwn : List Str) (sl : List (Str × Value)), (∀ n ∈ kwn, ∀ sl, (List.lookup n sl).isSome = true → f n (mk sl) = pure (.yield (mk sl))) →
    (∀ n ∈ kwn, (List.lookup n sl).isSome = false → ∀ sl', (List.lookup n sl').isSome = false → Looks M h (f n (mk sl')) (.yield (mk (sl' ++ [(n, dv n)])))) → kwn.Nodup →
    Looks M h (forIn kwn (mk sl) f) (mk (sl ++ (kwn.filter fun n => (List.lookup n sl).isNone).map fun n => (n, dv n)))
  | [], sl, _, _, _ => by simpa using Looks.of_pure rfl
  | n :: kwn, sl, h1, h2, nd => by
    rw [List.nodup_cons] at nd
    rw [List.forIn_cons]
    cases hl : List.lookup n sl with
    | some v =>
      have e := h1 n (by simp) sl (by rw [hl] <;> rfl)
      rw [e, pure_bind]
      have := koLoop mk dv kwn sl (fun m hm => h1 m (by simp [hm])) (fun m hm => h2 m (by simp [hm])) nd.2
      simpa [hl] using this
    | none =>
      have e := h2 n (by simp) (by rw [hl] <;> rfl) sl (by rw [hl] <;> rfl)
      refine e.andThen ?_
      show Looks M h (forIn kwn (mk (sl ++ [(n, dv n)])) f) _
      have lk : ∀ m ∈ kwn, List.lookup m (sl ++ [(n, dv n)]) = List.lookup m sl := fun m hm => by
        have ne : ¬ m = n := fun z => nd.1 (by rw [← z]; exact hm)
        rw [List.lookup_append]
        have hb : (m == n) = false := by simpa using ne
        cases hz : List.lookup m sl <;> simp [List.lookup, hb]
      have := koLoop mk dv kwn (sl ++ [(n, dv n)]) (fun m hm => h1 m (by simp [hm])) (fun m hm hz => h2 m (by simp [hm]) (by rw [← lk m hm]; exact hz)) nd.2
      have ef : (kwn.filter fun m => (List.lookup m (sl ++ [(n, dv n)])).isNone) = kwn.filter fun m => (List.lookup m sl).isNone := List.filter_congr fun m hm => by rw [lk m hm]
      rw [ef] at this
      simpa [hl, List.append_assoc] using this
/-- by place and by name; dk: the names whose defaults stand in -/
def koB (ps : List Str) (np : Nat) (ks dk : List Str) (pi : List Nat) : Bool := decide (np ≤ ps.length) && decide ((ps.take np ++ ks ++ dk).Nodup) && decide (pi.map (fun i => (ps.take np ++ ks ++ dk)[i]?) = ps.map some) && (ks.all fun k => ps.contains k) && decide (dk = (ps.drop np).filter fun n => !ks.contains n)
theorem bind_ko {M : Model} {h : Heap} {fd : FuncData} {ps ks dk : List Str} {np : Nat} {pi : List Nat} {us ws : List Value} {D : Addr} (dv : Str → Value) (hp : koA fd.params = some (ps, np)) (hd : fd.defaults = .none) (hkd : dk ≠ [] → fd.kwdefaults = .ref D) (hu : us.length = np) (hw : ws.length = ks.length)
    (hns : ∀ n ∈ dk, Looks M h (nsGet D n) (some (dv n))) (hk : koB ps np ks dk pi = true) : Looks M h (bindArgs fd ⟨us, ks.zip ws⟩) (ps.zip (pick pi (us ++ ws ++ dk.map dv))) := by
  obtain ⟨as, kas, kd, ep, rfl, hl, hnd⟩ := koA_ok hp
  clear hp
  unfold koB at hk
  simp only [Bool.and_eq_true, decide_eq_true_eq, List.all_eq_true] at hk
  obtain ⟨⟨⟨⟨k0, k1⟩, k2⟩, k3⟩, k4⟩ := hk
  have tk : (as.map (·.arg) ++ kas.map (·.arg)).take np = as.map (·.arg) := by rw [List.take_append_of_le_length (by simp [hl]), List.take_of_length_le (by simp [hl])]
  have dr : (as.map (·.arg) ++ kas.map (·.arg)).drop np = kas.map (·.arg) := by rw [List.drop_append_of_le_length (by simp [hl]), List.drop_of_length_le (by simp [hl]), List.nil_append]
  rw [tk] at k1 k2
  rw [dr] at k4
  have la : (as.map (·.arg)).length = us.length := by simp [hl, hu]
  generalize hns1 : as.map (·.arg) = ns at *
  generalize hns2 : kas.map (·.arg) = kn at *
  have eL : ns.zip us ++ ks.zip ws = (ns ++ ks).zip (us ++ ws) := by rw [List.zip_append la]
  have ll : (ns ++ ks).length = (us ++ ws).length := by rw [List.length_append, List.length_append]; omega
  have fsts : ((ns.zip us ++ ks.zip ws).map (·.1)) = ns ++ ks := by rw [eL, zip_fst (by rw [ll] <;> exact Nat.le_refl _)]
  have k1' : (ns ++ ks).Nodup := (List.nodup_append.mp k1).1
  have eA : ns.zip us ++ ks.zip ws ++ dk.map (fun n => (n, dv n)) = (ns ++ ks ++ dk).zip (us ++ ws ++ dk.map dv) := by
    rw [eL, List.zip_append ll, zip_map_self]
  obtain ⟨q1, q2, q3⟩ := pick_zip (ns := ns ++ ks ++ dk) (vs := us ++ ws ++ dk.map dv) k1 (by rw [List.length_append, ll, List.length_append (as := us ++ ws), List.length_map]) k2
  rw [← eA] at q1 q2
  -- which of the names by name alone have no value yet
  have lookN : ∀ n ∈ kn, ((ns.zip us ++ ks.zip ws).lookup n).isNone = !ks.contains n := fun n hn => by
    have n1 : n ∉ ns := fun z => (List.nodup_append.mp hnd).2.2 n z n hn rfl
    by_cases hk : n ∈ ks
    · have : ((ns.zip us ++ ks.zip ws).lookup n).isSome = true := by
        rw [eL]
        have hm : n ∈ ns ++ ks := List.mem_append_right _ hk
        obtain ⟨i, hi, e⟩ := List.getElem_of_mem hm
        have hv : (us ++ ws)[i]? = some ((us ++ ws)[i]'(by simp at hi ⊢; omega)) := List.getElem?_eq_getElem _
        rw [look_zip k1' (List.getElem?_eq_some_iff.mpr ⟨hi, e⟩) hv] <;> rfl
      have c : ks.contains n = true := by simpa using hk
      rw [c]
      cases hh : (ns.zip us ++ ks.zip ws).lookup n with
      | none => rw [hh] at this; cases this
      | some _ => rfl
    · have c : ks.contains n = false := by simpa using hk
      rw [c]
      cases hh : (ns.zip us ++ ks.zip ws).lookup n with
      | none => rfl
      | some v =>
        exfalso
        have : n ∈ (ns.zip us ++ ks.zip ws).map (·.1) := List.mem_map.mpr ⟨_, PySem.mem_of_lookup hh, rfl⟩
        rw [fsts] at this
        rcases List.mem_append.mp this with z | z
        · exact n1 z
        · exact hk z
  have filt : (kn.filter fun n => (List.lookup n (ns.zip us ++ ks.zip ws)).isNone) = dk := by
    rw [k4]
    exact List.filter_congr fun n hn => lookN n hn
  have miss : ns.filter (fun n => ((ns.zip us ++ ks.zip ws).lookup n).isNone) = [] := by
    rw [List.filter_eq_nil_iff]
    intro n hn
    obtain ⟨i, hi, e⟩ := List.getElem_of_mem hn
    have hv : us[i]? = some (us[i]'(by omega)) := List.getElem?_eq_getElem _
    have := look_zip (List.nodup_append.mp k1').1 (List.getElem?_eq_some_iff.mpr ⟨hi, e⟩) hv
    have h2 : (ns.zip us ++ ks.zip ws).lookup n = some (us[i]'(by omega)) := by rw [List.lookup_append, this] <;> rfl
    rw [h2]
    simp
  have hgt : ¬ us.length > ns.length := by omega
  unfold bindArgs
  simp only [ep, hd, hns1, hns2]
  simp only [List.map_nil, List.nil_append, List.append_nil, seqItems?, pure_bind, nostand, Option.getD, List.length_nil, List.drop_nil, Nat.sub_zero, List.take_length, List.drop_length, List.zip_nil_right, List.isEmpty_nil, Nat.zero_sub, List.forIn_nil]
  rw [kwLoop (ks.zip ws) (ns.zip us) (fun kv hkv sl hsl => ?_) (by rw [fsts]; exact k1')]
  · simp only [pure_bind, miss]
    simp only [hgt, decide_false, Bool.false_and, Bool.false_eq_true, if_false, List.isEmpty_nil, Bool.not_true, pure_bind]
    have hv : ∀ n ∈ dk, fd.kwdefaults = .ref D := fun n hn => hkd (fun z => by rw [z] at hn; cases hn)
    refine Looks.andThen (koLoop (fun sl => (sl, ([] : List Str))) dv kn (ns.zip us ++ ks.zip ws) (fun n hn sl hz => ?_) (fun n hn hz sl hz2 => ?_) (List.nodup_append.mp hnd).2.1) ?_
    · cases hh : List.lookup n sl with
      | none => rw [hh] at hz; cases hz
      | some v => simp [hh]
    · have nd : n ∈ dk := by
        rw [← filt]
        refine List.mem_filter.mpr ⟨hn, ?_⟩
        cases hh : List.lookup n (ns.zip us ++ ks.zip ws) with
        | none => rfl
        | some v => rw [hh] at hz; cases hz
      have hno : List.lookup n sl = none := by
        cases hh : List.lookup n sl with
        | none => rfl
        | some v => rw [hh] at hz2; cases hz2
      simp only [hno, hv n nd, Option.isNone_none, if_true]
      exact (hns n nd).andThen (Looks.of_pure rfl)
    · rw [filt]
      refine Looks.of_pure ?_
      simp only [List.isEmpty_nil, Bool.not_true, Bool.false_eq_true, if_false]
      rw [q1]
  · have : kv.1 ∈ ns ++ kn := by simpa using k3 kv.1 (List.of_mem_zip hkv).1
    rcases List.mem_append.mp this with z | z <;> simp [z, hsl]
inductive Kq where
  | non
  | bl (b : Bool)
  | int (i : Int)
  | str (x : Str)
def Kq.d : Kq → D
  | .non => .non
  | .bl b => .bl b
  | .int i => .int i
  | .str x => .str x
def Kq.v : Kq → V
  | .non => .non
  | .bl b => .bl b
  | .int i => .int i
  | .str x => .str x
def Kq.dv : Kq → He.Dv
  | .non => .non
  | .bl b => .bl b
  | .int i => .int i
  | .str x => .str x
def Kq.same : Kq → Kq → Bool
  | .non, .non => true
  | .bl a, .bl b => a == b
  | .int a, .int b => decide (a = b)
  | .str a, .str b => decide (a = b)
  | _, _ => false
theorem Kq.dv_v (K : Fg) (k : Kq) : k.dv.v K = k.v := by cases k <;> rfl
theorem Kq.rel {C : Fg} {R : Rg} {H : Hp} (k : Kq) : RelD C R H k.d k.v := by
  cases k
  · exact m_non
  · exact m_bl
  · exact m_int
  · exact m_str
/-- how a call binds where parameters stand by name alone -/
def KoB (K : Fg) (fd : FuncData) (ps : List Str) (np : Nat) (dfl : List (Str × Kq)) : Prop :=
  ∃ dv : Str → Value, (∀ p ∈ dfl, RelV p.2.v (dv p.1)) ∧ ∀ (ks : List Str) (pi : List Nat) (s : Shared) (us ws : List Value), K.In s.heap → us.length = np → ws.length = ks.length →
    koB ps np ks ((dfl.filter fun p => !ks.contains p.1).map (·.1)) pi = true → BindsTo s fd ⟨us, ks.zip ws⟩ (ps.zip (pick pi (us ++ ws ++ ((dfl.filter fun p => !ks.contains p.1).map (·.1)).map dv)))
theorem koB_of {K : Fg} {x qual : Str} {params : Arguments} {body : List Stmt} {scope : Scope} {kws : List (Str × V)} {f : Addr} {fd : FuncData} {ps : List Str} {np : Nat} {dfl : List (Str × Kq)} (Fu : FunD K x qual params body scope [] kws f fd) (hp : koA params = some (ps, np)) (hn : (dfl.map (·.1)).Nodup) (hk : ∀ p ∈ dfl, (p.1, p.2.v) ∈ kws) : KoB K fd ps np dfl := by
  obtain ⟨oc, od, dV, kV, doc, pm, an, cdv, ct, osl, rfl, lk, hcd, hdv, hkw⟩ := Fu.ex
  have hd : dV = .none := by
    rcases hdv with ⟨_, z⟩ | ⟨z, _⟩
    · exact z
    · exact absurd rfl z
  subst hd
  by_cases h0 : dfl = []
  · subst h0
    refine ⟨fun _ => .none, fun p h => by simp at h, fun ks pi s us ws X hu hw hb => ?_⟩
    exact BindsTo.of_looks fun M => bind_ko (fd := PySem.W.fnOf x qual params body scope .none kV doc pm an cdv ct) (D := 0) (fun _ => .none) hp rfl (fun z => absurd rfl z) hu hw (fun n h => by simp at h) hb
  · have hkne : kws ≠ [] := fun z => by
      obtain ⟨p, l, e⟩ := List.exists_cons_of_ne_nil h0
      have := hk p (by rw [e]; exact List.mem_cons_self)
      rw [z] at this; cases this
    rcases hkw with e | ⟨D, rfl, hq⟩
    · exact absurd e hkne
    · have ex : ∀ p ∈ dfl, ∃ u, PySem.W.nsIn K D p.1 = some (some u) ∧ RelV p.2.v u := fun p hpm => hq (p.1, p.2.v) (hk p hpm)
      let dv : Str → Value := fun n => match PySem.W.nsIn K D n with
        | some (some u) => u
        | _ => .none
      have dvp : ∀ p ∈ dfl, PySem.W.nsIn K D p.1 = some (some (dv p.1)) ∧ RelV p.2.v (dv p.1) := fun p hpm => by
        obtain ⟨u, e, r⟩ := ex p hpm
        have : dv p.1 = u := by show (match PySem.W.nsIn K D p.1 with | some (some u) => u | _ => .none) = u; rw [e]
        rw [this]; exact ⟨e, r⟩
      refine ⟨dv, fun p hpm => (dvp p hpm).2, fun ks pi s us ws X hu hw hb => ?_⟩
      refine BindsTo.of_looks fun M => bind_ko (fd := PySem.W.fnOf x qual params body scope .none (.ref D) doc pm an cdv ct) (D := D) dv hp rfl (fun _ => rfl) hu hw (fun n h => ?_) hb
      obtain ⟨p, hpf, rfl⟩ := List.mem_map.mp h
      exact PySem.W.looks_nsIn X (dvp p (List.mem_filter.mp hpf).1).1
section
variable {X : Cx} {C : Cn} {Wx : WX}
end
end DL
set_option maxHeartbeats 4000000
namespace DL
open PySem PySem.Spec PyProof.Rows L2
section
variable {X : Cx} {C : Cn} {Wx : WX}
def noC0 : Expr → Bool
  | .Call _ [] [] _ => false
  | _ => true
theorem base_ok {o : Expr} {at_ : Str} {env : PySem.Env} {w : Sem Value} (h : noC0 o = true) : attributeBase o at_ env w = w := by
  cases o with
  | Call f as kws p =>
    cases as with
    | cons a as => cases f <;> rfl
    | nil =>
      cases kws with
      | nil => cases h
      | cons k kws => cases f <;> rfl
  | _ => rfl
def mmI (mx : Bool) (i j : Int) : Int := if mx = true then max i j else min i j
def mmN (mx : Bool) : Str := if mx = true then "max" else "min"
def dMM (mx : Bool) (ta tb : TDE) : TDE := fun ds h P Z => dCons ta (dCons tb dNil) ds h (fun xs h' => ∃ i j, xs = [.int i, .int j] ∧ P (.d (.int (mmI mx i j))) h') Z
theorem de_mm {mx : Bool} {a b : Expr} {ta tb : TDE} {p pos : Pos} (hc : X.calm = true) (hg : Gl X (mmN mx)) (hm : X.mg (mmN mx) = none) (ha : PE X a (lift C Wx ta)) (hb : PE X b (lift C Wx tb)) (he : starEach [a, b] X.env = (false, eval a X.env) :: starEach [b] X.env) (hs2 : starEach [b] X.env = (false, eval b X.env) :: starEach [] X.env) :
    PE X (.Call (.Name (mmN mx) p) [a, b] [] pos) (lift C Wx (dMM mx ta tb)) := by
  have hpl : (backTo pos (starEach [b] X.env)).any (·.1) = false := by rw [hs2]; rfl
  have arg : PA X [a, b] (liftA C Wx (dCons ta (dCons tb dNil))) := da_cons ha (da_cons hb da_nil hs2) he
  have fin : ∀ {r : List V → Hp → VK → Prop}, (∀ i j H Q, Q (.int (mmI mx i j)) H → r [.int i, .int j] H Q) → PE X (.Call (.Name (mmN mx) p) [a, b] [] pos) (tCB r (liftA C Wx (dCons ta (dCons tb dNil)))) → PE X (.Call (.Name (mmN mx) p) [a, b] [] pos) (lift C Wx (dMM mx ta tb)) := fun hr pe => pe.imD fun σ H Q q => by
    obtain ⟨R, ds, h, P, Z, e, p, k, z⟩ := q
    refine ⟨R, ds, h, _, Z, e, p, fun R' H' h' xs vs ⟨i, j, hx, p'⟩ x e' r => ?_, z⟩
    subst hx
    obtain ⟨v1, q1, rfl, r1, r2⟩ := r_cons r
    obtain ⟨v2, q2, rfl, r3, r4⟩ := r_cons r2
    cases r_nil r4
    cases r_int r1
    cases r_int r3
    exact hr i j H' Q (k R' H' h' _ _ p' x e' mw_int)
  cases mx with
  | true => exact fin (fun i j H Q q => ⟨i, j, rfl, by
      have e : mmI true i j = if j > i then j else i := by unfold mmI; simp only [if_true]; split <;> omega
      rw [← e]; exact q⟩) (pe_callB (call_max2 hc) hg hm (by decide +kernel) arg (he := he) (hpl := hpl))
  | false => exact fin (fun i j H Q q => ⟨i, j, rfl, by
      have e : mmI false i j = if j < i then j else i := by unfold mmI; simp; split <;> omega
      rw [← e]; exact q⟩) (pe_callB (call_min2 hc) hg hm (by decide +kernel) arg (he := he) (hpl := hpl))
/-- the best of a sequence of ints -/
def Best (mx : Bool) (ns : List Int) (m : Int) : Prop := m ∈ ns ∧ ∀ y ∈ ns, if mx = true then y ≤ m else m ≤ y
theorem old2 {s : Shared} {o1 : Obj} {h' : Heap} (hk : ∀ b o, b ∉ [s.heap.objs.size] → (s.heap.push o1).get? b = some o → h'.get? b = some o) : ∀ b o, s.heap.get? b = some o → h'.get? b = some o := fun b o e => hk b o (fun hm => by
  rcases List.mem_cons.mp hm with e1 | hm
  · exact absurd (e1 ▸ Heap.lt_size e) (Nat.lt_irrefl _)
  · cases hm) (Heap.get?_push_of_some _ e)
theorem best_tup {mx : Bool} {prog : Program} {w : World} {A : Around} {E : Value → Shared → Prop} {s : Shared} {l : Addr} {its : List Value} {ns : List Int} {Q : Value → Shared → Prop} (hh : A.handled = none) (hl : s.heap.IsTuple l its.toArray) (hi : IntsAre its ns) (hne : 0 < ns.length)
    (h : ∀ h' tk m t', (∀ b o, s.heap.get? b = some o → h'.get? b = some o) → Best mx ns m → Q (.int m t') { s with heap := h', toks := tk }) : wpAny (model prog w) A (call (.builtin (if mx = true then "max" else "min")) [.ref l]) Q E s := by
  obtain ⟨xs, e⟩ := hi.allInts.items
  have hn : numsOf (intItems xs).toList = ns := by rw [← e]; exact hi.numsOf
  rw [nums_intItems] at hn
  subst hn
  rw [e] at hl
  have hsz : 0 < (intItems xs).size := by simpa [intItems] using hne
  have hlt : l < s.heap.objs.size := by obtain ⟨_, z, _⟩ := hl; exact Heap.lt_size z
  have fp : ∀ (o1 : Obj), ∀ b ∈ [s.heap.objs.size, l], b < (s.heap.push o1).objs.size := fun o1 b hb => by
    rw [Heap.size_push]
    rcases List.mem_cons.mp hb with rfl | hb
    · exact Nat.lt_succ_self _
    · rcases List.mem_cons.mp hb with rfl | hb
      · exact Nat.lt_succ_of_lt hlt
      · cases hb
  have at_ : ∀ {bt : Nat → Nat → Bool} {v : Value}, (intItems xs)[argBest bt ((intItems xs).size - 1)]? = some v → ∃ t, v = .int (numAt xs (argBest bt (xs.size - 1))) t := fun {bt v} hv => by
    have : (intItems xs).size = xs.size := by simp [intItems]
    rw [this] at hv
    exact intItems_at hv
  have mem : ∀ i, i ≤ xs.size - 1 → numAt xs i ∈ xs.toList.map (·.1) := fun i hi => by
    rw [numAt_eq]; exact PySem.getD_mem (by rw [List.length_map, Array.length_toList]; have : (intItems xs).size = xs.size := (by simp [intItems]); omega)
  cases mx with
  | true =>
    refine call_max_walk (wpAny_pyIter_tuple hl ?_)
    refine ⟨_, [_, l], [_], _, _, _, _, rfl, Walks.tuple (A := A.in1) hh _ l (Nat.ne_of_lt hlt) (intItems xs), ⟨⟨_, Heap.get?_push_size _ rfl, rfl, rfl⟩, hl.push _⟩, fp _, hsz, CmpOf.ints_gt (numAt xs) (fun _ _ => intItems_at), fun v h' tk hP hk => ?_⟩
    obtain ⟨t, rfl⟩ := at_ hP
    obtain ⟨h1, h2⟩ := argBest_gt (numAt xs) (xs.size - 1)
    refine h h' tk _ t (old2 hk) ⟨mem _ h1, fun a ha => ?_⟩
    obtain ⟨j, hj, rfl⟩ := mem_getD ha
    rw [List.length_map, Array.length_toList] at hj
    simp only [if_true]
    rw [← numAt_eq]; exact h2 j (by omega)
  | false =>
    refine call_min_walk (wpAny_pyIter_tuple hl ?_)
    refine ⟨_, [_, l], [_], _, _, _, _, rfl, Walks.tuple (A := A.in1) hh _ l (Nat.ne_of_lt hlt) (intItems xs), ⟨⟨_, Heap.get?_push_size _ rfl, rfl, rfl⟩, hl.push _⟩, fp _, hsz, CmpOf.ints_lt (numAt xs) (fun _ _ => intItems_at), fun v h' tk hP hk => ?_⟩
    obtain ⟨t, rfl⟩ := at_ hP
    obtain ⟨h1, h2⟩ := argBest_lt (numAt xs) (xs.size - 1)
    refine h h' tk _ t (old2 hk) ⟨mem _ h1, fun a ha => ?_⟩
    obtain ⟨j, hj, rfl⟩ := mem_getD ha
    rw [List.length_map, Array.length_toList] at hj
    simp only [Bool.false_eq_true, if_false]
    rw [← numAt_eq]; exact h2 j (by omega)
def rMx (K : Fg) (mx : Bool) : List V → Hp → VK → Prop := fun vs H Q => ∃ (a : Addr) (ns : List Int), vs = [V.ref a] ∧ (SqL K H a (ns.map V.int) ∨ SqT K H a (ns.map V.int)) ∧ 0 < ns.length ∧ ∀ m, Best mx ns m → Q (.int m) H
theorem cr_mx {mx : Bool} (hc : X.calm = true) : CallR X (.builtin (if mx = true then "max" else "min")) (rMx X.K mx) := by
  intro pins s σ H vs us Q I r h
  obtain ⟨a, ns, rfl, hs | hs, hne, q⟩ := h
  · cases mx with
    | true => exact cr_max hc pins s σ H _ us Q I r ⟨a, ns, rfl, hs, hne, fun m h1 h2 => q m ⟨h1, fun y hy => by simpa using h2 y hy⟩⟩
    | false => exact cr_min hc pins s σ H _ us Q I r ⟨a, ns, rfl, hs, hne, fun m h1 h2 => q m ⟨h1, fun y hy => by simpa using h2 y hy⟩⟩
  · obtain ⟨its, rv, hl, _⟩ := I.tuple hs
    rw [Vals.ref1 r]
    exact best_tup (I.ok.hd hc) hl rv.ints hne fun h' tk m t' hk hb => ⟨.int _, H, I.kept hk, ⟨_, rfl⟩, q m hb⟩
def wMx (mx : Bool) (x : W) (Q : W → Prop) : Prop := ∃ ns : List Int, seqW x = some (ns.map D.int) ∧ 0 < ns.length ∧ ∀ m, Best mx ns m → Q (.d (.int m))
theorem de_mx {mx : Bool} {a : Expr} {ta : TDE} {p pos : Pos} (hK : C.K = X.K) (hc : X.calm = true) (hg : Gl X (mmN mx)) (hm : X.mg (mmN mx) = none) (ha : PE X a (lift C Wx ta)) (he : starEach [a] X.env = (false, eval a X.env) :: starEach [] X.env) :
    PE X (.Call (.Name (mmN mx) p) [a] [] pos) (lift C Wx (dOp1 (wMx mx) ta)) := by
  have ar : PA X [a] (tCons (lift C Wx ta) tNil) := pa_cons ha pa_nil he
  have fin : PE X (.Call (.Name (mmN mx) p) [a] [] pos) (tCB (rMx X.K mx) (tCons (lift C Wx ta) tNil)) → PE X (.Call (.Name (mmN mx) p) [a] [] pos) (lift C Wx (dOp1 (wMx mx) ta)) := fun pe => pe.imD fun σ H Q q => by
    obtain ⟨R, ds, h, P, Z, e, p, k, z⟩ := q
    refine ⟨R, ds, h, _, Z, e, p, fun R1 H1 h1 w1 v1 ⟨ns, e1, hn, p1⟩ x1 e1' r1 => ?_, z⟩
    obtain ⟨a, vs, rfl, q, t⟩ := rel_seq r1 e1
    cases relDs_ints t
    exact ⟨a, ns, rfl, hK ▸ q, hn, fun m hb => k R1 H1 h1 _ _ (p1 m hb) x1 e1' mw_int⟩
  cases mx with
  | true => exact fin (pe_callB (cr_mx (mx := true) hc) hg hm (by decide +kernel) ar (he := he))
  | false => exact fin (pe_callB (cr_mx (mx := false) hc) hg hm (by decide +kernel) ar (he := he))
def wBl (x : W) (Q : W → Prop) : Prop := match x with
  | .d (.int i) => Q (.d (.int (Builtin.Int.intBits i : Nat)))
  | _ => False
theorem de_blen {o : Expr} {ta : TDE} {apos pos : Pos} (ha : PE X o (lift C Wx ta)) (hbase : attributeBase o "bit_length" X.env (eval o X.env) = eval o X.env) (hline : (apos.endLine == pos.line) = true) : PE X (.Call (.Attribute o "bit_length" apos) [] [] pos) (lift C Wx (dOp1 wBl ta)) :=
  (pe_bits ha hbase hline).imD fun σ H Q q => by
    obtain ⟨R, ds, h, P, Z, e, p, k, z⟩ := q
    refine ⟨R, ds, h, _, Z, e, p, fun R1 H1 h1 w1 v1 p1 x1 e1 r1 => ?_, z⟩
    unfold wBl at p1
    split at p1
    · exact ⟨_, rw_int r1, k R1 H1 h1 _ _ p1 x1 e1 mw_int⟩
    · exact p1.elim
def wJoin (x y : W) (Q : W → Prop) : Prop := ∃ (a : Str) (ys : List Str), x = .d (.str a) ∧ seqW y = some (ys.map D.str) ∧ (ys.map (·.length)).sum + ys.length * a.length ≤ 16777216 ∧ Q (.d (.str (Txt.join a ys)))
def dJoin (ta tb : TDE) : TDE := fun ds h P Z => ta ds h (fun x h1 => (∃ a, x = .d (.str a)) ∧ tb ds h1 (fun y h2 => wJoin x y fun z => P z h2) Z) Z
theorem de_join {o b : Expr} {ta tb : TDE} {apos pos : Pos} (hK : C.K = X.K) (ha : PE X o (lift C Wx ta)) (hb : PE X b (lift C Wx tb)) (hs : starEach [b] X.env = [(false, eval b X.env)]) (hbase : attributeBase o "join" X.env (eval o X.env) = eval o X.env) (hline : (apos.endLine == pos.line) = true) :
    PE X (.Call (.Attribute o "join" apos) [b] [] pos) (lift C Wx (dJoin ta tb)) :=
  (pe_join ha hb hs hbase hline).imD fun σ H Q q => by
    obtain ⟨R, ds, h, P, Z, e, p, k, z⟩ := q
    refine ⟨R, ds, h, _, Z, e, p, fun R1 H1 h1 w1 v1 ⟨⟨a, ex⟩, p1⟩ x1 e1 r1 => ?_, z⟩
    subst ex
    cases rw_str r1
    refine ⟨⟨_, rfl⟩, R1, ds, h1, _, Z, e1, p1, fun R2 H2 h2 w2 v2 ⟨a', ys, ea, ey, hl, p2⟩ x2 e2 r2 => ?_, fun R' H' h' x cls dd a b c d => z R' H' h' x cls dd a (x1.trans b) c d⟩
    cases ea
    obtain ⟨b, vs, rfl, q, t⟩ := rel_seq r2 ey
    cases relDs_strs t
    exact ⟨_, b, ys, rfl, rfl, hK ▸ q, hl, k R2 H2 h2 _ _ p2 (x1.trans x2) e2 mw_str⟩
def wRevL (x : W) (Q : W → Prop) : Prop := ∃ xs, lstW x = some xs ∧ Q (.new xs.reverse)
theorem de_revL {a : Expr} {ta : TDE} {k : Nat} {p1 p2 p3 pos : Pos} (hK : C.K = X.K) (ha : PE X a (lift C Wx ta)) : PE X (.Subscript a (.Slice none none (some (.UnaryOp .USub (.Constant (.int 1) k p1) p2)) p3) pos) (lift C Wx (dOp1 wRevL ta)) :=
  (pe_revL ha).imD fun σ H Q q => by
    obtain ⟨R, ds, h, P, Z, e, p, k, z⟩ := q
    refine ⟨R, ds, h, _, Z, e, p, fun R1 H1 h1 w1 v1 ⟨xs, e1, pq⟩ x1 e1' r1 => ?_, z⟩
    obtain ⟨l, vs, rfl, q, t⟩ := rel_lst r1 e1
    exact ⟨l, vs, rfl, hK ▸ q, fun pp np => k R1 _ h1 _ _ pq (x1.trans (Ex.fresh np)) (e1'.fresh np) (m_new e1' x1 np (relDs_rev t))⟩
def dwnD (lo : Int) (n : Nat) : List D := (List.range n).map fun (i : Nat) => .int (lo - (i : Int))
def dItR3 (t u v : TDE) : TDI := fun ds h P Z => dCons t (dCons u (dCons v dNil)) ds h (fun xs h' => ∃ i j, xs = [.int i, .int j, .int (-1)] ∧ (-(2 ^ 62) ≤ i ∧ i < 2 ^ 62 ∧ -(2 ^ 62) ≤ j ∧ j < 2 ^ 62) ∧ P (dwnD i (i - j).toNat) h') Z
theorem src_dwn {R : Rg} {H : Hp} {lo : Int} {n : Nat} : Src C R H (dwnD lo n) (Itc lo (-1) n) := by
  have hl : (dwnD lo n).length = n := by unfold dwnD; simp
  refine ⟨fun i _ _ _ hi => by rw [hl] at hi; exact hi, fun _ _ _ => by rw [hl]; exact Nat.le_refl n, fun i R2 H2 v H3 d ds σ h m e2 hd y => ?_⟩
  obtain ⟨rfl, rfl⟩ := y
  have hi : i < n := by rw [← hl]; exact (List.getElem?_eq_some_iff.mp hd).1
  have : D.int (lo - (i : Int)) = d := by
    unfold dwnD at hd
    rw [List.getElem?_map, List.getElem?_range hi] at hd
    cases hd; rfl
  subst this
  have e : lo + (i : Int) * -1 = lo - (i : Int) := by omega
  rw [e]
  exact ⟨Ex.refl _ _, e2, m_int⟩
theorem di_r3 {tg a b c : Expr} {t u v : TDE} {p pos : Pos} (hg : Gl X "range") (hm : X.mg "range" = none) (ha : PE X a (lift C Wx t)) (hb : PE X b (lift C Wx u)) (hc : PE X c (lift C Wx v)) (h1 : starEach [a, b, c] X.env = (false, eval a X.env) :: starEach [b, c] X.env) (h2 : starEach [b, c] X.env = (false, eval b X.env) :: starEach [c] X.env) (h3 : starEach [c] X.env = (false, eval c X.env) :: starEach [] X.env) :
    PI X tg (.Call (.Name "range" p) [a, b, c] [] pos) (liftI C Wx (dItR3 t u v)) :=
  (pi_range3 hg hm (da_cons ha (da_cons hb (da_cons hc da_nil h3) h2) h1) h1 (by rw [h2, h3]; rfl)).imD fun σ H Q q => by
    obtain ⟨R, ds, h, P, Z, e, p, k, z⟩ := q
    refine ⟨R, ds, h, _, Z, e, p, fun R' H' h' d v ⟨i, j, hd, ⟨l1, l2, l3, l4⟩, p'⟩ x e' r => ?_, z⟩
    subst hd
    obtain ⟨v1, vr, rfl, r1, r2⟩ := r_cons r
    obtain ⟨v2, vr, rfl, rb, r3⟩ := r_cons r2
    obtain ⟨v3, vr, rfl, rc, r4⟩ := r_cons r3
    cases r_nil r4
    cases r_int r1
    cases r_int rb
    cases r_int rc
    exact ⟨i, j, -1, _, rfl, RgC.neg l1 l2 l3 l4, k R' H' h' _ _ p' x e' src_dwn⟩
def dExt (i : Nat) (t : TDE) : TDS := fun ds h P => ∃ xs, ds[i]? = some (some (.own xs)) ∧ t ds h (fun w h' => ∃ ys, (w = .new ys ∨ w = .d (.lst ys)) ∧ xs.length + ys.length ≤ sizeLine ∧ P.nx (ds.set i (some (.own (xs ++ ys)))) h') (fun x h' => P.ex x ds h')
theorem ds_ext {i : Nat} {x : Str} {e : Expr} {t : TDE} {p1 apos cpos pos : Pos} (hN : X.N[i]? = some x) (hv : Vis X.env.scope x) (hd : (x == ("__debug__" : Str)) = false) (hcd : (x == ("__classdict__" : Str)) = false) (he : PE X e (lift C Wx t))
    (hs : starEach [e] X.env = (false, eval e X.env) :: starEach [] X.env) (hline : (apos.endLine == cpos.line) = true) (hpl : (((backTo cpos (starEach [e] X.env)).all (fun x => !x.1) && (backToKw cpos (keywordEach [] X.env)).all fun x => x.1.isSome) && decide (([e].length + ([] : List Keyword).length + if ([] : List Keyword).isEmpty = true then 0 else 1) < 30)) = true) (hb : attributeBase (.Name x p1) "extend" X.env (eval (.Name x p1) X.env) = eval (.Name x p1) X.env)
    (hsw : swapsWith (.Call (.Attribute (.Name x p1) "extend" apos) [e] [] cpos) none pos.line X.env = pure false) :
    PS X (.Expr (.Call (.Attribute (.Name x p1) "extend" apos) [e] [] cpos) pos) (liftS C Wx (dExt i t)) :=
  (ps_expr (pe_bm PySem.F.plainAttrs_list PySem.F.slot_list_extend PySem.F.type_list_extend mt_extend (pe_var hN hv hd hcd) (pa_cons he pa_nil hs) hb hpl hline hs) hsw).imD fun D σ H q => by
    obtain ⟨R, ds, h, P, e, ⟨xs, hi, p⟩, k⟩ := q
    obtain ⟨v, hv, a, vs, rfl, q, nf, o, tt⟩ := e.slot i _ hi
    refine ⟨.ref a, hv, .inl ⟨rfl, vs, .inl (.inl q)⟩, R, ds, h, _, _, e, p, fun R' H' h' w u ⟨ys, hw, hl, p'⟩ x e' r => ?_, k.exE e⟩
    have rs := e'.relW hi hv
    obtain ⟨a', vs', ea, q', nf', o', tt'⟩ := rs
    cases ea
    have hw' : lsjW w = some ys := by rcases hw with rfl | rfl <;> rfl
    obtain ⟨b, us, rfl, qb, tb⟩ := rel_lsj r hw'
    obtain ⟨e2, m2⟩ := e'.wr hi hv (relDs_append tt' tb)
    exact ⟨a, b, vs', us, rfl, rfl, q', qb, by rw [← relDs_len tt', ← relDs_len tb]; exact hl, k.nx R' _ _ _ h' e2 ((x.mo e.ok).trans m2) p'⟩
end
end DL
set_option maxHeartbeats 4000000
namespace DL
open PySem PySem.Spec PyProof.Rows L2
section
variable {X : Cx} {C : Cn} {Wx : WX}
/-- how many numbers range(a, b, c) has -/
def rszN (a b c : Int) : Nat := (Builtin.Range.rangeSize a b c).toNat
theorem rsz_bd {a b c : Int} (ha : 0 ≤ a) (hb : 0 ≤ b) (hc : 1 ≤ c) : 0 ≤ Builtin.Range.rangeSize a b c ∧ Builtin.Range.rangeSize a b c ≤ b := by
  unfold Builtin.Range.rangeSize
  rw [if_pos (by omega)]
  split
  · have h1 := Int.ediv_nonneg (a := b - a - 1) (b := c) (by omega) (by omega)
    have h2 := Int.ediv_le_self c (show (0 : Int) ≤ b - a - 1 by omega)
    omega
  · omega
theorem RgC.pos {a b c : Int} (ha : 0 ≤ a) (ha' : a < 2 ^ 40) (hb : 0 ≤ b) (hb' : b < 2 ^ 40) (hc : 1 ≤ c) (hc' : c < 1073741824) : RgC a b c (rszN a b c) := by
  obtain ⟨h1, h2⟩ := rsz_bd ha hb hc
  refine ⟨by omega, by omega, ?_, ?_⟩
  · unfold Builtin.Range.small
    simp only [Builtin.Range.rangeFitsLong, Bool.and_eq_true, Bool.or_eq_true, decide_eq_true_eq, beq_iff_eq]
    rw [if_pos (by omega)]
    simp only [Bool.and_eq_true, decide_eq_true_eq]
    omega
  · unfold rszN; omega
def stpD (lo c : Int) (n : Nat) : List D := (List.range n).map fun (i : Nat) => .int (lo + (i : Int) * c)
def dItR4 (t u v : TDE) : TDI := fun ds h P Z => dCons t (dCons u (dCons v dNil)) ds h (fun xs h' => ∃ i j c, xs = [.int i, .int j, .int c] ∧ (0 ≤ i ∧ i < 2 ^ 40 ∧ 0 ≤ j ∧ j < 2 ^ 40 ∧ 1 ≤ c ∧ c < 1073741824) ∧ P (stpD i c (rszN i j c)) h') Z
theorem src_stp {R : Rg} {H : Hp} {lo c : Int} {n : Nat} : Src C R H (stpD lo c n) (Itc lo c n) := by
  have hl : (stpD lo c n).length = n := by unfold stpD; simp
  refine ⟨fun i _ _ _ hi => by rw [hl] at hi; exact hi, fun _ _ _ => by rw [hl]; exact Nat.le_refl n, fun i R2 H2 v H3 d ds σ h m e2 hd y => ?_⟩
  obtain ⟨rfl, rfl⟩ := y
  have hi : i < n := by rw [← hl]; exact (List.getElem?_eq_some_iff.mp hd).1
  have : D.int (lo + (i : Int) * c) = d := by
    unfold stpD at hd
    rw [List.getElem?_map, List.getElem?_range hi] at hd
    cases hd; rfl
  subst this
  exact ⟨Ex.refl _ _, e2, m_int⟩
theorem di_r4 {tg a b c : Expr} {t u v : TDE} {p pos : Pos} (hg : Gl X "range") (hm : X.mg "range" = none) (ha : PE X a (lift C Wx t)) (hb : PE X b (lift C Wx u)) (hc : PE X c (lift C Wx v)) (h1 : starEach [a, b, c] X.env = (false, eval a X.env) :: starEach [b, c] X.env) (h2 : starEach [b, c] X.env = (false, eval b X.env) :: starEach [c] X.env) (h3 : starEach [c] X.env = (false, eval c X.env) :: starEach [] X.env) :
    PI X tg (.Call (.Name "range" p) [a, b, c] [] pos) (liftI C Wx (dItR4 t u v)) :=
  (pi_range3 hg hm (da_cons ha (da_cons hb (da_cons hc da_nil h3) h2) h1) h1 (by rw [h2, h3] <;> rfl)).imD fun σ H Q q => by
    obtain ⟨R, ds, h, P, Z, e, p, k, z⟩ := q
    refine ⟨R, ds, h, _, Z, e, p, fun R' H' h' d v ⟨i, j, cc, hd, ⟨l1, l2, l3, l4, l5, l6⟩, p'⟩ x e' r => ?_, z⟩
    subst hd
    obtain ⟨v1, vr, rfl, r1, r2⟩ := r_cons r
    obtain ⟨v2, vr, rfl, rb, r3⟩ := r_cons r2
    obtain ⟨v3, vr, rfl, rc, r4⟩ := r_cons r3
    cases r_nil r4
    cases r_int r1
    cases r_int rb
    cases r_int rc
    exact ⟨i, j, cc, _, rfl, RgC.pos l1 l2 l3 l4 l5 l6, k R' H' h' _ _ p' x e' src_stp⟩
end
end DL
set_option maxHeartbeats 4000000
namespace DL
open PySem PySem.Spec PyProof.Rows L2
section
variable {X : Cx} {C : Cn} {Wx : WX}
end
end DL
set_option maxHeartbeats 8000000
namespace DL
open PySem PySem.Spec PyProof.Rows L2
/-- the tuple at a beside the list at b, of one length: new pairs -/
def ItZm (K : Fg) (a b : Addr) : It :=
  ⟨fun i H => ∃ (xs ys : List V) (x y : V), SqT K H a xs ∧ SqL K H b ys ∧ xs[i]? = some x ∧ ys[i]? = some y,
    fun i H v H' => ∃ T x y, v = .ref T ∧ H T = none ∧ H' = upd H T (.tup [x, y]) ∧ (∀ l, SqT K H a l → l[i]? = some x) ∧ ∀ l, SqL K H b l → l[i]? = some y,
    fun i H => ∃ xs ys : List V, SqT K H a xs ∧ SqL K H b ys ∧ xs.length = i ∧ ys.length = i⟩
/-- the cells of such a zip -/
structure ZmA (z p q c d a b : Addr) : Prop where
  pz : p ≠ z
  qz : q ≠ z
  pq : p ≠ q
  pc : p ≠ c
  pd : p ≠ d
  zc : z ≠ c
  zd : z ≠ d
  qc : q ≠ c
  qd : q ≠ d
  cd : c ≠ d
  ac : a ≠ c
  ad : a ≠ d
  bc : b ≠ c
  bd : b ≠ d
  za : z ≠ a
  zb : z ≠ b
  qa : q ≠ a
  qb : q ≠ b
theorem ZmA.sep {z p q c d a b : Addr} (D : ZmA z p q c d a b) : ZipSep2 z p q c d [c, a] [d, b] where
  TIz := D.pz
  TOz := D.qz
  TITO := D.pq
  TIi1 := D.pc
  mem1 := by simp
  zf1 := by simp [D.zc, D.za]
  Tf1 := by simp [D.qc, D.qa]
  TIi2 := D.pd
  mem2 := by simp
  zf2 := by simp [D.zd, D.zb]
  Tf2 := by simp [D.qd, D.qb]
  sep1_2 := by simp [D.cd, Ne.symm D.bc]
  sep2_1 := by simp [Ne.symm D.cd, Ne.symm D.ad]
theorem mem5 {x z p q c d : Addr} (h : x ∈ [z, p, q, c, d]) : x = z ∨ x = p ∨ x = q ∨ x = c ∨ x = d := by simpa using h
theorem zmA_of (n a b : Nat) (ha : a < n) (hb : b < n) : ZmA (n + 4) (n + 2) (n + 3) n (n + 1) a b := by constructor <;> (intro g; have g : _ = (_ : Nat) := g; omega)
theorem mem5n {n x : Nat} (h : x ∈ [n + 4, n + 2, n + 3, n, n + 1]) : n ≤ x := by
  have : x = n + 4 ∨ x = n + 2 ∨ x = n + 3 ∨ x = n ∨ x = n + 1 := by simpa using h
  omega
def ZmS (z p q c d a b : Addr) (i : Nat) (h : Heap) : Prop := IsZip h z p q .none ∧ IsTupOf2 h p (.ref c) (.ref d) ∧ (∃ u v, IsTupOf2 h q u v) ∧ h.IsTupleIter c a i ∧ h.IsListIter d b i
theorem turn_zipM {P : Program} {w : World} {K : Fg} {elts : List Expr} {kk : Nat} {tpos : Pos} {z p q c d a b : Addr} (D : ZmA z p q c d a b) : Turn P w K (.Tuple elts kk tpos) (ItZm K a b) [z, p, q, c, d] z (ZmS z p q c d a b) where
  mem := List.mem_cons_self
  obj := fun i h st x hx => by
    obtain ⟨hz, hp, ⟨u, v, hq⟩, ⟨o1, e1, _, d1⟩, ⟨o2, e2, _, d2⟩⟩ := st
    rcases mem5 hx with g | g | g | g | g <;> subst g
    · exact ⟨_, hz, fun v g => by cases g⟩
    · exact ⟨_, hp, fun v g => by cases g⟩
    · exact ⟨_, hq, fun v g => by cases g⟩
    · exact ⟨o1, e1, fun v g => by rw [d1] at g; cases g⟩
    · exact ⟨o2, e2, fun v g => by rw [d2] at g; cases g⟩
  keep := fun i h h' st k => by
    obtain ⟨hz, hp, ⟨u, v, hq⟩, h1, h2⟩ := st
    exact ⟨k z (by simp) _ hz, k p (by simp) _ hp, ⟨u, v, k q (by simp) _ hq⟩, h1.at fun o g => k c (by simp) o g, h2.at fun o g => k d (by simp) o g⟩
  item := by
    intro X hP hw hK hc i pins s σ H E I hf st hg
    subst hP hw hK
    obtain ⟨hz, hp, ⟨u0, v0, hq⟩, h1, h2⟩ := st
    obtain ⟨xs, ys, x, y, sx, sy, gx, gy⟩ := hg
    obtain ⟨its, rv, pt, _⟩ := I.tuple sx
    obtain ⟨its2, rv2, pl, _⟩ := I.list sy
    obtain ⟨u, hu, ru⟩ := rv.get gx
    obtain ⟨v, hv, rv3⟩ := rv2.get gy
    have hu' : its.toArray[i]? = some u := by simpa using hu
    have hv' : its2.toArray[i]? = some v := by simpa using hv
    have D1 := Draws.tuple (prog := X.prog) (w := X.w) (A := X.A.in1) (I.ok.hd hc) c a D.ac its.toArray
    have D2 := Draws.list (prog := X.prog) (w := X.w) (A := X.A.in1) (I.ok.hd hc) d b D.bd its2.toArray
    have zl : z < s.heap.objs.size := Heap.lt_size hz
    have n1 : i < its.toArray.size := (Array.getElem?_eq_some_iff.mp hu').1
    have n2 : i < its2.toArray.size := (Array.getElem?_eq_some_iff.mp hv').1
    refine wpAny_pyNext_zipD2_item D.sep D1 D2 hz hp hq ⟨h1, pt⟩ ⟨h2, pl.isList⟩ n1 n2 fun x1 x2 h' tk g1 g2 z' q' c' d' t' _ kp => ?_
    have e1 : x1 = u := by rw [hu'] at g1; exact (Option.some.inj g1).symm
    have e2 : x2 = v := by rw [hv'] at g2; exact (Option.some.inj g2).symm
    subst e1 e2
    refine ⟨_, rfl, wpAny_letOwnedTupleGo_zip (s := { s with heap := h', toks := tk }) z' fun h'' z'' sb => ?_⟩
    have t2 : h''.get? s.heap.objs.size = some { cls := .type "tuple", data := .seq #[x1, x2] } := (sb.2 _ (Nat.ne_of_gt zl)).trans t'
    have nw : ObjOk X.prog X.w (upd H s.heap.objs.size (.tup [x, y])) h'' s.heap.objs.size (.tup [x, y]) := ⟨by show 2 ≤ sizeLine; decide, [x1, x2], .cons ru (.cons rv3 .nil), ⟨_, t2, rfl, _, rfl⟩⟩
    have old : ∀ e o, ¬ e ∈ [z, p, q, c, d] → s.heap.get? e = some o → h''.get? e = some o := fun e o ne g => by
      simp only [List.mem_cons, List.not_mem_nil, or_false, not_or] at ne
      exact (sb.2 e ne.1).trans (kp e o ne.1 ne.2.2.1 ne.2.2.2.1 ne.2.2.2.2 g)
    have J : Inv X pins σ (upd H s.heap.objs.size (.tup [x, y])) { s with heap := h'', toks := tk } := I.turnedNew (ch := [z, p, q, c, d]) (fun e o ne g => old e o ne g) hf (Nat.le_refl _) nw
    refine ⟨.ref s.heap.objs.size, _, J, rfl, ⟨_, x, y, rfl, I.hok.fresh (Nat.le_refl _), rfl, fun l hl => by rw [I.tuple_inj hl sx]; exact gx, fun l hl => by rw [I.list_inj hl sy]; exact gy⟩, ?_, fun e he => ?_⟩
    · refine ⟨z'', (sb.2 _ D.pz).trans (kp _ _ D.pz D.pq D.pc D.pd hp), ⟨x1, x2, (sb.2 _ D.qz).trans q'⟩, ?_, ?_⟩
      · exact c'.1.at fun o g => (sb.2 _ (Ne.symm D.zc)).trans g
      · exact d'.1.at fun o g => (sb.2 _ (Ne.symm D.zd)).trans g
    · have lt : e < s.heap.objs.size := by
        rcases mem5 he with g | g | g | g | g <;> subst g
        · exact zl
        · exact Heap.lt_size hp
        · exact Heap.lt_size hq
        · obtain ⟨_, g, _⟩ := h1; exact Heap.lt_size g
        · obtain ⟨_, g, _⟩ := h2; exact Heap.lt_size g
      rw [upd_ne (Nat.ne_of_lt lt)]
      exact (hf e he).1
  done := by
    intro X hP hw hK hc i pins s σ H E I hf st hg
    subst hP hw hK
    obtain ⟨hz, hp, ⟨u0, v0, hq⟩, h1, h2⟩ := st
    obtain ⟨xs, ys, sx, sy, gx, gy⟩ := hg
    obtain ⟨its, rv, pt, _⟩ := I.tuple sx
    obtain ⟨its2, rv2, pl, _⟩ := I.list sy
    have D1 := Draws.tuple (prog := X.prog) (w := X.w) (A := X.A.in1) (I.ok.hd hc) c a D.ac its.toArray
    have D2 := Draws.list (prog := X.prog) (w := X.w) (A := X.A.in1) (I.ok.hd hc) d b D.bd its2.toArray
    have l1 : its.toArray.size = i := by rw [List.size_toArray, ← rv.length]; exact gx
    have l2 : its2.toArray.size = i := by rw [List.size_toArray, ← rv2.length]; exact gy
    refine wpAny_pyNext_zipD2_end D.sep D1 D2 hz hp hq ⟨h1, pt⟩ ⟨h2, pl.isList⟩ (by omega) (by omega) (by omega) fun h' tk kp => ⟨rfl, ?_⟩
    refine I.turnedL (ch := [z, p, q, c, d]) (fun e o ne g => ?_) hf
    simp only [List.mem_cons, List.not_mem_nil, or_false, not_or] at ne
    exact kp e o ne.1 ne.2.2.1 ne.2.2.2.1 ne.2.2.2.2 g
  self := fun A i s Q E st k => wpAny_pyIter_zip st.1 k
def iZipM (K : Fg) (ta : TA) : TI := fun σ H R => ta σ H fun vs H1 => ∃ a b xs ys, vs = [.ref a, .ref b] ∧ SqT K H1 a xs ∧ SqL K H1 b ys ∧ R (ItZm K a b) H1
theorem pi_zipM {X : Cx} {e e2 : Expr} {ta : TA} {p pos tpos : Pos} {elts : List Expr} {kk : Nat} (hg : Gl X "zip") (hm : X.mg "zip" = none) (ha : PA X [e, e2] ta)
    (hs : starEach [e, e2] X.env = (false, eval e X.env) :: starEach [e2] X.env) (hpl : (backTo pos (starEach [e2] X.env)).any (·.1) = false) :
    PI X (.Tuple elts kk tpos) (.Call (.Name "zip" p) [e, e2] [] pos) (iZipM X.K ta) := by
  refine ⟨fun pins s σ H R I z => ?_⟩
  refine Call_ (ld_blt I hg hm PyProof.Rows.boot_zip (PyProof.Rows.callWith_type1 (thn (ha.run pos pins s σ H _ I z) fun us s1 ⟨vs, H1, I1, r1, q1⟩ => ?_) hs hpl))
  obtain ⟨a, b, xs, ys, rfl, sx, sy, q⟩ := q1
  cases r1 with
  | cons ra rr =>
    cases rr with
    | cons rb rr =>
      cases rr
      cases ra
      cases rb
      obtain ⟨its, rv, pt, _⟩ := I1.tuple sx
      obtain ⟨its2, rv2, pl, _⟩ := I1.list sy
      have al : a < s1.heap.objs.size := by obtain ⟨o, g, _⟩ := id pt; exact Heap.lt_size g
      have bl : b < s1.heap.objs.size := pl.lt
      refine zip_begins2 (begins_tuple a its.toArray) (begins_list b its2.toArray) pt pl.isList fun h' hz hp hq g1 g2 _ kp => wpAny_pyIter_zip hz ?_
      have I2 : Inv X pins σ H1 { s1 with heap := h' } := I1.kept (t' := s1.toks) kp
      refine ⟨s1.heap.objs.size + 4, [s1.heap.objs.size + 4, s1.heap.objs.size + 2, s1.heap.objs.size + 3, s1.heap.objs.size, s1.heap.objs.size + 1], _, _, H1, rfl, I2, turn_zipM (zmA_of _ a b al bl), ⟨hz, hp, ⟨_, _, hq⟩, ⟨_, g1, rfl, rfl⟩, ⟨_, g2, rfl, rfl⟩⟩, fun e he => ?_, q⟩
      have ge : s1.heap.objs.size ≤ e := mem5n he
      exact I1.fpOk ge (I1.hok.fresh ge)
end DL
set_option maxHeartbeats 8000000
namespace DL
open PySem PySem.Spec PyProof.Rows L2
section
variable {prog : Program} {w : World} {A : Around} {E : Value → Shared → Prop} {s : Shared}
abbrev shI : Nat → Bool := fun _ => false
def kI (h : Heap) (v : Value) : List (Int ⊕ List Nat) := (tupKey h shI v).getD []
/-- a tuple of the numbers ns, one at least -/
def IsTI (h : Heap) (v : Value) (ns : List Int) : Prop := ∃ a o us n, v = .ref a ∧ h.get? a = some o ∧ o.cls = .type "tuple" ∧ o.data = .seq us n ∧ Vals (ns.map V.int) us.toList ∧ ns ≠ []
theorem IsTI.keeps {h h' : Heap} {v : Value} {ns : List Int} (p : IsTI h v ns) (k : ∀ b o, h.get? b = some o → o.cls = .type "tuple" → h'.get? b = some o) : IsTI h' v ns := by
  obtain ⟨a, o, us, n, e, ho, hc, r⟩ := p
  exact ⟨a, o, us, n, e, k _ _ ho hc, hc, r⟩
end
end DL
set_option maxHeartbeats 8000000
namespace DL
open PySem PySem.Spec PyProof.Rows L2
def fI (h : Heap) (v : Value) : List Int := (kI h v).filterMap fun x => match x with
  | .inl i => some i
  | .inr _ => none
section
variable {X : Cx} {pins : List (Addr × Obj)} {σ : L2.St} {H : Hp} {s : Shared}
end
end DL
set_option maxHeartbeats 8000000
namespace DL
open PySem PySem.Spec PyProof.Rows L2
def keyD : Key → D
  | .inl i => .int i
  | .inr x => .str x
def keyTD (k : List Key) : D := .tup (k.map keyD)
def keysD : List D → Option (List Key)
  | [] => some []
  | .int i :: r => (keysD r).map (.inl i :: ·)
  | .str x :: r => (keysD r).map (.inr x :: ·)
  | _ => none
def keyT : W → Option (List Key)
  | .d (.tup xs) => keysD xs
  | _ => none
theorem keysD_map : ∀ k : List Key, keysD (k.map keyD) = some k
  | [] => rfl
  | .inl i :: k => by simp [keyD, keysD, keysD_map k]
  | .inr x :: k => by simp [keyD, keysD, keysD_map k]
@[simp] theorem keyT_k (k : List Key) : keyT (.d (keyTD k)) = some k := keysD_map k
section
variable {K : Fg} {R : Rg} {H H₁ : Hp}
theorem keysD_of : ∀ {xs : List D} {vs : List V} {k : List Key}, RelDs K R H xs vs → keysD xs = some k → vs = k.map kV
  | [], vs, k, r, e => by cases r_nil r; cases e; rfl
  | d :: xs, vs, k, r, e => by
    obtain ⟨v, q, rfl, r1, r2⟩ := r_cons r
    cases d <;> first | (simp [keysD] at e; done) | skip
    · simp only [keysD] at e
      obtain ⟨k', e1, rfl⟩ := Option.map_eq_some_iff.mp e
      cases r_int r1
      rw [keysD_of r2 e1]; rfl
    · simp only [keysD] at e
      obtain ⟨k', e1, rfl⟩ := Option.map_eq_some_iff.mp e
      cases r_str r1
      rw [keysD_of r2 e1]; rfl
theorem keyT_of {w : W} {v : V} {k : List Key} (r : RelW K H₁ R H w v) (e : keyT w = some k) : ∃ b, v = .ref b ∧ H b = some (.tup (k.map kV)) := by
  unfold keyT at e
  split at e
  · obtain ⟨a, vs, rfl, q, t⟩ := rw_tup r
    rw [keysD_of t e] at q
    exact ⟨a, rfl, q⟩
  · cases e
theorem key_rel : ∀ {k : List Key}, RelDs K R H (k.map keyD) (k.map kV)
  | [] => m_nil
  | .inl i :: k => m_cons m_int key_rel
  | .inr x :: k => m_cons m_str key_rel
end
section
variable {X : Cx} {C : Cn} {Wx : WX}
def rDin (ng : Bool) : R2 := fun y x H Q => ∃ a o, x = .ref a ∧ DGet H a y o ∧ Q (.bl (xor ng o.isSome)) H
def inP (ng : Bool) : CmpOp := if ng then .NotIn else .In
theorem op_din (ng : Bool) (hu : X.A.units + 1 < cLine) : OpR X (compareOp (inP ng)) (rDin ng) := by
  intro pins s σ H x y v u Q I rx ry h
  obtain ⟨a, o, rfl, g, q⟩ := h
  obtain rfl : u = Value.ref a := ry
  cases ng with
  | false => exact d_in hu I g rx fun s3 I3 => ⟨.bl o.isSome, H, I3, rfl, by simpa using q⟩
  | true => exact d_notIn hu I g rx fun s3 I3 => ⟨.bl (!o.isSome), H, I3, rfl, by simpa using q⟩
def dItZ (ta tb : TDE) : TDI := fun ds h P Z => dCons ta (dCons tb dNil) ds h (fun xs h' => ∃ as bs, xs = [.tup as, .lst bs] ∧ as.length = bs.length ∧ P ((as.zip bs).map fun p => .tup [p.1, p.2]) h') Z
theorem di_zip {elts : List Expr} {kk : Nat} {tp : Pos} {a b : Expr} {ta tb : TDE} {p pos : Pos} (hK : C.K = X.K) (hg : Gl X "zip") (hm : X.mg "zip" = none) (ha : PE X a (lift C Wx ta)) (hb : PE X b (lift C Wx tb)) (hs : starEach [a, b] X.env = (false, eval a X.env) :: starEach [b] X.env) (hs2 : starEach [b] X.env = (false, eval b X.env) :: starEach [] X.env) :
    PI X (.Tuple elts kk tp) (.Call (.Name "zip" p) [a, b] [] pos) (liftI C Wx (dItZ ta tb)) :=
  (pi_zipM hg hm (da_cons ha (da_cons hb da_nil hs2) hs) hs (by rw [hs2]; rfl)).imD fun σ H Q q => by
    obtain ⟨R, ds, h, P, Z, e, p, k, z⟩ := q
    refine ⟨R, ds, h, _, Z, e, p, fun R' H' h' xs vs ⟨as, bs, hx, hl, p'⟩ x e' r => ?_, z⟩
    subst hx
    obtain ⟨v1, q1, rfl, r1, r2⟩ := r_cons r
    obtain ⟨v2, q2, rfl, r3, r4⟩ := r_cons r2
    cases r_nil r4
    obtain ⟨x1, us, rfl, s1, t1⟩ := r_tup r1
    obtain ⟨x2, ws, rfl, s2, t2⟩ := r_lst r3
    refine ⟨x1, x2, us, ws, rfl, s1.sq, hK ▸ s2.sq, k R' H' h' _ _ p' x e' ?_⟩
    rw [← hK]
    have lz : ((as.zip bs).map fun p => D.tup [p.1, p.2]).length = as.length := by simp [hl]
    have l1 := relDs_len t1
    have l2 := relDs_len t2
    refine ⟨fun i R2 H2 m hi => ?_, fun R2 H2 m => ⟨us, ws, (m.tup _ _ s1).sq, (m.lst _ _ s2).sq, by omega, by omega⟩, fun i R2 H2 v H3 d ds σ h m e2 hd y => ?_⟩
    · have h1 : i < us.length := by omega
      have h2 : i < ws.length := by omega
      exact ⟨us, ws, us[i], ws[i], (m.tup _ _ s1).sq, (m.lst _ _ s2).sq, by simp [h1], by simp [h2]⟩
    · obtain ⟨T, y1, y2, rfl, nT, rfl, g1, g2⟩ := y
      have hi : i < as.length := by rw [← lz]; exact (List.getElem?_eq_some_iff.mp hd).1
      have hi2 : i < bs.length := by omega
      have ed : d = .tup [as[i], bs[i]] := by
        rw [List.getElem?_map, List.getElem?_eq_getElem (show i < (as.zip bs).length by rw [List.length_zip]; omega)] at hd
        simp at hd
        exact hd.symm
      subst ed
      obtain ⟨u, hu, ru⟩ := relDs_get t1 (List.getElem?_eq_getElem hi)
      obtain ⟨w, hw, rw_⟩ := relDs_get t2 (List.getElem?_eq_getElem hi2)
      have f1 := g1 us (m.tup _ _ s1).sq
      have f2 := g2 ws (m.lst _ _ s2).sq
      rw [hu] at f1; cases f1
      rw [hw] at f2; cases f2
      exact ⟨Ex.fresh nT, e2.fresh nT, m_tup upd_same (m_cons (relD_ex e2.ok (Ex.fresh nT) (relD_mo m ru)) (m_cons (relD_ex e2.ok (Ex.fresh nT) (relD_mo m rw_)) m_nil))⟩
end
end DL
set_option maxHeartbeats 8000000
namespace DL
open PySem PySem.Spec PyProof.Rows L2
inductive SM where
  | starts | ends
def SM.nm : SM → Str
  | .starts => "startswith" | .ends => "endswith"
def SM.f : SM → Str → Str → Bool
  | .starts => Txt.startswith | .ends => Txt.endswith
section
variable {X : Cx} {C : Cn} {Wx : WX}
end
end DL
set_option maxHeartbeats 8000000
namespace DL
open PySem PySem.Spec PyProof.Rows L2
section
variable {prog : Program} {w : World} {A : Around} {E : Value → Shared → Prop} {s : Shared}
/-- a tuple whose first item is the text y -/
def IsTX (h : Heap) (v : Value) (y : Str) : Prop := ∃ a o us n t r, v = .ref a ∧ h.get? a = some o ∧ o.cls = .type "tuple" ∧ o.data = .seq us n ∧ us.toList = Value.str y t :: r
theorem IsTX.keeps {h h' : Heap} {v : Value} {y : Str} (p : IsTX h v y) (k : ∀ b o, h.get? b = some o → o.cls = .type "tuple" → h'.get? b = some o) : IsTX h' v y := by
  obtain ⟨a, o, us, n, t, r, e, ho, hc, q⟩ := p
  exact ⟨a, o, us, n, t, r, e, k _ _ ho hc, hc, q⟩
end
/-- a tracked tuple whose first item is the text y -/
def TxV (H : Hp) (x : V) (y : Str) : Prop := ∃ t r, x = V.ref t ∧ H t = some (.tup (V.str y :: r))
theorem TxV.uniq {H : Hp} {x : V} {y z : Str} (a : TxV H x y) (b : TxV H x z) : y = z := by
  obtain ⟨t, r, rfl, e⟩ := a
  obtain ⟨t', r', e1, e2⟩ := b
  cases e1
  rw [e] at e2
  injection e2 with e2
  injection e2 with e2
  injection e2 with e2 _
  injection e2
section
variable {X : Cx} {pins : List (Addr × Obj)} {σ : L2.St} {H : Hp} {s : Shared}
end
end DL
set_option maxHeartbeats 8000000
namespace DL
open PySem PySem.Spec PyProof.Rows L2
section
variable {prog : Program} {w : World} {A : Around} {E : Value → Shared → Prop} {s : Shared} {l : Addr}
end
section
variable {X : Cx} {C : Cn} {Wx : WX}
end
end DL
set_option maxHeartbeats 8000000
namespace DL
open PySem PySem.Spec PyProof.Rows L2
section
variable {prog : Program} {w : World} {A : Around} {E : Value → Shared → Prop} {s : Shared} {h0 : Heap} {a kS : Addr} {vs : List Value} {ks : List Str} {keys : Array Value} {e e1 : Nat} {P : PySem.Fin → Shared → Prop}
end
end DL
set_option maxHeartbeats 8000000
namespace DL
open PySem PySem.Spec PyProof.Rows L2
section
variable {prog : Program} {w : World} {A : Around} {s : Shared}
end
section
variable {X : Cx} {pins : List (Addr × Obj)} {σ : L2.St} {H : Hp} {s : Shared}
end
section
variable {X : Cx} {C : Cn} {Wx : WX}
end
end DL
set_option maxHeartbeats 8000000
namespace L2
open PySem PySem.Spec PyProof.Rows
section
variable {X : Cx} {pins : List (Addr × Obj)} {σ : St} {H : Hp} {s : Shared} {d : Addr} {o : Obj}
end
/-- the thing at d is locked for good -/
def tLockF (t : TS) : TS := fun D σ H => ∃ d u, H d = some u ∧ Mut (some u) ∧ ∀ od, t D σ (upd H d (.frz od u))
theorem ps_lockF {X : Cx} {st : Stmt} {t : TS} (h : PS X st t) : PS X st (tLockF t) := by
  refine ⟨fun pins s σ H D I hw => ?_⟩
  obtain ⟨d, u, hd, mu, hw⟩ := hw
  obtain ⟨od, I1⟩ := I.lock hd mu
  exact h.run pins s σ _ _ I1 (hw od)
end L2
namespace DL
open PySem PySem.Spec PyProof.Rows L2
section
variable {K : Fg} {R : Rg} {H : Hp}
theorem relKd_get {κ : Type} : ∀ {kvs : List (κ × D)} {ks : List (κ × V)} {i : Nat} {k : κ} {v : V}, RelKd K R H kvs ks → ks[i]? = some (k, v) → ∃ d, kvs[i]? = some (k, d) ∧ RelD K R H d v
  | [], ks, i, k, v, r, e => by cases (show ks = [] from r); simp at e
  | (x, y) :: kvs, ks, i, k, v, r, e => by
    obtain ⟨u, q, rfl, r1, r2⟩ := r
    cases i with
    | zero => simp at e; obtain ⟨rfl, rfl⟩ := e; exact ⟨y, rfl, r1⟩
    | succ i => exact relKd_get (i := i) r2 (by simpa using e)
end
section
variable {X : Cx} {C : Cn} {Wx : WX}
theorem src_keysT {R : Rg} {H : Hp} {a : Addr} {o : Obj} {kvs : List (List Key × D)} {ks : List (List Key × V)} (e : H a = some (.frz o (.dT ks))) (t : RelKd C.K R H kvs ks) : Src C R H (kvs.map fun kv => keyTD kv.1) (Itkt a o ks) := by
  refine ⟨fun i R' H' m hi => ⟨m.lk _ _ _ e, by simpa [relKd_len t] using hi⟩, fun R' H' m => ⟨m.lk _ _ _ e, by simp [relKd_len t]⟩, fun i R' H' v H2 d ds σ h m e2 hd y => ?_⟩
  obtain ⟨rfl, k, u, q, hk, rfl, hq⟩ := y
  obtain ⟨d', hd', _⟩ := relKd_get t hk
  rw [List.getElem?_map, hd'] at hd
  cases hd
  refine ⟨Ex.refl _ _, e2, ?_⟩
  show RelD C.K R' _ (.tup (k.map keyD)) (.ref q)
  unfold RelD
  exact ⟨q, _, rfl, hq, key_rel⟩
theorem src_keysK {R : Rg} {H : Hp} {a : Addr} {o : Obj} {kvs : List (Key × D)} {ks : List (Key × V)} (e : H a = some (.frz o (.dK ks))) (t : RelKd C.K R H kvs ks) : Src C R H (kvs.map fun kv => keyD kv.1) (Itk a o ks) := by
  refine ⟨fun i R' H' m hi => ⟨m.lk _ _ _ e, by simpa [relKd_len t] using hi⟩, fun R' H' m => ⟨m.lk _ _ _ e, by simp [relKd_len t]⟩, fun i R' H' v H2 d ds σ h m e2 hd y => ?_⟩
  obtain ⟨rfl, k, u, hk, rfl⟩ := y
  obtain ⟨d', hd', _⟩ := relKd_get t hk
  rw [List.getElem?_map, hd'] at hd
  cases hd
  refine ⟨Ex.refl _ _, e2, ?_⟩
  cases k with
  | inl i => exact m_int
  | inr x => exact m_str
theorem src_itemsK {R : Rg} {H : Hp} {a : Addr} {o : Obj} {kvs : List (Key × D)} {ks : List (Key × V)} (e : H a = some (.frz o (.dK ks))) (t : RelKd C.K R H kvs ks) : Src C R H (kvs.map fun kv => .tup [keyD kv.1, kv.2]) (Iti a o ks) := by
  refine ⟨fun i R' H' m hi => ⟨m.lk _ _ _ e, by simpa [relKd_len t] using hi⟩, fun R' H' m => ⟨m.lk _ _ _ e, by simp [relKd_len t]⟩, fun i R' H' v H2 d ds σ h m e2 hd y => ?_⟩
  obtain ⟨T, k, u, hk, rfl, hT, rfl⟩ := y
  obtain ⟨d', hd', r⟩ := relKd_get t hk
  rw [List.getElem?_map, hd'] at hd
  cases hd
  have x1 : Ex R' H' R' (upd H' T (.tup [kV k, u])) := Ex.fresh hT
  refine ⟨x1, e2.fresh hT, ?_⟩
  unfold RelD
  refine ⟨T, [kV k, u], rfl, upd_same, m_cons ?_ (m_cons (relD_ex e2.ok x1 (relD_mo m r)) m_nil)⟩
  cases k with
  | inl i => exact m_int
  | inr x => exact m_str
/-- for k in d -/
def dItDk (t : TDE) : TDI := fun ds h P Z => dD t ds h (fun d h' => ∃ n, d = .ref n ∧ ((∃ kvs, h'[n]? = some (.fit kvs) ∧ P (kvs.map fun kv => keyTD kv.1) h') ∨ ∃ kvs, h'[n]? = some (.fic kvs) ∧ P (kvs.map fun kv => keyD kv.1) h')) Z
theorem di_dk {tg e : Expr} {t : TDE} (he : PE X e (lift C Wx t)) : PI X tg e (liftI C Wx (dItDk t)) := (pi_keys (pe_D he)).imD fun σ H Q q => by
  obtain ⟨R, ds, h, P, Z, e, p, k, z⟩ := q
  refine ⟨R, ds, h, _, Z, e, p, fun R' H' h' d v ⟨n, hd, p'⟩ x e' r => ?_, z⟩
  subst hd
  obtain ⟨_, rfl⟩ := r_ref r
  rcases p' with ⟨kvs, hn, p'⟩ | ⟨kvs, hn, p'⟩
  · obtain ⟨u, hu, o, ks, rfl, t⟩ := e'.ok.obj n _ hn
    exact ⟨_, o, rfl, .inr ⟨ks, hu, k R' H' h' _ _ p' x e' (src_keysT hu t)⟩⟩
  · obtain ⟨u, hu, o, ks, rfl, t⟩ := e'.ok.obj n _ hn
    exact ⟨_, o, rfl, .inl ⟨ks, hu, k R' H' h' _ _ p' x e' (src_keysK hu t)⟩⟩
def dItCi (t : TDE) : TDI := fun ds h P Z => dD t ds h (fun d h' => ∃ n, d = .ref n ∧ ∃ kvs, h'[n]? = some (.fic kvs) ∧ P (kvs.map fun kv => .tup [keyD kv.1, kv.2]) h') Z
theorem di_ci {elts : List Expr} {kk : Nat} {tpos apos cpos : Pos} {e : Expr} {t : TDE} (he : PE X e (lift C Wx t)) (hbase : attributeBase e "items" X.env (eval e X.env) = eval e X.env) (hline : (apos.endLine == cpos.line) = true) :
    PI X (.Tuple elts kk tpos) (.Call (.Attribute e "items" apos) [] [] cpos) (liftI C Wx (dItCi t)) := (pi_items (pe_D he) hbase hline).imD fun σ H Q q => by
  obtain ⟨R, ds, h, P, Z, e, p, k, z⟩ := q
  refine ⟨R, ds, h, _, Z, e, p, fun R' H' h' d v ⟨n, hd, kvs, hn, p'⟩ x e' r => ?_, z⟩
  subst hd
  obtain ⟨_, rfl⟩ := r_ref r
  obtain ⟨u, hu, o, ks, rfl, t⟩ := e'.ok.obj n _ hn
  exact ⟨_, o, ks, rfl, hu, k R' H' h' _ _ p' x e' (src_itemsK hu t)⟩
def dFzd (i : Nat) (t : TDS) : TDS := fun ds h P => ∃ n, ds[i]? = some (some (.d (.ref n))) ∧ ((∃ kvs, h[n]? = some (.dit kvs) ∧ t ds (h.set n (.fit kvs)) P) ∨ ∃ kvs, h[n]? = some (.dic kvs) ∧ t ds (h.set n (.fic kvs)) P)
theorem ds_fzd {i : Nat} {st : Stmt} {t : TDS} (hs : PS X st (liftS C Wx t)) : PS X st (liftS C Wx (dFzd i t)) := (ps_lockF hs).imD fun D σ H q => by
  obtain ⟨R, ds, h, P, e, ⟨n, hi, p⟩, k⟩ := q
  rcases p with ⟨kvs, hn, p⟩ | ⟨kvs, hn, p⟩
  · obtain ⟨u, hu, ks, rfl, t⟩ := e.ok.obj n _ hn
    refine ⟨R.at_ n, .dT ks, hu, trivial, fun od => ?_⟩
    obtain ⟨e1, m1⟩ := e.hw (o2 := .fit kvs) (u2 := .frz od (.dT ks)) hn ⟨od, ks, rfl, t⟩
    exact ⟨R, ds, _, P, e1, p, k.later m1⟩
  · obtain ⟨u, hu, ks, rfl, t⟩ := e.ok.obj n _ hn
    refine ⟨R.at_ n, .dK ks, hu, trivial, fun od => ?_⟩
    obtain ⟨e1, m1⟩ := e.hw (o2 := .fic kvs) (u2 := .frz od (.dK ks)) hn ⟨od, ks, rfl, t⟩
    exact ⟨R, ds, _, P, e1, p, k.later m1⟩
def dFin (ng : Bool) (ta td : TDE) : TDE := fun ds h P Z => ta ds h (fun y h1 => td ds h1 (fun x h2 => ∃ n kvs k, x = .d (.ref n) ∧ h2[n]? = some (.fit kvs) ∧ keyT y = some k ∧ P (.d (.bl (xor ng (valD kvs k).isSome))) h2) Z) Z
def dFinT (ng : Bool) (ta td : TDE) : TDT := fun ds h P Z => ta ds h (fun y h1 => td ds h1 (fun x h2 => ∃ n kvs k, x = .d (.ref n) ∧ h2[n]? = some (.fit kvs) ∧ keyT y = some k ∧ P (xor ng (valD kvs k).isSome) h2) Z) Z
theorem fin_of {R : Rg} {H H0 : Hp} {ds : DSt} {σ : Sl} {h : Hs} {n : Nat} {kvs : List (List Key × D)} {k : List Key} {y : W} {v u : V} {P : Bool → Prop} {Q : VK} {ng : Bool} (e : Env C R ds σ H h) (ry : RelW C.K H0 R H y v) (rx : RelW C.K H0 R H (.d (.ref n)) u) (hn : h[n]? = some (.fit kvs)) (hk : keyT y = some k)
    (p : P (xor ng (valD kvs k).isSome)) (kk : ∀ b, P b → Q (.bl b) H) : rDin ng v u H Q := by
  have rx : RelD C.K R H (.ref n) u := rx
  obtain ⟨_, rfl⟩ := r_ref rx
  obtain ⟨uo, hu', o, ks, rfl, t⟩ := e.ok.obj n _ hn
  obtain ⟨b, rfl, hb⟩ := keyT_of ry hk
  refine ⟨_, _, rfl, .inr ⟨ks, k, b, .inr ⟨o, hu'⟩, rfl, hb, rfl⟩, kk _ ?_⟩
  have : (valV ks k).isSome = (valD kvs k).isSome := by
    cases g : valD kvs k with
    | none => rw [relKd_no t g]; rfl
    | some d => obtain ⟨v, e3, _⟩ := relKd_val t g; rw [e3]; rfl
  rw [this]; exact p
theorem de_fin {ng : Bool} {a b : Expr} {ta tb : TDE} {pos : Pos} (hu : X.A.units + 1 < cLine) (hm : behindInMarks (inP ng) b = false) (ha : PE X a (lift C Wx ta)) (hb : PE X b (lift C Wx tb)) : PE X (.Compare a [inP ng] [b] pos) (lift C Wx (dFin ng ta tb)) :=
  (pe_cmpR (op_din ng hu) ha hb hm).imD fun σ H Q q => by
    obtain ⟨R, ds, h, P, Z, e, p, k, z⟩ := q
    refine ⟨R, ds, h, _, Z, e, p, fun R1 H1 h1 w1 v1 p1 x1 e1 r1 => ?_, z⟩
    refine ⟨R1, ds, h1, _, Z, e1, p1, fun R2 H2 h2 w2 v2 ⟨n, kvs, ky, hx, hn, hk, p2⟩ x2 e2 r2 => ?_, fun R' H' h' x cls dd a b c d => z R' H' h' x cls dd a (x1.trans b) c d⟩
    subst hx
    exact fin_of (P := fun b => P (.d (.bl b)) h2) e2 (relW_ex e1.ok x2 r1) (relW_start x1.dom r2) hn hk p2 fun b pb => k R2 H2 h2 _ _ pb (x1.trans x2) e2 mw_bl
theorem dt_fin {ng : Bool} {a b : Expr} {ta tb : TDE} {pos : Pos} (hu : X.A.units + 1 < cLine) (hm : behindInMarks (inP ng) b = false) (ha : PE X a (lift C Wx ta)) (hb : PE X b (lift C Wx tb)) : PT X (.Compare a [inP ng] [b] pos) (liftT C Wx (dFinT ng ta tb)) :=
  (pt_cmpR (op_din ng hu) ha hb hm).imD fun σ H Q q => by
    obtain ⟨R, ds, h, P, Z, e, p, k, z⟩ := q
    refine ⟨R, ds, h, _, Z, e, p, fun R1 H1 h1 w1 v1 p1 x1 e1 r1 => ?_, z⟩
    refine ⟨R1, ds, h1, _, Z, e1, p1, fun R2 H2 h2 w2 v2 ⟨n, kvs, ky, hx, hn, hk, p2⟩ x2 e2 r2 => ?_, fun R' H' h' x cls dd a b c d => z R' H' h' x cls dd a (x1.trans b) c d⟩
    subst hx
    exact fin_of (P := fun b => P b h2) e2 (relW_ex e1.ok x2 r1) (relW_start x1.dom r2) hn hk p2 fun b pb => ⟨b, rfl, k R2 H2 h2 b pb (x1.trans x2) e2⟩
end
end DL
namespace DL
open PySem PySem.Spec PyProof.Rows L2
section
variable {X : Cx} {C : Cn} {Wx : WX}
end
end DL
namespace DL
open PySem PySem.Spec PyProof.Rows L2
section
variable {X : Cx} {C : Cn} {Wx : WX}
end
end DL
set_option maxHeartbeats 8000000
namespace DL
open PySem PySem.Spec PyProof.Rows L2
section
variable {X : Cx} {C : Cn} {Wx : WX}
end
end DL
set_option maxHeartbeats 8000000
namespace DT
open PySem PySem.W PySem.Calls PyProof.Rows PyProof.V PySem.Spec
section
variable {K : Type} [DecidableEq K]
variable {prog : Program} {w : World} {knd : HeapKind prog w K} {A : Around} {E : Value → Shared → Prop} {s : Shared}
end
end DT
namespace L2
open PySem PySem.Spec PyProof.Rows
section
variable {X : Cx} {o e : Expr} {apos cpos : Pos} {td ty : TE}
end
end L2
namespace DL
open PySem PySem.Spec PyProof.Rows L2
section
variable {X : Cx} {C : Cn} {Wx : WX}
end
end DL
set_option maxHeartbeats 8000000
namespace L2
open PySem PySem.Spec PyProof.Rows
section
variable {X : Cx}
end
end L2
namespace DL
open PySem PySem.Spec PyProof.Rows L2
section
variable {X : Cx} {C : Cn} {Wx : WX}
end
end DL
set_option maxHeartbeats 8000000
namespace L2
open PySem PySem.Spec PyProof.Rows
section
variable {X : Cx}
end
end L2
namespace DL
open PySem PySem.Spec PyProof.Rows L2
section
variable {X : Cx} {C : Cn} {Wx : WX}
end
end DL
set_option maxHeartbeats 8000000
namespace PySem
open PySem.W PyProof.Rows PyProof.V PySem.Spec
section
variable {prog : Program} {w : World} {K : Type} [DecidableEq K] {knd : HeapKind prog w K} {A : Around} {E : Value → Shared → Prop} {s : Shared}
end
end PySem
namespace L2
open PySem PySem.Spec PyProof.Rows
section
variable {X : Cx} {pins : List (Addr × Obj)} {σ : St} {H : Hp} {s : Shared} {A : Around} {E : Value → Shared → Prop}
end
end L2
namespace DL
open PySem PySem.Spec PyProof.Rows L2
section
variable {X : Cx} {C : Cn} {Wx : WX}
end
end DL
set_option maxHeartbeats 8000000
namespace DL
open PySem PySem.Spec PyProof.Rows L2
section
variable {X : Cx} {C : Cn} {Wx : WX}
structure SrcO (C : Cn) (R : Rg) (H : Hp) (ds : DSt) (σ : Sl) (xs : List D) (J : It) : Prop where
  go : ∀ i R' H' h', Mo C.K R H R' H' → Env C R' ds σ H' h' → i < xs.length → J.go i H'
  stop : ∀ R' H' h', Mo C.K R H R' H' → Env C R' ds σ H' h' → J.stop xs.length H'
  yld : ∀ i R' H' v H2 d h, Mo C.K R H R' H' → Env C R' ds σ H' h → xs[i]? = some d → J.yld i H' v H2 → Ex R' H' R' H2 ∧ Env C R' ds σ H2 h ∧ RelD C.K R' H2 d v
end
end DL
set_option maxHeartbeats 4000000
namespace DL
open PySem PySem.Spec PyProof.Rows L2
/-- a < b < c as a value -/
def dChainV (op op' : Cop) (ta tb tc : TDE) : TDE := fun ds h P Z => ta ds h (fun x h1 => tb ds h1 (fun y h2 => wCmp op x y fun z => ∃ b, z = .d (.bl b) ∧
  if b = true then tc ds h2 (fun u h3 => wCmp op' y u fun z => P z h3) Z else P (.d (.bl false)) h2) Z) Z
/-- what a generator def hands out, over trees -/
abbrev GnD := List D → Hs → (List D → Hs → Prop) → XD → Prop
/-- as the library's promise of a generator def; only hot classes are let out -/
def liftGn (K : Fg) (Cl : Cm) (n : Nat) (f : GnD) : SpG := fun vs H Q E => ∃ R xs h P Z, HOk' K Cl R H h ∧ RelDs K R H xs vs ∧ xs.length = n ∧ f xs h P Z ∧
  (∀ R' H' h' ys ws, P ys h' → Ex R H R' H' → HOk' K Cl R' H' h' → RelDs K R' H' ys ws → Q ws H') ∧
  (∀ R' H' h' x cls dd, Z x h' → Ex R H R' H' → HOk' K Cl R' H' h' → RelX ⟨K, Cl, R, H⟩ R' H' x cls dd → cold K cls = false ∧ E cls dd H')
/-- what the module's defs promise, its constants -/
structure Fns where
  f : Nat → FnD
  c : Nat → D
  a : Addr → ActD := noA
  g : Nat → HFn := fun _ _ _ _ _ => False
  e : Nat → GnD := fun _ _ _ _ _ => False
/-- within a block or a lambda: nothing that was handed in is called -/
def Fns.q (F : Fns) : Fns := { F with a := noA }
@[simp] theorem Fns.q_f (F : Fns) : F.q.f = F.f := rfl
@[simp] theorem Fns.q_c (F : Fns) : F.q.c = F.c := rfl
@[simp] theorem Fns.q_g (F : Fns) : F.q.g = F.g := rfl
@[simp] theorem Fns.q_e (F : Fns) : F.q.e = F.e := rfl
@[simp] theorem Fns.q_q (F : Fns) : F.q.q = F.q := rfl
/-- what is known of the module: its defs (name, arity, whether they show), free names, constants -/
structure Gm where
  sh : Bool
  fn : List (Str × Nat × Bool)
  free : List Str
  con : List Str
  hn : List Str := []
  ps : List (List Str) := []
  lm : Bool := false
  ko : List (Option (Nat × List (Str × Kq))) := []
  gn : List (Str × List Str) := []
  gx : Nat := 0
/-- a def with parameters by name alone: how many stand by place, the others with their constants -/
def Gm.koA (G : Gm) (i : Nat) : Option (Nat × List (Str × Kq)) := (G.ko[i]?).join
def Gm.q (G : Gm) : Gm := { G with lm := false }
def visB (sc : Scope) (x : Str) : Bool := match sc.names.lookup x with
  | some .local => true
  | some .cell => true
  | some .free => true
  | _ => false
def locB (sc : Scope) (x : Str) : Bool := match sc.names.lookup x with
  | some .local => true
  | some .cell => true
  | _ => false
def lcB (sc : Scope) (x : Str) : Bool := match sc.names.lookup x with
  | some .local => true
  | _ => false
def glB (sc : Scope) (x : Str) : Bool := match sc.names.lookup x with
  | some .globalImplicit => true
  | _ => false
def okN (x : Str) : Bool := !(x == ("__debug__" : Str)) && !(x == ("__classdict__" : Str)) && !decide (x = "__name__")
def noStar : Expr → Bool
  | .Starred _ _ => false
  | _ => true
def plainT : Expr → Bool
  | .UnaryOp .Not _ _ => false
  | .BoolOp _ _ _ => false
  | .IfExp _ _ _ _ => false
  | .Compare _ _ _ _ => false
  | _ => true
def noSlice : Expr → Bool
  | .Slice _ _ _ _ => false
  | _ => true
def noSet : Expr → Bool
  | .Set _ _ _ => false
  | _ => true
def isNoneC : Expr → Bool
  | .Constant .none _ _ => true
  | _ => false
theorem isNoneC_ok {e : Expr} (h : isNoneC e = true) : ∃ j p, e = .Constant .none j p := by
  unfold isNoneC at h
  split at h
  · exact ⟨_, _, rfl⟩
  · cases h
theorem visB_ok {sc : Scope} {x : Str} (h : visB sc x = true) : Vis sc x := by
  unfold visB at h
  split at h
  · exact .inl (by assumption)
  · exact .inr (.inl (by assumption))
  · exact .inr (.inr (by assumption))
  · cases h
theorem locB_ok {sc : Scope} {x : Str} (h : locB sc x = true) : L2.Loc sc x := by
  unfold locB at h
  split at h
  · exact .inl (by assumption)
  · exact .inr (by assumption)
  · cases h
theorem lcB_ok {sc : Scope} {x : Str} (h : lcB sc x = true) : sc.names.lookup x = some .local := by
  unfold lcB at h
  split at h
  · assumption
  · cases h
theorem glB_ok {sc : Scope} {x : Str} (h : glB sc x = true) : sc.names.lookup x = some .globalImplicit := by
  unfold glB at h
  split at h
  · assumption
  · cases h
theorem okN_ok {x : Str} (h : okN x = true) : (x == ("__debug__" : Str)) = false ∧ (x == ("__classdict__" : Str)) = false ∧ x ≠ "__name__" := by
  unfold okN at h
  simp only [Bool.and_eq_true, Bool.not_eq_true', decide_eq_false_iff_not] at h
  exact ⟨h.1.1, h.1.2, h.2⟩
theorem star_ok {e : Expr} {es : List Expr} {env : PySem.Env} (h : noStar e = true) : starEach (e :: es) env = (false, eval e env) :: starEach es env := by
  cases e <;> first | rfl | cases h
theorem plainT_ok {e : Expr} {env : PySem.Env} (h : plainT e = true) : ∀ whole, isTrue e env whole = (do let v ← whole; standAt e.pos; holding [v] (truthy v)) := by
  intro whole
  cases e with
  | UnaryOp op x p => cases op <;> first | rfl | cases h
  | BoolOp _ _ _ => cases h
  | IfExp _ _ _ _ => cases h
  | Compare _ _ _ _ => cases h
  | _ => rfl
theorem noSlice_ok {e : Expr} (h : noSlice e = true) : PlainIx e := by
  intro o i
  cases e <;> first | rfl | cases h
theorem noSet_ok {e : Expr} {env : PySem.Env} (h : noSet e = true) : ∀ x, foldedSetIterable e env x = pure x := by
  intro x
  cases e <;> first | rfl | cases h
mutual
def Tg.chk (loc : Bool) (N : List Str) (sc : Scope) : Tg → Expr → Bool
  | .nm i, .Name x _ => decide (N[i]? = some x) && (if loc then lcB sc x else locB sc x)
  | .tp ts, .Tuple es _ _ => ts.chk loc N sc es
  | _, _ => false
def Tgs.chk (loc : Bool) (N : List Str) (sc : Scope) : Tgs → List Expr → Bool
  | .nil, [] => true
  | .cons t ts, e :: es => noStar e && t.chk loc N sc e && ts.chk loc N sc es
  | _, _ => false
end
def tupE : Expr → Bool
  | .Tuple _ _ _ => true
  | _ => false
def isOne : Expr → Bool
  | .UnaryOp .USub (.Constant (.int i) _ _) _ => decide (i = 1)
  | _ => false
theorem isOne_ok {e : Expr} (h : isOne e = true) : ∃ k p1 p2, e = .UnaryOp .USub (.Constant (.int 1) k p1) p2 := by
  unfold isOne at h
  split at h
  · cases of_decide_eq_true h; exact ⟨_, _, _, rfl⟩
  · cases h
def noPar : Arguments → Bool
  | ⟨[], [], none, [], [], none, []⟩ => true
  | _ => false
def keysB : List Str → List (Option Expr) → Bool
  | [], [] => true
  | k :: ks, some (.Constant (.str x) _ _) :: r => decide (k = x) && keysB ks r
  | _, _ => false
def shB (G : Gm) : B1 → Bool
  | .repr => G.sh
  | _ => true
/-- the module's defs at a level -/
def FnAll (G : Gm) (F : Fns) (C : Cn) (gd : Bool) (k : Nat) (P : Program) (w : World) (K : Fg) (mg : Str → Option Value) (base : Heap) : Prop :=
  ∀ i p, G.fn[i]? = some p → ∃ fa fd ps, mg p.1 = some (.ref fa) ∧ PySem.W.keepIn K (.ref fa) = true ∧ ps.length = p.2.1 ∧ (G.koA i = none → Binds K fd ps []) ∧ FnG P w K mg base p.2.2 k fa fd ps (liftF C.K C.Cl p.2.1 (F.f i)) ∧ (p.2.2 = true → gd = true) ∧ (G.koA i = none → BK fd ps) ∧ (∀ qs, G.ps[i]? = some qs → qs = ps) ∧ (∀ np dfl, G.koA i = some (np, dfl) → KoB K fd ps np dfl)
/-- the defs that call what they are handed -/
def HoAll (G : Gm) (F : Fns) (C : Cn) (gd : Bool) (k : Nat) (P : Program) (w : World) (K : Fg) (mg : Str → Option Value) (base : Heap) : Prop :=
  ∀ i x, G.hn[i]? = some x → ∃ fa fd a, mg x = some (.ref fa) ∧ PySem.W.keepIn K (.ref fa) = true ∧ Binds K fd [a] [] ∧ HoG P w C.K mg base gd k fa fd a C.Cl (F.g i)
/-- the generator defs; the first gx classes of exceptions are hot, and none ends an iterator -/
def GnAll (G : Gm) (F : Fns) (Cl : Cm) (k : Nat) (P : Program) (w : World) (K : Fg) (mg : Str → Option Value) (base : Heap) : Prop :=
  (∀ c, c < G.gx → cold K (.ref (Cl c)) = false ∧ PySem.W.subIn K (.ref (Cl c)) (.type "StopIteration") = some false) ∧ ∀ i p, G.gn[i]? = some p → ∃ fa fd, mg p.1 = some (.ref fa) ∧ PySem.W.keepIn K (.ref fa) = true ∧ BK fd p.2 ∧ ((∀ xs h Q Z, ¬ F.e i xs h Q Z) ∨ ∃ kg, kg + 3 ≤ k ∧ GFn P w K mg base kg fa fd p.2 (liftGn K Cl p.2.length (F.e i)))
theorem GnAll.mono {G : Gm} {F : Fns} {Cl : Cm} {j k : Nat} {P : Program} {w : World} {K : Fg} {mg : Str → Option Value} {base : Heap} (h : GnAll G F Cl j P w K mg base) (l : j ≤ k) : GnAll G F Cl k P w K mg base := ⟨h.1, fun i p e => by
  obtain ⟨fa, fd, a1, a2, a3, z⟩ := h.2 i p e
  refine ⟨fa, fd, a1, a2, a3, ?_⟩
  rcases z with z | ⟨kg, a, b⟩
  · exact .inl z
  · exact .inr ⟨kg, Nat.le_trans a l, b⟩⟩
/-- what stands around a piece of code -/
structure Stat (G : Gm) (F : Fns) (C : Cn) (gd : Bool) (k : Nat) (X : Cx) : Prop where
  hK : C.K = X.K
  calm : X.calm = true
  nd : X.N.Nodup
  units : X.A.units + 65 < cLine
  room : Room k X.A
  gdA : Gd gd X.A
  sh : G.sh = true → gd = true
  free : ∀ x ∈ G.free, X.mg x = none
  con : ∀ j x, G.con[j]? = some x → ∃ v u, X.mg x = some u ∧ RelV v u ∧ ∀ R H, RelD C.K R H (F.c j) v
  fn : FnAll G F C gd k X.prog X.w X.K X.mg X.base
  act : ∀ (pn : List (Addr × Obj)) (xe : Value → Shared → Prop) (Wx : WX) (i : Nat) (x : Str) (p1 p2 : Pos), Takes (X.tr pn xe) Wx → X.N[i]? = some x → Vis X.env.scope x → okN x = true → PE (X.tr pn xe) (.Call (.Name x p1) [] [] p2) (lift C Wx (dAct i F.a))
  lam : G.lm = true → ∃ k', k' + 2 ≤ k ∧ (FnAll G F C gd k' X.prog X.w X.K X.mg X.base ∧ GnAll G F C.Cl k' X.prog X.w X.K X.mg X.base) ∧ HoAll G F C gd (k' + 1) X.prog X.w X.K X.mg X.base ∧
    ∃ c Pt, LamX.TabB X.base X.mg c Pt ∧ X.env.code = .ref c ∧ (Pt, X.env.qual ++ "<lambda>") ∈ C.Cl.T ∧ ∀ p ∈ C.Cl.T, p.1 = Pt → p.2 = X.env.qual ++ "<lambda>"
  gn : GnAll G F C.Cl k X.prog X.w X.K X.mg X.base
theorem Stat.blk {G : Gm} {F : Fns} {C : Cn} {gd : Bool} {k : Nat} {X : Cx} (S : Stat G F C gd k X) (s : Shared) (H : Hp) (scope : Scope) (env : PySem.Env) (fp : List Addr) : Stat G.q F.q C gd k (X.blk s H scope env fp) :=
  ⟨S.hK, S.calm, S.nd, S.units, S.room, S.gdA, S.sh, S.free, S.con, S.fn, fun _ _ _ _ _ _ _ _ _ _ _ => de_noact, fun z => Bool.noConfusion z, S.gn⟩
theorem takesN {X : Cx} : Takes X noW := fun _ _ x => by
  rcases x with x | x
  · obtain ⟨_, _, _, _, _, _, _, _, _, _, _, _, _, _, _, _, z⟩ := x
    exact z.2.elim
  · obtain ⟨_, _, _, _, _, _, _, _, _, _, _, _, _, _, _, _, z⟩ := x
    exact z.2.elim
theorem pw_of_pt {X : Cx} {op : BoolOp} {vs : List Expr} {pos : Pos} {t : TT} (h : PT X (.BoolOp op vs pos) t) : PW X (.BoolOp op vs pos) t := ⟨fun wh pins s σ H Q I q => h.run pins s σ H Q I q⟩
theorem nomk {op : CmpOp} {b : Expr} (h : noSet b = true) : behindInMarks op b = false := by
  cases b <;> first | rfl | cases h
theorem ba2 {a b : Bool} (h : (a && b) = true) : a = true ∧ b = true := Bool.and_eq_true_iff.mp h
abbrev SndE (c : Gm → List Str → Scope → Expr → Bool) (d : Fns → TDE) : Prop := ∀ {C : Cn} {G : Gm} {F : Fns} {gd : Bool} {k : Nat} (X : Cx) (Wx : WX) (e : Expr), Stat G F C gd k X → Takes X Wx → c G X.N X.env.scope e = true → PE X e (lift C Wx (d F))
abbrev SndT (c : Gm → List Str → Scope → Expr → Bool) (t : Fns → TDT) : Prop := ∀ {C : Cn} {G : Gm} {F : Fns} {gd : Bool} {k : Nat} (X : Cx) (Wx : WX) (e : Expr), Stat G F C gd k X → Takes X Wx → c G X.N X.env.scope e = true → PT X e (liftT C Wx (t F))
abbrev SndI (nt : Bool) (c : Gm → List Str → Scope → Expr → Bool) (d : Fns → TDI) : Prop := ∀ {C : Cn} {G : Gm} {F : Fns} {gd : Bool} {k : Nat} (X : Cx) (Wx : WX) (tg e : Expr), Stat G F C gd k X → Takes X Wx → (!nt || tupE tg) = true → c G X.N X.env.scope e = true → PI X tg e (liftI C Wx (d F))
/-- an expression: how it is held against the text, how it reads as a value and as a test, and that it reads right -/
structure E where
  chk : Gm → List Str → Scope → Expr → Bool
  rd : Fns → TDE
  rt : Fns → TDT
  snd : SndE chk rd
  sndT : SndT chk rt
structure Ic where
  needT : Bool
  chk : Gm → List Str → Scope → Expr → Bool
  rd : Fns → TDI
  snd : SndI needT chk rd
inductive Es where
  | nil | cons (e : E) (es : Es)
inductive Oe where
  | no | some (e : E)
def E.d (F : Fns) (m : E) : TDE := m.rd F
def E.t (F : Fns) (m : E) : TDT := m.rt F
def Ic.d (F : Fns) (m : Ic) : TDI := m.rd F
theorem noT {c : Gm → List Str → Scope → Expr → Bool} : SndT c (fun _ _ _ _ _ => False) := fun _ _ _ _ _ _ => ⟨fun _ _ _ _ _ _ ⟨_, _, _, _, _, _, z, _⟩ => z.elim⟩
def Es.len : Es → Nat
  | .nil => 0
  | .cons _ es => es.len + 1
def Es.w (F : Fns) : Es → TDW
  | .nil => dNilW
  | .cons e es => dConsW (e.d F) (es.w F)
def Es.d (F : Fns) : Es → TDA
  | .nil => dNil
  | .cons e es => dCons (e.d F) (es.d F)
def Oe.d (F : Fns) : Oe → TDO
  | .no => dNo
  | .some e => dPart (e.d F)
def Oe.t (F : Fns) : Oe → TDT
  | .no => dYes
  | .some e => e.t F
def Es.chk (G : Gm) (N : List Str) : Es → Scope → List Expr → Bool
  | .nil, _, [] => true
  | .cons a es, sc, l :: ls => noStar l && a.chk G N sc l && es.chk G N sc ls
  | _, _, _ => false
def Es.chkK (G : Gm) (N : List Str) : Es → Scope → List Keyword → Bool
  | .nil, _, [] => true
  | .cons a es, sc, kw :: r => a.chk G N sc kw.value && es.chkK G N sc r
  | _, _, _ => false
def Oe.chk (G : Gm) (N : List Str) : Oe → Scope → Option Expr → Bool
  | .no, _, none => true
  | .some a, sc, Option.some l => a.chk G N sc l
  | _, _, _ => false
def Oe.chkT (G : Gm) (N : List Str) : Oe → Scope → List Expr → Bool
  | .no, _, [] => true
  | .some a, sc, [l] => a.chk G N sc l
  | _, _, _ => false
theorem any_ok' {G : Gm} {N : List Str} {sc : Scope} {env : PySem.Env} : ∀ {es : Es} {ls : List Expr}, es.chk G N sc ls = true → (starEach ls env).any (·.1) = false
  | .nil, ls, h => by cases ls <;> first | rfl | (simp [Es.chk] at h)
  | .cons a es, ls, h => by
    cases ls with
    | nil => simp [Es.chk] at h
    | cons l ls =>
      unfold Es.chk at h
      simp only [Bool.and_eq_true] at h
      rw [star_ok h.1.1, List.any_cons, any_ok' h.2]; rfl
theorem any_ok {pos : Pos} {env : PySem.Env} {G : Gm} {N : List Str} {sc : Scope} {es : Es} {ls : List Expr} (h : es.chk G N sc ls = true) : (backTo pos (starEach ls env)).any (·.1) = false := by
  have := any_ok' (env := env) h
  unfold backTo
  rw [← this]
  cases starEach ls env with
  | nil => rfl
  | cons a r => simp [List.any_map, Function.comp_def]
theorem es_len : ∀ {es : Es} {G : Gm} {N : List Str} {sc : Scope} {ls : List Expr}, es.chk G N sc ls = true → es.len = ls.length
  | .nil, G, N, sc, ls, h => by
    cases ls with
    | nil => rfl
    | cons a b => simp [Es.chk] at h
  | .cons a es, G, N, sc, ls, h => by
    cases ls with
    | nil => simp [Es.chk] at h
    | cons l ls =>
      unfold Es.chk at h
      simp [Es.len, es_len (ba2 h).2]
theorem noSl_ok {e : Expr} (h : noSlice e = true) : NoSl e := by
  intro o i
  cases e <;> first | rfl | cases h
section
variable {C : Cn}
theorem asgE_ok {e : Expr} {es : List Expr} {env : PySem.Env} (h : noStar e = true) : assignEach (e :: es) env = (false, assign e env) :: assignEach es env := by
  cases e <;> first | rfl | cases h
mutual
theorem Tg.snd {X : Cx} {loc : Bool} (hK : C.K = X.K) (hc : X.calm = true) (hN : X.N.Nodup) (hf : loc = false → ∀ x, X.fn x = true) : ∀ (g : Tg) (e : Expr), g.chk loc X.N X.env.scope e = true → PG X e (liftG C g)
  | .nm i, e, h => by
    cases e <;> first | (simp [Tg.chk] at h; done) | skip
    unfold Tg.chk at h
    obtain ⟨h1, h2⟩ := ba2 h
    cases loc with
    | true => exact dg_nm hN (of_decide_eq_true h1) (.inl (lcB_ok h2)) (.inr (lcB_ok h2))
    | false => exact dg_nm hN (of_decide_eq_true h1) (locB_ok h2) (.inl (hf rfl _))
  | .tp ts, e, h => by
    cases e <;> first | (simp [Tg.chk] at h; done) | skip
    unfold Tg.chk at h
    obtain ⟨q, l, n⟩ := Tgs.snd hK hc hN hf ts _ h
    exact dg_tp hK hc q l n
theorem Tgs.snd {X : Cx} {loc : Bool} (hK : C.K = X.K) (hc : X.calm = true) (hN : X.N.Nodup) (hf : loc = false → ∀ x, X.fn x = true) : ∀ (g : Tgs) (es : List Expr), g.chk loc X.N X.env.scope es = true → PGs X es (liftGs C g) ∧ (assignEach es X.env).length = g.len ∧ (assignEach es X.env).findIdx? (·.1) = none
  | .nil, es, h => by
    cases es with
    | nil => exact ⟨dgs_nil, rfl, rfl⟩
    | cons e es => simp [Tgs.chk] at h
  | .cons t ts, es, h => by
    cases es with
    | nil => simp [Tgs.chk] at h
    | cons e es =>
      unfold Tgs.chk at h
      obtain ⟨h1, h3⟩ := ba2 h
      obtain ⟨h1, h2⟩ := ba2 h1
      obtain ⟨q, l, n⟩ := Tgs.snd hK hc hN hf ts es h3
      refine ⟨dgs_cons (Tg.snd hK hc hN hf t e h2) q (by rw [asgE_ok h1]; rfl), by rw [asgE_ok h1, List.length_cons, l]; rfl, ?_⟩
      rw [asgE_ok h1]
      simp [List.findIdx?_cons, n]
end
theorem Oe.sndT {G : Gm} {F : Fns} {gd : Bool} {k : Nat} : ∀ (m : Oe) (X : Cx) (es : List Expr), Stat G F C gd k X → Takes X noW → m.chkT G X.N X.env.scope es = true → PTs X es (liftT C noW (m.t F))
  | .no, X, es, S, tk, h => by
    cases es with
    | nil => exact dts_nil
    | cons e es => simp [Oe.chkT] at h
  | .some a, X, es, S, tk, h => by
    rcases es with _ | ⟨e, _ | ⟨e2, es⟩⟩ <;> first | (simp [Oe.chkT] at h; done) | skip
    unfold Oe.chkT at h
    exact pts_one (E.sndT a X noW e S tk h)
theorem Es.snd {G : Gm} {F : Fns} {gd : Bool} {k : Nat} : ∀ (m : Es) (X : Cx) (Wx : WX) (es : List Expr), Stat G F C gd k X → Takes X Wx → m.chk G X.N X.env.scope es = true → PA X es (liftA C Wx (m.d F))
  | .nil, X, Wx, es, S, tk, h => by
    cases es with
    | nil => exact da_nil
    | cons e es => simp [Es.chk] at h
  | .cons a ms, X, Wx, es, S, tk, h => by
    cases es with
    | nil => simp [Es.chk] at h
    | cons e es =>
      unfold Es.chk at h
      obtain ⟨h, g1⟩ := ba2 h
      obtain ⟨h, g2⟩ := ba2 h
      exact da_cons (E.snd a X Wx e S tk g2) (Es.snd ms X Wx es S tk g1) (star_ok h)
theorem Es.sndK {G : Gm} {F : Fns} {gd : Bool} {k : Nat} : ∀ (m : Es) (X : Cx) (Wx : WX) (kws : List Keyword), Stat G F C gd k X → Takes X Wx → m.chkK G X.N X.env.scope kws = true → PK X kws (liftA C Wx (m.d F))
  | .nil, X, Wx, kws, S, tk, h => by
    cases kws with
    | nil => exact pk_nilD
    | cons e es => simp [Es.chkK] at h
  | .cons a es, X, Wx, kws, S, tk, h => by
    cases kws with
    | nil => simp [Es.chkK] at h
    | cons kw kws =>
      obtain ⟨nm, e, kp⟩ := kw
      unfold Es.chkK at h
      obtain ⟨h1, h2⟩ := ba2 h
      exact pk_consD (E.snd a X Wx e S tk h1) (Es.sndK es X Wx kws S tk h2)
theorem Es.sndP {G : Gm} {F : Fns} {gd : Bool} {k : Nat} : ∀ (m : Es) (X : Cx) (Wx : WX) (ls : List Expr) (ks : List Str) (keys : List (Option Expr)) (pos : Pos), Stat G F C gd k X → Takes X Wx → m.chk G X.N X.env.scope ls = true → keysB ks keys = true → m.len = ks.length →
    ∃ trs, PPs X pos keys ls trs ∧ (∀ σ H Q, liftA C Wx (m.d F) σ H (fun vs H' => Q ((ks.map V.str).zip vs) H') → tPairs trs σ H Q) ∧ (keys.length = ks.length ∧ ks.length = ls.length) ∧ keys.all (·.isSome) = true
  | .nil, X, Wx, ls, ks, keys, pos, S, tk, h, hk, hl => by
    cases ls with
    | cons e es => simp [Es.chk] at h
    | nil =>
      cases ks with
      | cons a b => simp [Es.len] at hl
      | nil =>
        cases keys with
        | cons a b => simp [keysB] at hk
        | nil =>
          refine ⟨[], pps_nil, fun σ H Q q => ?_, ⟨rfl, rfl⟩, rfl⟩
          obtain ⟨R, ds, h, P, Z, e, p, k, z⟩ := q
          exact k R H h [] [] p (Ex.refl _ _) e m_nil
  | .cons a es, X, Wx, ls, ks, keys, pos, S, tk, h, hk, hl => by
    cases ls with
    | nil => simp [Es.chk] at h
    | cons l ls =>
      cases ks with
      | nil => simp [Es.len] at hl
      | cons kk ks =>
        rcases keys with _ | ⟨_ | ky, keys⟩ <;> first | (simp [keysB] at hk; done) | skip
        cases ky <;> first | (simp [keysB] at hk; done) | skip
        rename_i cv cj cp
        cases cv <;> first | (simp [keysB] at hk; done) | skip
        unfold keysB at hk
        obtain ⟨k1, k2⟩ := ba2 hk
        cases of_decide_eq_true k1
        unfold Es.chk at h
        obtain ⟨h, h3⟩ := ba2 h
        obtain ⟨h1, h2⟩ := ba2 h
        obtain ⟨trs, pp, ht, ⟨l1, l2⟩, al⟩ := Es.sndP es X Wx ls ks keys pos S tk h3 k2 (by simpa [Es.len] using hl)
        refine ⟨_, pps_cons pe_str (pe_D (E.snd a X Wx l S tk h2)) pp, fun σ H Q q => ?_, ⟨by simp [l1], by simp [l2]⟩, by simp [al]⟩
        obtain ⟨R, ds, h, P, Z, e, p, k, z⟩ := q
        refine ⟨R, ds, h, _, Z, e, p, fun R1 H1 h1 d v p1 x1 e1 r1 => ?_, z⟩
        refine ht σ H1 _ ⟨R1, ds, h1, _, Z, e1, p1, fun R2 H2 h2 xs vs p2 x2 e2 r2 => ?_, fun R' H' h' x cls dd a b c d => z R' H' h' x cls dd a (x1.trans b) c d⟩
        exact k R2 H2 h2 (d :: xs) (v :: vs) p2 (x1.trans x2) e2 (m_cons (relD_ex e1.ok x2 r1) r2)
theorem Oe.snd {G : Gm} {F : Fns} {gd : Bool} {k : Nat} : ∀ (m : Oe) (X : Cx) (Wx : WX) (e : Option Expr), Stat G F C gd k X → Takes X Wx → m.chk G X.N X.env.scope e = true → PO X e (liftO C Wx (m.d F))
  | .no, X, Wx, e, S, tk, h => by
    cases e with
    | none => exact do_no
    | some e => simp [Oe.chk] at h
  | .some a, X, Wx, e, S, tk, h => by
    cases e with
    | none => simp [Oe.chk] at h
    | some e =>
      unfold Oe.chk at h
      exact do_some (E.snd a X Wx e S tk h)
end
end DL
set_option maxHeartbeats 4000000
namespace DL
open PySem PySem.Spec PyProof.Rows L2
section
variable {C : Cn}
theorem de_chain {X : Cx} {Wx : WX} {a b c : Expr} {ta tb tc : TDE} {pos : Pos} {op op' : Cop} (hK : C.K = X.K) (hu : X.A.units + 65 < cLine) (hm : lastMarks [op.py, op'.py] [b, c] = false)
    (ha : PE X a (lift C Wx ta)) (hb : PE X b (lift C Wx tb)) (hc : PE X c (lift C Wx tc)) : PE X (.Compare a [op.py, op'.py] [b, c] pos) (lift C Wx (dChainV op op' ta tb tc)) :=
  (pe_chain (op_cmp op hu) (op_cmp op' hu) ha hb hc hm).imD fun σ H Q q => by
    obtain ⟨R, ds, h, P, Z, e, p, k, z⟩ := q
    refine ⟨R, ds, h, _, Z, e, p, fun R1 H1 h1 w1 v1 p1 x1 e1 r1 => ?_, z⟩
    refine ⟨R1, ds, h1, _, Z, e1, p1, fun R2 H2 h2 w2 v2 p2 x2 e2 r2 => ?_, fun R' H' h' x cls dd a b c d => z R' H' h' x cls dd a (x1.trans b) c d⟩
    have r2' := relW_start x1.dom r2
    refine hK ▸ s_cmp e2 (x1.trans x2) (relW_ex e1.ok x2 r1) r2' p2 fun R' H' w v ⟨b, hb, pb⟩ x' e' r' => ?_
    subst hb
    refine ⟨b, rw_bl r', ?_⟩
    have xx := (x1.trans x2).trans x'
    cases b with
    | false =>
      rw [if_neg Bool.false_ne_true] at pb ⊢
      exact k R' H' h2 _ _ pb xx e' mw_bl
    | true =>
      rw [if_pos rfl] at pb ⊢
      refine ⟨R', ds, h2, _, Z, e', pb, fun R3 H3 h3 w3 v3 p3 x3 e3 r3 => ?_, fun R' H' h' x cls dd a b c d => z R' H' h' x cls dd a (xx.trans b) c d⟩
      exact s_cmp (C := C) e3 (xx.trans x3) (relW_ex e'.ok x3 (relW_ex e2.ok x' r2')) (relW_start xx.dom r3) p3 fun R4 H4 w v pb x4 e4 r4 => k R4 H4 h3 w v pb ((xx.trans x3).trans x4) e4 r4
end
def cE_var (i : Nat) (G : Gm) (N : List Str) (sc : Scope) (x0 : Expr) : Bool := match x0 with
  | .Name x _ => decide (N[i]? = some x) && visB sc x && okN x
  | _ => false
theorem sE_var (i : Nat) : SndE (cE_var i) (fun F => dVar i) := by
    intro C G F gd k X Wx e S tk h
    cases e <;> first | (exact absurd h Bool.false_ne_true) | skip
    rename_i x p
    simp only [cE_var] at h
    obtain ⟨h1, h2⟩ := ba2 h
    obtain ⟨h1, h3⟩ := ba2 h1
    obtain ⟨o1, o2, _⟩ := okN_ok h2
    exact de_var (of_decide_eq_true h1) (visB_ok h3) o1 o2
theorem uE_var (i : Nat) : SndT (cE_var i) (fun F => dTru (dVar i)) := by
    intro C G F gd k X Wx e S tk h
    have q := sE_var i X Wx e S tk h
    cases e <;> first | (exact absurd h Bool.false_ne_true) | skip
    exact dt_tru S.hK q (plainT_ok rfl)
def E.var (i : Nat) : E := ⟨cE_var i, fun F => dVar i, fun F => dTru (dVar i), sE_var i, uE_var i⟩
@[simp] theorem rdE_var (i : Nat) {F : Fns} : (E.var i).rd F = dVar i := rfl
@[simp] theorem rtE_var (i : Nat) {F : Fns} : (E.var i).rt F = dTru (dVar i) := rfl
def cE_int (i : Int) (G : Gm) (N : List Str) (sc : Scope) (x0 : Expr) : Bool := match x0 with
  | .Constant (.int j) _ _ => decide (i = j)
  | _ => false
theorem sE_int (i : Int) : SndE (cE_int i) (fun F => dC (.int i)) := by
    intro C G F gd k X Wx e S tk h
    cases e <;> first | (exact absurd h Bool.false_ne_true) | skip
    rename_i c j p
    cases c <;> first | (exact absurd h Bool.false_ne_true) | skip
    cases of_decide_eq_true (show decide (i = _) = true from h)
    exact de_int
def E.int (i : Int) : E := ⟨cE_int i, fun F => dC (.int i), fun _ _ _ _ _ => False, sE_int i, noT⟩
@[simp] theorem rdE_int (i : Int) {F : Fns} : (E.int i).rd F = dC (.int i) := rfl
@[simp] theorem rtE_int (i : Int) {F : Fns} : (E.int i).rt F = (fun _ _ _ _ => False) := rfl
def cE_str (i : Str) (G : Gm) (N : List Str) (sc : Scope) (x0 : Expr) : Bool := match x0 with
  | .Constant (.str j) _ _ => decide (i = j)
  | _ => false
theorem sE_str (i : Str) : SndE (cE_str i) (fun F => dC (.str i)) := by
    intro C G F gd k X Wx e S tk h
    cases e <;> first | (exact absurd h Bool.false_ne_true) | skip
    rename_i c j p
    cases c <;> first | (exact absurd h Bool.false_ne_true) | skip
    cases of_decide_eq_true (show decide (i = _) = true from h)
    exact de_str
def E.str (x : Str) : E := ⟨cE_str x, fun F => dC (.str x), fun _ _ _ _ _ => False, sE_str x, noT⟩
@[simp] theorem rdE_str (x : Str) {F : Fns} : (E.str x).rd F = dC (.str x) := rfl
@[simp] theorem rtE_str (x : Str) {F : Fns} : (E.str x).rt F = (fun _ _ _ _ => False) := rfl
def cE_bl (i : Bool) (G : Gm) (N : List Str) (sc : Scope) (x0 : Expr) : Bool := match x0 with
  | .Constant (.bool j) _ _ => decide (i = j)
  | _ => false
theorem sE_bl (i : Bool) : SndE (cE_bl i) (fun F => dC (.bl i)) := by
    intro C G F gd k X Wx e S tk h
    cases e <;> first | (exact absurd h Bool.false_ne_true) | skip
    rename_i c j p
    cases c <;> first | (exact absurd h Bool.false_ne_true) | skip
    cases of_decide_eq_true (show decide (i = _) = true from h)
    exact de_bl
theorem uE_bl (b : Bool) : SndT (cE_bl b) (fun F => dTru (dC (.bl b))) := by
    intro C G F gd k X Wx e S tk h
    have q := sE_bl b X Wx e S tk h
    cases e <;> first | (exact absurd h Bool.false_ne_true) | skip
    exact dt_tru S.hK q (plainT_ok rfl)
def E.bl (b : Bool) : E := ⟨cE_bl b, fun F => dC (.bl b), fun F => dTru (dC (.bl b)), sE_bl b, uE_bl b⟩
@[simp] theorem rdE_bl (b : Bool) {F : Fns} : (E.bl b).rd F = dC (.bl b) := rfl
@[simp] theorem rtE_bl (b : Bool) {F : Fns} : (E.bl b).rt F = dTru (dC (.bl b)) := rfl
def cE_non (G : Gm) (N : List Str) (sc : Scope) (x0 : Expr) : Bool := match x0 with
  | .Constant .none _ _ => true
  | _ => false
theorem sE_non : SndE (cE_non) (fun F => dC .non) := by
    intro C G F gd k X Wx e S tk h
    cases e <;> first | (exact absurd h Bool.false_ne_true) | skip
    rename_i c j p
    cases c <;> first | (exact absurd h Bool.false_ne_true) | skip
    exact de_non
def E.non : E := ⟨cE_non, fun F => dC .non, fun _ _ _ _ _ => False, sE_non, noT⟩
@[simp] theorem rdE_non {F : Fns} : (E.non).rd F = dC .non := rfl
@[simp] theorem rtE_non {F : Fns} : (E.non).rt F = (fun _ _ _ _ => False) := rfl
def cE_glb (j : Nat) (G : Gm) (N : List Str) (sc : Scope) (x0 : Expr) : Bool := match x0 with
  | .Name x _ => decide (G.con[j]? = some x) && glB sc x && okN x
  | _ => false
theorem sE_glb (j : Nat) : SndE (cE_glb j) (fun F => dC (F.c j)) := by
    intro C G F gd k X Wx e S tk h
    cases e <;> first | (exact absurd h Bool.false_ne_true) | skip
    rename_i x p
    simp only [cE_glb] at h
    obtain ⟨h1, h2⟩ := ba2 h
    obtain ⟨h1, h3⟩ := ba2 h1
    obtain ⟨v, u, hm, rv, hr⟩ := S.con j x (of_decide_eq_true h1)
    exact de_c (pe_glob (glB_ok h3) hm rv (okN_ok h2).1) hr
def E.glb (j : Nat) : E := ⟨cE_glb j, fun F => dC (F.c j), fun _ _ _ _ _ => False, sE_glb j, noT⟩
@[simp] theorem rdE_glb (j : Nat) {F : Fns} : (E.glb j).rd F = dC (F.c j) := rfl
@[simp] theorem rtE_glb (j : Nat) {F : Fns} : (E.glb j).rt F = (fun _ _ _ _ => False) := rfl
def cE_bin (op : Bop) (a : E) (b : E) (G : Gm) (N : List Str) (sc : Scope) (x0 : Expr) : Bool := match x0 with
  | .BinOp l o r _ => decide (op.py = o) && a.chk G N sc l && b.chk G N sc r
  | _ => false
theorem sE_bin (op : Bop) (a : E) (b : E) : SndE (cE_bin op a b) (fun F => dOp2 (wBin op) (a.d F) (b.d F)) := by
    intro C G F gd k X Wx e S tk h
    cases e <;> first | (exact absurd h Bool.false_ne_true) | skip
    rename_i l o r p
    simp only [cE_bin] at h
    obtain ⟨h1, h2⟩ := ba2 h
    obtain ⟨h1, h3⟩ := ba2 h1
    cases of_decide_eq_true h1
    exact de_bin S.hK (E.snd a X Wx l S tk h3) (E.snd b X Wx r S tk h2)
theorem uE_bin (op : Bop) (a : E) (i : E) : SndT (cE_bin op a i) (fun F => dTru (dOp2 (wBin op) (a.d F) (i.d F))) := by
    intro C G F gd k X Wx e S tk h
    have q := sE_bin op a i X Wx e S tk h
    cases e <;> first | (exact absurd h Bool.false_ne_true) | skip
    exact dt_tru S.hK q (plainT_ok rfl)
def E.bin (op : Bop) (a : E) (b : E) : E := ⟨cE_bin op a b, fun F => dOp2 (wBin op) (a.d F) (b.d F), fun F => dTru (dOp2 (wBin op) (a.d F) (b.d F)), sE_bin op a b, uE_bin op a b⟩
@[simp] theorem rdE_bin (op : Bop) (a : E) (b : E) {F : Fns} : (E.bin op a b).rd F = dOp2 (wBin op) (a.d F) (b.d F) := rfl
@[simp] theorem rtE_bin (op : Bop) (a : E) (b : E) {F : Fns} : (E.bin op a b).rt F = dTru (dOp2 (wBin op) (a.d F) (b.d F)) := rfl
def cE_neg (a : E) (G : Gm) (N : List Str) (sc : Scope) (x0 : Expr) : Bool := match x0 with
  | .UnaryOp .USub l _ => a.chk G N sc l
  | _ => false
theorem sE_neg (a : E) : SndE (cE_neg a) (fun F => dOp1 wNeg (a.d F)) := by
    intro C G F gd k X Wx e S tk h
    cases e <;> first | (exact absurd h Bool.false_ne_true) | skip
    rename_i o l p
    cases o <;> first | (exact absurd h Bool.false_ne_true) | skip
    simp only [cE_neg] at h
    exact de_neg (E.snd a X Wx l S tk h)
def E.neg (a : E) : E := ⟨cE_neg a, fun F => dOp1 wNeg (a.d F), fun _ _ _ _ _ => False, sE_neg a, noT⟩
@[simp] theorem rdE_neg (a : E) {F : Fns} : (E.neg a).rd F = dOp1 wNeg (a.d F) := rfl
@[simp] theorem rtE_neg (a : E) {F : Fns} : (E.neg a).rt F = (fun _ _ _ _ => False) := rfl
def cE_cmp (op : Cop) (a : E) (b : E) (G : Gm) (N : List Str) (sc : Scope) (x0 : Expr) : Bool := match x0 with
  | .Compare l [o] [r] _ => decide (op.py = o) && noSet r && a.chk G N sc l && b.chk G N sc r
  | _ => false
theorem sE_cmp (op : Cop) (a : E) (b : E) : SndE (cE_cmp op a b) (fun F => dOp2 (wCmp op) (a.d F) (b.d F)) := by
    intro C G F gd k X Wx e S tk h
    cases e <;> first | (exact absurd h Bool.false_ne_true) | skip
    rename_i l os rs p
    rcases os with _ | ⟨o, _ | ⟨o2, os⟩⟩ <;> rcases rs with _ | ⟨r, _ | ⟨r2, rs⟩⟩ <;> first | (exact absurd h Bool.false_ne_true) | skip
    simp only [cE_cmp] at h
    obtain ⟨h1, h2⟩ := ba2 h
    obtain ⟨h1, h3⟩ := ba2 h1
    obtain ⟨h1, h4⟩ := ba2 h1
    cases of_decide_eq_true h1
    exact de_cmp S.hK S.units (nomk h4) (E.snd a X Wx l S tk h3) (E.snd b X Wx r S tk h2)
theorem uE_cmp (op : Cop) (a : E) (b : E) : SndT (cE_cmp op a b) (fun F => dCmpT op (a.d F) (b.d F)) := by
    intro C G F gd k X Wx e S tk h
    cases e <;> first | (exact absurd h Bool.false_ne_true) | skip
    rename_i l os rs p
    rcases os with _ | ⟨o, _ | ⟨o2, os⟩⟩ <;> rcases rs with _ | ⟨r, _ | ⟨r2, rs⟩⟩ <;> first | (exact absurd h Bool.false_ne_true) | skip
    simp only [cE_cmp] at h
    obtain ⟨h1, h2⟩ := ba2 h
    obtain ⟨h1, h3⟩ := ba2 h1
    obtain ⟨h1, h4⟩ := ba2 h1
    cases of_decide_eq_true h1
    exact dt_cmp S.hK S.units (nomk h4) (E.snd a X Wx l S tk h3) (E.snd b X Wx r S tk h2)
def E.cmp (op : Cop) (a : E) (b : E) : E := ⟨cE_cmp op a b, fun F => dOp2 (wCmp op) (a.d F) (b.d F), fun F => dCmpT op (a.d F) (b.d F), sE_cmp op a b, uE_cmp op a b⟩
@[simp] theorem rdE_cmp (op : Cop) (a : E) (b : E) {F : Fns} : (E.cmp op a b).rd F = dOp2 (wCmp op) (a.d F) (b.d F) := rfl
@[simp] theorem rtE_cmp (op : Cop) (a : E) (b : E) {F : Fns} : (E.cmp op a b).rt F = dCmpT op (a.d F) (b.d F) := rfl
def cE_chn (op : Cop) (op' : Cop) (a : E) (b : E) (c : E) (G : Gm) (N : List Str) (sc : Scope) (x0 : Expr) : Bool := match x0 with
  | .Compare l [o, o'] [r, r'] _ => decide (op.py = o) && decide (op'.py = o') && noSet r' && a.chk G N sc l && b.chk G N sc r && c.chk G N sc r'
  | _ => false
theorem sE_chn (op : Cop) (op' : Cop) (a : E) (b : E) (c : E) : SndE (cE_chn op op' a b c) (fun F => dChainV op op' (a.d F) (b.d F) (c.d F)) := by
    intro C G F gd k X Wx e S tk h
    cases e <;> first | (exact absurd h Bool.false_ne_true) | skip
    rename_i l os rs p
    rcases os with _ | ⟨o, _ | ⟨o2, _ | ⟨o3, os⟩⟩⟩ <;> rcases rs with _ | ⟨r, _ | ⟨r2, _ | ⟨r3, rs⟩⟩⟩ <;> first | (exact absurd h Bool.false_ne_true) | skip
    simp only [cE_chn] at h
    obtain ⟨h1, h2⟩ := ba2 h
    obtain ⟨h1, h3⟩ := ba2 h1
    obtain ⟨h1, h4⟩ := ba2 h1
    obtain ⟨h1, h5⟩ := ba2 h1
    obtain ⟨h1, h6⟩ := ba2 h1
    cases of_decide_eq_true h1
    cases of_decide_eq_true h6
    exact de_chain S.hK S.units (nomk (op := op'.py) h5) (E.snd a X Wx l S tk h4) (E.snd b X Wx r S tk h3) (E.snd c X Wx r2 S tk h2)
theorem uE_chn (op : Cop) (op' : Cop) (a : E) (b : E) (c : E) : SndT (cE_chn op op' a b c) (fun F => dChain op op' (a.d F) (b.d F) (c.d F)) := by
    intro C G F gd k X Wx e S tk h
    cases e <;> first | (exact absurd h Bool.false_ne_true) | skip
    rename_i l os rs p
    rcases os with _ | ⟨o, _ | ⟨o2, _ | ⟨o3, os⟩⟩⟩ <;> rcases rs with _ | ⟨r, _ | ⟨r2, _ | ⟨r3, rs⟩⟩⟩ <;> first | (exact absurd h Bool.false_ne_true) | skip
    simp only [cE_chn] at h
    obtain ⟨h1, h2⟩ := ba2 h
    obtain ⟨h1, h3⟩ := ba2 h1
    obtain ⟨h1, h4⟩ := ba2 h1
    obtain ⟨h1, h5⟩ := ba2 h1
    obtain ⟨h1, h6⟩ := ba2 h1
    cases of_decide_eq_true h1
    cases of_decide_eq_true h6
    exact dt_chain S.hK S.units (nomk (op := op'.py) h5) (E.snd a X Wx l S tk h4) (E.snd b X Wx r S tk h3) (E.snd c X Wx r2 S tk h2)
def E.chn (op : Cop) (op' : Cop) (a : E) (b : E) (c : E) : E := ⟨cE_chn op op' a b c, fun F => dChainV op op' (a.d F) (b.d F) (c.d F), fun F => dChain op op' (a.d F) (b.d F) (c.d F), sE_chn op op' a b c, uE_chn op op' a b c⟩
@[simp] theorem rdE_chn (op : Cop) (op' : Cop) (a : E) (b : E) (c : E) {F : Fns} : (E.chn op op' a b c).rd F = dChainV op op' (a.d F) (b.d F) (c.d F) := rfl
@[simp] theorem rtE_chn (op : Cop) (op' : Cop) (a : E) (b : E) (c : E) {F : Fns} : (E.chn op op' a b c).rt F = dChain op op' (a.d F) (b.d F) (c.d F) := rfl
def cE_isN (ng : Bool) (a : E) (G : Gm) (N : List Str) (sc : Scope) (x0 : Expr) : Bool := match x0 with
  | .Compare l [o] [r] _ => decide (o = if ng then .IsNot else .Is) && isNoneC r && a.chk G N sc l
  | _ => false
theorem sE_isN (ng : Bool) (a : E) : SndE (cE_isN ng a) (fun F => dOp1 (wIs ng) (a.d F)) := by
    intro C G F gd k X Wx e S tk h
    cases e <;> first | (exact absurd h Bool.false_ne_true) | skip
    rename_i l os rs p
    rcases os with _ | ⟨o, _ | ⟨o2, os⟩⟩ <;> rcases rs with _ | ⟨r, _ | ⟨r2, rs⟩⟩ <;> first | (exact absurd h Bool.false_ne_true) | skip
    simp only [cE_isN] at h
    obtain ⟨h1, h2⟩ := ba2 h
    obtain ⟨h1, h3⟩ := ba2 h1
    have ho := of_decide_eq_true h1
    obtain ⟨j, p', er⟩ := isNoneC_ok h3
    clear h h1 h3
    subst er
    cases ng with
    | false => cases ho; exact de_isN (E.snd a X Wx _ S tk h2)
    | true => cases ho; exact de_notN (E.snd a X Wx _ S tk h2)
theorem uE_isN (ng : Bool) (a : E) : SndT (cE_isN ng a) (fun F => dIsT ng (a.d F)) := by
    intro C G F gd k X Wx e S tk h
    cases e <;> first | (exact absurd h Bool.false_ne_true) | skip
    rename_i l os rs p
    rcases os with _ | ⟨o, _ | ⟨o2, os⟩⟩ <;> rcases rs with _ | ⟨r, _ | ⟨r2, rs⟩⟩ <;> first | (exact absurd h Bool.false_ne_true) | skip
    simp only [cE_isN] at h
    obtain ⟨h1, h2⟩ := ba2 h
    obtain ⟨h1, h3⟩ := ba2 h1
    have ho := of_decide_eq_true h1
    obtain ⟨j, p', er⟩ := isNoneC_ok h3
    clear h h1 h3
    subst er
    cases ng with
    | false => cases ho; exact dt_isN (E.snd a X Wx _ S tk h2)
    | true => cases ho; exact dt_notN (E.snd a X Wx _ S tk h2)
def E.isN (ng : Bool) (a : E) : E := ⟨cE_isN ng a, fun F => dOp1 (wIs ng) (a.d F), fun F => dIsT ng (a.d F), sE_isN ng a, uE_isN ng a⟩
@[simp] theorem rdE_isN (ng : Bool) (a : E) {F : Fns} : (E.isN ng a).rd F = dOp1 (wIs ng) (a.d F) := rfl
@[simp] theorem rtE_isN (ng : Bool) (a : E) {F : Fns} : (E.isN ng a).rt F = dIsT ng (a.d F) := rfl
def cE_and (a : E) (b : E) (G : Gm) (N : List Str) (sc : Scope) (x0 : Expr) : Bool := match x0 with
  | .BoolOp .And [l, r] _ => a.chk G N sc l && b.chk G N sc r
  | .BoolOp .And (l :: r :: r' :: rs) p => a.chk G N sc l && b.chk G N sc (.BoolOp .And (r :: r' :: rs) p)
  | _ => false
theorem sE_and (a : E) (b : E) : SndE (cE_and a b) (fun F => dAnd (a.d F) (b.d F)) := by
    intro C G F gd k X Wx e S tk h
    cases e <;> first | (exact absurd h Bool.false_ne_true) | skip
    rename_i o vs p
    cases o <;> rcases vs with _ | ⟨l, _ | ⟨r, _ | ⟨r2, rs⟩⟩⟩ <;> first | (exact absurd h Bool.false_ne_true) | skip
    · simp only [cE_and] at h
      obtain ⟨h1, h2⟩ := ba2 h
      exact de_and S.hK (E.snd a X Wx l S tk h1) (de_one (E.snd b X Wx r S tk h2))
    · simp only [cE_and] at h
      obtain ⟨h1, h2⟩ := ba2 h
      exact de_and S.hK (E.snd a X Wx l S tk h1) (E.snd b X Wx _ S tk h2)
theorem uE_and (a : E) (b : E) : SndT (cE_and a b) (fun F => dAndT (a.t F) (b.t F)) := by
    intro C G F gd k X Wx e S tk h
    cases e <;> first | (exact absurd h Bool.false_ne_true) | skip
    rename_i o vs p
    cases o <;> rcases vs with _ | ⟨l, _ | ⟨r, _ | ⟨r2, rs⟩⟩⟩ <;> first | (exact absurd h Bool.false_ne_true) | skip
    · simp only [cE_and] at h
      obtain ⟨h1, h2⟩ := ba2 h
      exact (dw_and (E.sndT a X Wx l S tk h1) (dw_and1 (E.sndT b X Wx r S tk h2))).pt
    · simp only [cE_and] at h
      obtain ⟨h1, h2⟩ := ba2 h
      exact (dw_and (E.sndT a X Wx l S tk h1) (pw_of_pt (E.sndT b X Wx _ S tk h2))).pt
def E.and (a : E) (b : E) : E := ⟨cE_and a b, fun F => dAnd (a.d F) (b.d F), fun F => dAndT (a.t F) (b.t F), sE_and a b, uE_and a b⟩
@[simp] theorem rdE_and (a : E) (b : E) {F : Fns} : (E.and a b).rd F = dAnd (a.d F) (b.d F) := rfl
@[simp] theorem rtE_and (a : E) (b : E) {F : Fns} : (E.and a b).rt F = dAndT (a.t F) (b.t F) := rfl
def cE_or (a : E) (b : E) (G : Gm) (N : List Str) (sc : Scope) (x0 : Expr) : Bool := match x0 with
  | .BoolOp .Or [l, r] _ => a.chk G N sc l && b.chk G N sc r
  | .BoolOp .Or (l :: r :: r' :: rs) p => a.chk G N sc l && b.chk G N sc (.BoolOp .Or (r :: r' :: rs) p)
  | _ => false
theorem sE_or (a : E) (b : E) : SndE (cE_or a b) (fun F => dOr (a.d F) (b.d F)) := by
    intro C G F gd k X Wx e S tk h
    cases e <;> first | (exact absurd h Bool.false_ne_true) | skip
    rename_i o vs p
    cases o <;> rcases vs with _ | ⟨l, _ | ⟨r, _ | ⟨r2, rs⟩⟩⟩ <;> first | (exact absurd h Bool.false_ne_true) | skip
    · simp only [cE_or] at h
      obtain ⟨h1, h2⟩ := ba2 h
      exact de_or S.hK (E.snd a X Wx l S tk h1) (de_one (E.snd b X Wx r S tk h2))
    · simp only [cE_or] at h
      obtain ⟨h1, h2⟩ := ba2 h
      exact de_or S.hK (E.snd a X Wx l S tk h1) (E.snd b X Wx _ S tk h2)
theorem uE_or (a : E) (b : E) : SndT (cE_or a b) (fun F => dOrT (a.t F) (b.t F)) := by
    intro C G F gd k X Wx e S tk h
    cases e <;> first | (exact absurd h Bool.false_ne_true) | skip
    rename_i o vs p
    cases o <;> rcases vs with _ | ⟨l, _ | ⟨r, _ | ⟨r2, rs⟩⟩⟩ <;> first | (exact absurd h Bool.false_ne_true) | skip
    · simp only [cE_or] at h
      obtain ⟨h1, h2⟩ := ba2 h
      exact (dw_or (E.sndT a X Wx l S tk h1) (dw_or1 (E.sndT b X Wx r S tk h2))).pt
    · simp only [cE_or] at h
      obtain ⟨h1, h2⟩ := ba2 h
      exact (dw_or (E.sndT a X Wx l S tk h1) (pw_of_pt (E.sndT b X Wx _ S tk h2))).pt
def E.or (a : E) (b : E) : E := ⟨cE_or a b, fun F => dOr (a.d F) (b.d F), fun F => dOrT (a.t F) (b.t F), sE_or a b, uE_or a b⟩
@[simp] theorem rdE_or (a : E) (b : E) {F : Fns} : (E.or a b).rd F = dOr (a.d F) (b.d F) := rfl
@[simp] theorem rtE_or (a : E) (b : E) {F : Fns} : (E.or a b).rt F = dOrT (a.t F) (b.t F) := rfl
def cE_not (a : E) (G : Gm) (N : List Str) (sc : Scope) (x0 : Expr) : Bool := match x0 with
  | .UnaryOp .Not l _ => a.chk G N sc l
  | _ => false
theorem sE_not (a : E) : SndE (cE_not a) (fun F => dNotV (a.d F)) := by
    intro C G F gd k X Wx e S tk h
    cases e <;> first | (exact absurd h Bool.false_ne_true) | skip
    rename_i o l p
    cases o <;> first | (exact absurd h Bool.false_ne_true) | skip
    simp only [cE_not] at h
    exact de_not S.hK (E.snd a X Wx l S tk h)
theorem uE_not (a : E) : SndT (cE_not a) (fun F => dNotT (a.t F)) := by
    intro C G F gd k X Wx e S tk h
    cases e <;> first | (exact absurd h Bool.false_ne_true) | skip
    rename_i o l p
    cases o <;> first | (exact absurd h Bool.false_ne_true) | skip
    simp only [cE_not] at h
    exact dt_not (E.sndT a X Wx l S tk h)
def E.not (a : E) : E := ⟨cE_not a, fun F => dNotV (a.d F), fun F => dNotT (a.t F), sE_not a, uE_not a⟩
@[simp] theorem rdE_not (a : E) {F : Fns} : (E.not a).rd F = dNotV (a.d F) := rfl
@[simp] theorem rtE_not (a : E) {F : Fns} : (E.not a).rt F = dNotT (a.t F) := rfl
end DL
namespace L2
open PySem PySem.Spec PyProof.Rows
theorem pt_ifT {X : Cx} {c a b : Expr} {tc ta tb : TT} {pos : Pos} (hc : PT X c tc) (ha : PT X a ta) (hb : PT X b tb) : PT X (.IfExp c a b pos) (fun σ H Q => tc σ H fun k H1 => if k = true then ta σ H1 Q else tb σ H1 Q) := by
  refine ⟨fun pins s σ H Q I h => ?_⟩
  rw [arm_isTrue_IfExp]
  refine wpAny_bind (thn (hc.run pins s σ H _ I h) fun k s1 e => ?_)
  obtain ⟨H1, I1, q1⟩ := e
  cases k with
  | true => exact ha.run pins s1 σ H1 Q I1 q1
  | false => exact hb.run pins s1 σ H1 Q I1 q1
end L2
namespace DL
open PySem PySem.Spec PyProof.Rows L2
section
variable {X : Cx} {C : Cn} {Wx : WX}
def dIfT (tc ta tb : TDT) : TDT := fun ds h P Z => tc ds h (fun b h1 => if b = true then ta ds h1 P Z else tb ds h1 P Z) Z
theorem dt_ifT {c a b : Expr} {tc ta tb : TDT} {pos : Pos} (hc : PT X c (liftT C Wx tc)) (ha : PT X a (liftT C Wx ta)) (hb : PT X b (liftT C Wx tb)) : PT X (.IfExp c a b pos) (liftT C Wx (dIfT tc ta tb)) :=
  (pt_ifT hc ha hb).imD fun σ H Q q => by
    obtain ⟨R, ds, h, P, Z, e, p, k, z⟩ := q
    refine ⟨R, ds, h, _, Z, e, p, fun R' H' h' b pb x e' => ?_, z⟩
    cases b with
    | true => exact ⟨R', ds, h', P, Z, e', pb, fun R2 H2 h2 c pc x2 e2 => k R2 H2 h2 c pc (x.trans x2) e2, fun R2 H2 h2 y cls dd a b c d => z R2 H2 h2 y cls dd a (x.trans b) c d⟩
    | false => exact ⟨R', ds, h', P, Z, e', pb, fun R2 H2 h2 c pc x2 e2 => k R2 H2 h2 c pc (x.trans x2) e2, fun R2 H2 h2 y cls dd a b c d => z R2 H2 h2 y cls dd a (x.trans b) c d⟩
end
def cE_ite (c : E) (a : E) (b : E) (G : Gm) (N : List Str) (sc : Scope) (x0 : Expr) : Bool := match x0 with
  | .IfExp t l r _ => c.chk G N sc t && a.chk G N sc l && b.chk G N sc r
  | _ => false
theorem sE_ite (c : E) (a : E) (b : E) : SndE (cE_ite c a b) (fun F => dIf (c.t F) (a.d F) (b.d F)) := by
    intro C G F gd k X Wx e S tk h
    cases e <;> first | (exact absurd h Bool.false_ne_true) | skip
    rename_i t l r p
    simp only [cE_ite] at h
    obtain ⟨h1, h2⟩ := ba2 h
    obtain ⟨h1, h3⟩ := ba2 h1
    exact de_if (E.sndT c X Wx t S tk h1) (E.snd a X Wx l S tk h3) (E.snd b X Wx r S tk h2)
theorem uE_ite (c : E) (a : E) (b : E) : SndT (cE_ite c a b) (fun F => dIfT (c.t F) (a.t F) (b.t F)) := by
    intro C G F gd k X Wx e S tk h
    cases e <;> first | (exact absurd h Bool.false_ne_true) | skip
    rename_i t l r p
    simp only [cE_ite] at h
    obtain ⟨h1, h2⟩ := ba2 h
    obtain ⟨h1, h3⟩ := ba2 h1
    exact dt_ifT (E.sndT c X Wx t S tk h1) (E.sndT a X Wx l S tk h3) (E.sndT b X Wx r S tk h2)
def E.ite (c : E) (a : E) (b : E) : E := ⟨cE_ite c a b, fun F => dIf (c.t F) (a.d F) (b.d F), fun F => dIfT (c.t F) (a.t F) (b.t F), sE_ite c a b, uE_ite c a b⟩
@[simp] theorem rdE_ite (c : E) (a : E) (b : E) {F : Fns} : (E.ite c a b).rd F = dIf (c.t F) (a.d F) (b.d F) := rfl
@[simp] theorem rtE_ite (c : E) (a : E) (b : E) {F : Fns} : (E.ite c a b).rt F = dIfT (c.t F) (a.t F) (b.t F) := rfl
def cE_b1 (b : B1) (a : E) (G : Gm) (N : List Str) (sc : Scope) (x0 : Expr) : Bool := match x0 with
  | .Call (.Name x _) [l] [] _ => decide (b.name = x) && glB sc x && decide (x ∈ G.free) && shB G b && noStar l && a.chk G N sc l
  | _ => false
theorem sE_b1 (b : B1) (a : E) : SndE (cE_b1 b a) (fun F => dOp1 (wB1 b) (a.d F)) := by
    intro C G F gd k X Wx e S tk h
    cases e <;> first | (exact absurd h Bool.false_ne_true) | skip
    rename_i f ls kw p
    cases f <;> rcases ls with _ | ⟨l, _ | ⟨l2, ls⟩⟩ <;> rcases kw with _ | ⟨k1, kw⟩ <;> first | (exact absurd h Bool.false_ne_true) | skip
    simp only [cE_b1] at h
    obtain ⟨h1, h2⟩ := ba2 h
    obtain ⟨h1, h3⟩ := ba2 h1
    obtain ⟨h1, h4⟩ := ba2 h1
    obtain ⟨h1, h5⟩ := ba2 h1
    obtain ⟨h1, h6⟩ := ba2 h1
    cases of_decide_eq_true h1
    have ok : B1Ok X b := ⟨S.free _ (of_decide_eq_true h5), glB_ok h6, S.calm, Nat.lt_of_le_of_lt (by omega) S.units, fun z => S.gdA (S.sh (by subst z; exact h4))⟩
    exact de_b1 S.hK ok (E.snd a X Wx l S tk h2) (star_ok h3)
theorem uE_b1 (b : B1) (a : E) : SndT (cE_b1 b a) (fun F => dTru (dOp1 (wB1 b) (a.d F))) := by
    intro C G F gd k X Wx e S tk h
    have q := sE_b1 b a X Wx e S tk h
    cases e <;> first | (exact absurd h Bool.false_ne_true) | skip
    exact dt_tru S.hK q (plainT_ok rfl)
def E.b1 (b : B1) (a : E) : E := ⟨cE_b1 b a, fun F => dOp1 (wB1 b) (a.d F), fun F => dTru (dOp1 (wB1 b) (a.d F)), sE_b1 b a, uE_b1 b a⟩
@[simp] theorem rdE_b1 (b : B1) (a : E) {F : Fns} : (E.b1 b a).rd F = dOp1 (wB1 b) (a.d F) := rfl
@[simp] theorem rtE_b1 (b : B1) (a : E) {F : Fns} : (E.b1 b a).rt F = dTru (dOp1 (wB1 b) (a.d F)) := rfl
def cE_isi (y : Str) (T : String) (a : E) (G : Gm) (N : List Str) (sc : Scope) (x0 : Expr) : Bool := match x0 with
  | .Call (.Name x _) [l, .Name z _] [] _ => decide (x = "isinstance") && decide (y = z) && glB sc x && decide (x ∈ G.free) && glB sc z && decide (z ∈ G.free) && okN z && decide (bootBuiltins z = some (.type T)) && noStar l && a.chk G N sc l
  | _ => false
theorem sE_isi (y : Str) (T : String) (a : E) : SndE (cE_isi y T a) (fun F => dOp1 (wIsi T) (a.d F)) := by
    intro C G F gd k X Wx e S tk h
    cases e <;> first | (exact absurd h Bool.false_ne_true) | (simp [cE_isi] at h; done) | skip
    rename_i f ls kw p
    cases f <;> rcases ls with _ | ⟨l, _ | ⟨l2, _ | ⟨l3, ls⟩⟩⟩ <;> rcases kw with _ | ⟨k1, kw⟩ <;> first | (exact absurd h Bool.false_ne_true) | (simp [cE_isi] at h; done) | skip
    cases l2 <;> first | (exact absurd h Bool.false_ne_true) | (simp [cE_isi] at h; done) | skip
    simp only [cE_isi] at h
    obtain ⟨h, g1⟩ := ba2 h
    obtain ⟨h, g2⟩ := ba2 h
    obtain ⟨h, g3⟩ := ba2 h
    obtain ⟨h, g4⟩ := ba2 h
    obtain ⟨h, g5⟩ := ba2 h
    obtain ⟨h, g6⟩ := ba2 h
    obtain ⟨h, g7⟩ := ba2 h
    obtain ⟨h, g8⟩ := ba2 h
    obtain ⟨h, g9⟩ := ba2 h
    cases of_decide_eq_true h
    cases of_decide_eq_true g9
    obtain ⟨o1, _, o3⟩ := okN_ok g4
    exact de_isi S.hK (glB_ok g8) (S.free _ (of_decide_eq_true g7)) (glB_ok g6) (S.free _ (of_decide_eq_true g5)) (of_decide_eq_true g3) o3 o1 (E.snd a X Wx l S tk g1) (star_ok g2)
theorem uE_isi (y : Str) (T : String) (a : E) : SndT (cE_isi y T a) (fun F => dTru (dOp1 (wIsi T) (a.d F))) := by
    intro C G F gd k X Wx e S tk h
    have q := sE_isi y T a X Wx e S tk h
    cases e <;> first | (exact absurd h Bool.false_ne_true) | (simp [cE_isi] at h; done) | skip
    exact dt_tru S.hK q (plainT_ok rfl)
def E.isi (x : Str) (T : String) (a : E) : E := ⟨cE_isi x T a, fun F => dOp1 (wIsi T) (a.d F), fun F => dTru (dOp1 (wIsi T) (a.d F)), sE_isi x T a, uE_isi x T a⟩
@[simp] theorem rdE_isi (x : Str) (T : String) (a : E) {F : Fns} : (E.isi x T a).rd F = dOp1 (wIsi T) (a.d F) := rfl
@[simp] theorem rtE_isi (x : Str) (T : String) (a : E) {F : Fns} : (E.isi x T a).rt F = dTru (dOp1 (wIsi T) (a.d F)) := rfl
def cE_ix (a : E) (i : E) (G : Gm) (N : List Str) (sc : Scope) (x0 : Expr) : Bool := match x0 with
  | .Subscript l r _ => noSlice r && a.chk G N sc l && i.chk G N sc r
  | _ => false
theorem sE_ix (a : E) (i : E) : SndE (cE_ix a i) (fun F => dOp2 wIx (a.d F) (i.d F)) := by
    intro C G F gd k X Wx e S tk h
    cases e <;> first | (exact absurd h Bool.false_ne_true) | skip
    rename_i l r p
    simp only [cE_ix] at h
    obtain ⟨h1, h2⟩ := ba2 h
    obtain ⟨h1, h3⟩ := ba2 h1
    exact de_ix S.hK (noSlice_ok h1) (E.snd a X Wx l S tk h3) (E.snd i X Wx r S tk h2)
theorem uE_ix (a : E) (i : E) : SndT (cE_ix a i) (fun F => dTru (dOp2 wIx (a.d F) (i.d F))) := by
    intro C G F gd k X Wx e S tk h
    have q := sE_ix a i X Wx e S tk h
    cases e <;> first | (exact absurd h Bool.false_ne_true) | skip
    exact dt_tru S.hK q (plainT_ok rfl)
def E.ix (a : E) (i : E) : E := ⟨cE_ix a i, fun F => dOp2 wIx (a.d F) (i.d F), fun F => dTru (dOp2 wIx (a.d F) (i.d F)), sE_ix a i, uE_ix a i⟩
@[simp] theorem rdE_ix (a : E) (i : E) {F : Fns} : (E.ix a i).rd F = dOp2 wIx (a.d F) (i.d F) := rfl
@[simp] theorem rtE_ix (a : E) (i : E) {F : Fns} : (E.ix a i).rt F = dTru (dOp2 wIx (a.d F) (i.d F)) := rfl
def cE_sl (a : E) (lo : Oe) (hi : Oe) (G : Gm) (N : List Str) (sc : Scope) (x0 : Expr) : Bool := match x0 with
  | .Subscript l (.Slice x y none _) _ => a.chk G N sc l && lo.chk G N sc x && hi.chk G N sc y
  | _ => false
theorem sE_sl (a : E) (lo : Oe) (hi : Oe) : SndE (cE_sl a lo hi) (fun F => dSl (a.d F) (lo.d F) (hi.d F)) := by
    intro C G F gd k X Wx e S tk h
    cases e <;> first | (exact absurd h Bool.false_ne_true) | skip
    rename_i l r p
    cases r <;> first | (exact absurd h Bool.false_ne_true) | skip
    rename_i x y st p2
    cases st <;> first | (exact absurd h Bool.false_ne_true) | skip
    simp only [cE_sl] at h
    obtain ⟨h1, h2⟩ := ba2 h
    obtain ⟨h1, h3⟩ := ba2 h1
    exact de_sl S.hK (E.snd a X Wx l S tk h1) (Oe.snd lo X Wx x S tk h3) (Oe.snd hi X Wx y S tk h2)
def E.sl (a : E) (lo : Oe) (hi : Oe) : E := ⟨cE_sl a lo hi, fun F => dSl (a.d F) (lo.d F) (hi.d F), fun _ _ _ _ _ => False, sE_sl a lo hi, noT⟩
@[simp] theorem rdE_sl (a : E) (lo : Oe) (hi : Oe) {F : Fns} : (E.sl a lo hi).rd F = dSl (a.d F) (lo.d F) (hi.d F) := rfl
@[simp] theorem rtE_sl (a : E) (lo : Oe) (hi : Oe) {F : Fns} : (E.sl a lo hi).rt F = (fun _ _ _ _ => False) := rfl
def cE_tup (es : Es) (G : Gm) (N : List Str) (sc : Scope) (x0 : Expr) : Bool := match x0 with
  | .Tuple ls _ _ => es.chk G N sc ls
  | _ => false
theorem sE_tup (es : Es) : SndE (cE_tup es) (fun F => dTup (es.d F)) := by
    intro C G F gd k X Wx e S tk h
    cases e <;> first | (exact absurd h Bool.false_ne_true) | skip
    simp only [cE_tup] at h
    exact de_tup (Es.snd es X Wx _ S tk h)
def E.tup (es : Es) : E := ⟨cE_tup es, fun F => dTup (es.d F), fun _ _ _ _ _ => False, sE_tup es, noT⟩
@[simp] theorem rdE_tup (es : Es) {F : Fns} : (E.tup es).rd F = dTup (es.d F) := rfl
@[simp] theorem rtE_tup (es : Es) {F : Fns} : (E.tup es).rt F = (fun _ _ _ _ => False) := rfl
def cE_lst (es : Es) (G : Gm) (N : List Str) (sc : Scope) (x0 : Expr) : Bool := match x0 with
  | .List ls _ => es.chk G N sc ls
  | _ => false
theorem sE_lst (es : Es) : SndE (cE_lst es) (fun F => dLst (es.d F)) := by
    intro C G F gd k X Wx e S tk h
    cases e <;> first | (exact absurd h Bool.false_ne_true) | skip
    simp only [cE_lst] at h
    exact de_lst (Es.snd es X Wx _ S tk h)
def E.lst (es : Es) : E := ⟨cE_lst es, fun F => dLst (es.d F), fun _ _ _ _ _ => False, sE_lst es, noT⟩
@[simp] theorem rdE_lst (es : Es) {F : Fns} : (E.lst es).rd F = dLst (es.d F) := rfl
@[simp] theorem rtE_lst (es : Es) {F : Fns} : (E.lst es).rt F = (fun _ _ _ _ => False) := rfl
def cE_call (f : Nat) (m1 : Es) (G : Gm) (N : List Str) (sc : Scope) (x0 : Expr) : Bool := match m1, x0 with
  | .cons a es, .Call (.Name x _) (l :: ls) [] _ => (match G.fn[f]? with
    | some (y, n, _) => decide (y = x) && decide (n = es.len + 1) && (G.koA f).isNone
    | none => false) && glB sc x && okN x && noStar l && a.chk G N sc l && es.chk G N sc ls
  | _, _ => false
theorem sE_call (f : Nat) (es : Es) : SndE (cE_call f es) (fun F => dCall es.len (F.f f) (es.d F)) := by
    intro C G F gd k X Wx e S tk h
    cases es with
    | nil => cases e <;> exact absurd h Bool.false_ne_true
    | cons a es =>
      cases e <;> first | (exact absurd h Bool.false_ne_true) | skip
      rename_i f' ls kw p
      cases f' <;> rcases ls with _ | ⟨l, ls⟩ <;> rcases kw with _ | ⟨k1, kw⟩ <;> first | (exact absurd h Bool.false_ne_true) | skip
      rename_i x p1
      simp only [cE_call] at h
      obtain ⟨h, g1⟩ := ba2 h
      obtain ⟨h, g2⟩ := ba2 h
      obtain ⟨h, g3⟩ := ba2 h
      obtain ⟨h, g4⟩ := ba2 h
      obtain ⟨h, g5⟩ := ba2 h
      cases q : G.fn[f]? with
      | none => rw [q] at h; cases h
      | some pq =>
        obtain ⟨y, n, g⟩ := pq
        rw [q] at h
        obtain ⟨h, n3⟩ := ba2 h
        obtain ⟨n1, n2⟩ := ba2 h
        cases of_decide_eq_true n1
        have n2 := of_decide_eq_true n2
        obtain ⟨fa, fd, ps, hm, hk, hl, hb, Fg, hg, _⟩ := S.fn f _ q
        have hb := hb (Option.isNone_iff_eq_none.mp n3)
        have hA : PA X (l :: ls) (liftA C Wx ((Es.cons a es).d F)) := da_cons (E.snd a X Wx l S tk g2) (Es.snd es X Wx ls S tk g1) (star_ok g3)
        have hl' : ps.length = es.len + 1 := hl.trans n2
        show PE X _ (lift C Wx (dCall (es.len + 1) (F.f f) ((Es.cons a es).d F)))
        rw [← hl']
        have Fg' : FnG X.prog X.w X.K X.mg X.base g k fa fd ps (liftF C.K C.Cl ps.length (F.f f)) := by rw [hl]; exact Fg
        exact de_call S.hK Fg' S.room (fun z => S.gdA (hg z)) tk (glB_ok g5) hm hk hb hA (okN_ok g4).1 (star_ok g3) (any_ok g1)
theorem uE_call (f : Nat) (es : Es) : SndT (cE_call f es) (fun F => dTru (dCall es.len (F.f f) (es.d F))) := by
    intro C G F gd k X Wx e S tk h
    have q := sE_call f es X Wx e S tk h
    cases e <;> first | (cases es <;> exact absurd h Bool.false_ne_true; done) | skip
    exact dt_tru S.hK q (plainT_ok rfl)
def E.call (f : Nat) (es : Es) : E := ⟨cE_call f es, fun F => dCall es.len (F.f f) (es.d F), fun F => dTru (dCall es.len (F.f f) (es.d F)), sE_call f es, uE_call f es⟩
@[simp] theorem rdE_call (f : Nat) (es : Es) {F : Fns} : (E.call f es).rd F = dCall es.len (F.f f) (es.d F) := rfl
@[simp] theorem rtE_call (f : Nat) (es : Es) {F : Fns} : (E.call f es).rt F = dTru (dCall es.len (F.f f) (es.d F)) := rfl
def cE_lc (tg : Tg) (src : Ic) (test : Oe) (elt : E) (own : List (Str × Nat)) (G : Gm) (N : List Str) (sc : Scope) (x0 : Expr) : Bool := match x0 with
  | .ListComp l [⟨t, it, ifs, as⟩] scope _ => decide (as = 0) && (!src.needT || tupE t) && src.chk G N sc it && noSet it && blkC N sc scope own && tg.chk true N (relS scope sc) t && test.chkT G.q N (relS scope sc) ifs && elt.chk G.q N (relS scope sc) l && (tg.slots.all fun i => decide (i ∈ own.map (·.2)))
  | _ => false
theorem sE_lc (tg : Tg) (src : Ic) (test : Oe) (elt : E) (own : List (Str × Nat)) : SndE (cE_lc tg src test elt own) (fun F => dLc (src.d F) tg (test.t F.q) (elt.d F.q) (own.map (·.2))) := by
    intro C G F gd k X Wx e S tk h
    cases e <;> first | (exact absurd h Bool.false_ne_true) | skip
    rename_i l gs scope p
    rcases gs with _ | ⟨⟨t, it, ifs, as⟩, _ | ⟨g2, gs⟩⟩ <;> first | (exact absurd h Bool.false_ne_true) | skip
    simp only [cE_lc] at h
    obtain ⟨h, g1⟩ := ba2 h
    obtain ⟨h, g2⟩ := ba2 h
    obtain ⟨h, g3⟩ := ba2 h
    obtain ⟨h, g4⟩ := ba2 h
    obtain ⟨h, g5⟩ := ba2 h
    obtain ⟨h, g6⟩ := ba2 h
    obtain ⟨h, g7⟩ := ba2 h
    obtain ⟨h, g8⟩ := ba2 h
    cases of_decide_eq_true h
    refine de_lc S.calm S.nd (Ic.snd src X Wx t it S tk g8 g7) (blkOk_by g5) (fun s H A cl fp => ?_) (fun s H A cl fp => ?_) (fun s H A cl fp => ?_) (fun i hi => of_decide_eq_true (List.all_eq_true.mp g1 i hi)) (noSet_ok g6)
    · exact Tg.snd (loc := true) (X := X.blk s H scope (compEnvC scope cl A X.env) fp) S.hK S.calm S.nd (fun z => Bool.noConfusion z) tg t g4
    · exact Oe.sndT test _ ifs (S.blk s H scope (compEnvC scope cl A X.env) fp) takesN g3
    · exact E.snd elt _ noW l (S.blk s H scope (compEnvC scope cl A X.env) fp) takesN g2
def E.lc (tg : Tg) (src : Ic) (test : Oe) (elt : E) (own : List (Str × Nat)) : E := ⟨cE_lc tg src test elt own, fun F => dLc (src.d F) tg (test.t F.q) (elt.d F.q) (own.map (·.2)), fun _ _ _ _ _ => False, sE_lc tg src test elt own, noT⟩
@[simp] theorem rdE_lc (tg : Tg) (src : Ic) (test : Oe) (elt : E) (own : List (Str × Nat)) {F : Fns} : (E.lc tg src test elt own).rd F = dLc (src.d F) tg (test.t F.q) (elt.d F.q) (own.map (·.2)) := rfl
@[simp] theorem rtE_lc (tg : Tg) (src : Ic) (test : Oe) (elt : E) (own : List (Str × Nat)) {F : Fns} : (E.lc tg src test elt own).rt F = (fun _ _ _ _ => False) := rfl
def cE_mm (mx : Bool) (a : E) (b : E) (G : Gm) (N : List Str) (sc : Scope) (x0 : Expr) : Bool := match x0 with
  | .Call (.Name x _) [l, r] [] _ => decide (mmN mx = x) && glB sc x && decide (x ∈ G.free) && noStar l && noStar r && a.chk G N sc l && b.chk G N sc r
  | _ => false
theorem sE_mm (mx : Bool) (a : E) (b : E) : SndE (cE_mm mx a b) (fun F => dMM mx (a.d F) (b.d F)) := by
    intro C G F gd k X Wx e S tk h
    cases e <;> first | (exact absurd h Bool.false_ne_true) | skip
    rename_i f ls kw p
    cases f <;> rcases ls with _ | ⟨l, _ | ⟨r, _ | ⟨l3, ls⟩⟩⟩ <;> rcases kw with _ | ⟨k1, kw⟩ <;> first | (exact absurd h Bool.false_ne_true) | skip
    simp only [cE_mm] at h
    obtain ⟨h, g1⟩ := ba2 h
    obtain ⟨h, g2⟩ := ba2 h
    obtain ⟨h, g3⟩ := ba2 h
    obtain ⟨h, g4⟩ := ba2 h
    obtain ⟨h, g5⟩ := ba2 h
    obtain ⟨g7, g6⟩ := ba2 h
    cases of_decide_eq_true g7
    exact de_mm S.calm (glB_ok g6) (S.free _ (of_decide_eq_true g5)) (E.snd a X Wx l S tk g2) (E.snd b X Wx r S tk g1) (star_ok g4) (star_ok g3)
def E.mm (mx : Bool) (a : E) (b : E) : E := ⟨cE_mm mx a b, fun F => dMM mx (a.d F) (b.d F), fun _ _ _ _ _ => False, sE_mm mx a b, noT⟩
@[simp] theorem rdE_mm (mx : Bool) (a : E) (b : E) {F : Fns} : (E.mm mx a b).rd F = dMM mx (a.d F) (b.d F) := rfl
@[simp] theorem rtE_mm (mx : Bool) (a : E) (b : E) {F : Fns} : (E.mm mx a b).rt F = (fun _ _ _ _ => False) := rfl
def cE_mxs (mx : Bool) (a : E) (G : Gm) (N : List Str) (sc : Scope) (x0 : Expr) : Bool := match x0 with
  | .Call (.Name x _) [l] [] _ => decide (mmN mx = x) && glB sc x && decide (x ∈ G.free) && noStar l && a.chk G N sc l
  | _ => false
theorem sE_mxs (mx : Bool) (a : E) : SndE (cE_mxs mx a) (fun F => dOp1 (wMx mx) (a.d F)) := by
    intro C G F gd k X Wx e S tk h
    cases e <;> first | (exact absurd h Bool.false_ne_true) | skip
    rename_i f ls kw p
    cases f <;> rcases ls with _ | ⟨l, _ | ⟨r, ls⟩⟩ <;> rcases kw with _ | ⟨k1, kw⟩ <;> first | (exact absurd h Bool.false_ne_true) | skip
    simp only [cE_mxs] at h
    obtain ⟨h, g1⟩ := ba2 h
    obtain ⟨h, g2⟩ := ba2 h
    obtain ⟨h, g3⟩ := ba2 h
    obtain ⟨g5, g4⟩ := ba2 h
    cases of_decide_eq_true g5
    exact de_mx S.hK S.calm (glB_ok g4) (S.free _ (of_decide_eq_true g3)) (E.snd a X Wx l S tk g1) (star_ok g2)
def E.mxs (mx : Bool) (a : E) : E := ⟨cE_mxs mx a, fun F => dOp1 (wMx mx) (a.d F), fun _ _ _ _ _ => False, sE_mxs mx a, noT⟩
@[simp] theorem rdE_mxs (mx : Bool) (a : E) {F : Fns} : (E.mxs mx a).rd F = dOp1 (wMx mx) (a.d F) := rfl
@[simp] theorem rtE_mxs (mx : Bool) (a : E) {F : Fns} : (E.mxs mx a).rt F = (fun _ _ _ _ => False) := rfl
def cE_blen (a : E) (G : Gm) (N : List Str) (sc : Scope) (x0 : Expr) : Bool := match x0 with
  | .Call (.Attribute l m ap) [] [] cp => decide (m = "bit_length") && (ap.endLine == cp.line) && noC0 l && a.chk G N sc l
  | _ => false
theorem sE_blen (a : E) : SndE (cE_blen a) (fun F => dOp1 wBl (a.d F)) := by
    intro C G F gd k X Wx e S tk h
    cases e <;> first | (exact absurd h Bool.false_ne_true) | skip
    rename_i f ls kw p
    cases f <;> rcases ls with _ | ⟨l, ls⟩ <;> rcases kw with _ | ⟨k1, kw⟩ <;> first | (exact absurd h Bool.false_ne_true) | skip
    simp only [cE_blen] at h
    obtain ⟨h, g1⟩ := ba2 h
    obtain ⟨h, g2⟩ := ba2 h
    obtain ⟨g4, g3⟩ := ba2 h
    cases of_decide_eq_true g4
    exact de_blen (E.snd a X Wx _ S tk g1) (base_ok g2) g3
def E.blen (a : E) : E := ⟨cE_blen a, fun F => dOp1 wBl (a.d F), fun _ _ _ _ _ => False, sE_blen a, noT⟩
@[simp] theorem rdE_blen (a : E) {F : Fns} : (E.blen a).rd F = dOp1 wBl (a.d F) := rfl
@[simp] theorem rtE_blen (a : E) {F : Fns} : (E.blen a).rt F = (fun _ _ _ _ => False) := rfl
def cE_join (a : E) (b : E) (G : Gm) (N : List Str) (sc : Scope) (x0 : Expr) : Bool := match x0 with
  | .Call (.Attribute l m ap) [r] [] cp => decide (m = "join") && (ap.endLine == cp.line) && noC0 l && noStar r && a.chk G N sc l && b.chk G N sc r
  | _ => false
theorem sE_join (a : E) (b : E) : SndE (cE_join a b) (fun F => dJoin (a.d F) (b.d F)) := by
    intro C G F gd k X Wx e S tk h
    cases e <;> first | (exact absurd h Bool.false_ne_true) | skip
    rename_i f ls kw p
    cases f <;> rcases ls with _ | ⟨r, _ | ⟨r2, ls⟩⟩ <;> rcases kw with _ | ⟨k1, kw⟩ <;> first | (exact absurd h Bool.false_ne_true) | skip
    simp only [cE_join] at h
    obtain ⟨h, g1⟩ := ba2 h
    obtain ⟨h, g2⟩ := ba2 h
    obtain ⟨h, g3⟩ := ba2 h
    obtain ⟨h, g4⟩ := ba2 h
    obtain ⟨g6, g5⟩ := ba2 h
    cases of_decide_eq_true g6
    exact de_join S.hK (E.snd a X Wx _ S tk g2) (E.snd b X Wx r S tk g1) (star_ok g3) (base_ok g4) g5
def E.join (a : E) (b : E) : E := ⟨cE_join a b, fun F => dJoin (a.d F) (b.d F), fun _ _ _ _ _ => False, sE_join a b, noT⟩
@[simp] theorem rdE_join (a : E) (b : E) {F : Fns} : (E.join a b).rd F = dJoin (a.d F) (b.d F) := rfl
@[simp] theorem rtE_join (a : E) (b : E) {F : Fns} : (E.join a b).rt F = (fun _ _ _ _ => False) := rfl
def cE_revL (a : E) (G : Gm) (N : List Str) (sc : Scope) (x0 : Expr) : Bool := match x0 with
  | .Subscript l (.Slice none none (some m) _) _ => isOne m && a.chk G N sc l
  | _ => false
theorem sE_revL (a : E) : SndE (cE_revL a) (fun F => dOp1 wRevL (a.d F)) := by
    intro C G F gd k X Wx e S tk h
    cases e <;> first | (exact absurd h Bool.false_ne_true) | skip
    rename_i l r p
    cases r <;> first | (exact absurd h Bool.false_ne_true) | skip
    rename_i x y st p2
    cases x <;> cases y <;> cases st <;> first | (exact absurd h Bool.false_ne_true) | skip
    simp only [cE_revL] at h
    obtain ⟨h1, h2⟩ := ba2 h
    obtain ⟨kk, q1, q2, rfl⟩ := isOne_ok h1
    exact de_revL S.hK (E.snd a X Wx l S tk h2)
def E.revL (a : E) : E := ⟨cE_revL a, fun F => dOp1 wRevL (a.d F), fun _ _ _ _ _ => False, sE_revL a, noT⟩
@[simp] theorem rdE_revL (a : E) {F : Fns} : (E.revL a).rd F = dOp1 wRevL (a.d F) := rfl
@[simp] theorem rtE_revL (a : E) {F : Fns} : (E.revL a).rt F = (fun _ _ _ _ => False) := rfl
def cE_act (i : Nat) (G : Gm) (N : List Str) (sc : Scope) (x0 : Expr) : Bool := match x0 with
  | .Call (.Name x _) [] [] _ => decide (N[i]? = some x) && visB sc x && okN x
  | _ => false
theorem sE_act (i : Nat) : SndE (cE_act i) (fun F => dAct i F.a) := by
    intro C G F gd k X Wx e S tk h
    cases e <;> first | (exact absurd h Bool.false_ne_true) | skip
    rename_i f ls kw p
    cases f <;> rcases ls with _ | ⟨l, ls⟩ <;> rcases kw with _ | ⟨k1, kw⟩ <;> first | (exact absurd h Bool.false_ne_true) | skip
    simp only [cE_act] at h
    obtain ⟨h, g1⟩ := ba2 h
    obtain ⟨h, g2⟩ := ba2 h
    exact S.act X.pn X.xe Wx i _ _ _ tk (of_decide_eq_true h) (visB_ok g2) g1
def E.act (i : Nat) : E := ⟨cE_act i, fun F => dAct i F.a, fun _ _ _ _ _ => False, sE_act i, noT⟩
@[simp] theorem rdE_act (i : Nat) {F : Fns} : (E.act i).rd F = dAct i F.a := rfl
@[simp] theorem rtE_act (i : Nat) {F : Fns} : (E.act i).rt F = (fun _ _ _ _ => False) := rfl
def cE_lam (f : Nat) (b : E) (G : Gm) (N : List Str) (sc : Scope) (x0 : Expr) : Bool := match x0 with
  | .Call (.Name x _) [.Lambda params body scope _] [] _ => G.lm && decide (G.hn[f]? = some x) && glB sc x && okN x && noPar params && LamX.lamSB sc scope && b.chk G.q N scope body
  | _ => false
theorem sE_lam (f : Nat) (b : E) : SndE (cE_lam f b) (fun F => dLam (F.g f) (b.d F.q)) := by
    intro C G F gd k X Wx e S tk h
    cases e <;> first | (exact absurd h Bool.false_ne_true) | (simp [cE_lam] at h; done) | skip
    rename_i f' ls kw p
    cases f' <;> rcases ls with _ | ⟨l, _ | ⟨l2, ls⟩⟩ <;> rcases kw with _ | ⟨k1, kw⟩ <;> first | (exact absurd h Bool.false_ne_true) | (simp [cE_lam] at h; done) | skip
    cases l <;> first | (exact absurd h Bool.false_ne_true) | (simp [cE_lam] at h; done) | skip
    rename_i x p1 params body scope lpos
    simp only [cE_lam] at h
    obtain ⟨h, g1⟩ := ba2 h
    obtain ⟨h, g2⟩ := ba2 h
    obtain ⟨h, g3⟩ := ba2 h
    obtain ⟨h, g4⟩ := ba2 h
    obtain ⟨h, g5⟩ := ba2 h
    obtain ⟨g7, g6⟩ := ba2 h
    obtain ⟨k', hk2, ⟨fns, gns⟩, hos, c, Pt, TB, hcode, hT, hu⟩ := S.lam g7
    obtain ⟨fa, fd, a, hm, hk, hb, Ho⟩ := hos f x (of_decide_eq_true g6)
    have hpar : params = ⟨[], [], none, [], [], none, []⟩ := by
      unfold noPar at g3
      split at g3
      · rfl
      · cases g3
    subst hpar
    refine de_lam (k := k') S.hK (S.hK ▸ Ho) (S.room.mono hk2) S.gdA tk (glB_ok g5) hm hk hb TB hcode hT hu (LamX.lamS_by g2) rfl (fun q cl pm cv ctv => bind_kw (ps := []) (ks := []) (pi := []) (us := []) (ws := []) rfl rfl rfl rfl) (fun A outer t Gp E f' c' hr hg => ?_) (okN_ok g4).1
    exact DL.E.snd (G := G.q) (F := F.q) b (lamCxh X A outer t Gp E scope f' c') _ body ⟨S.hK, rfl, S.nd, (room65 hr), hr, hg, S.sh, S.free, S.con, fns, fun _ _ _ _ _ _ _ _ _ _ _ => de_noact, fun z => Bool.noConfusion z, gns⟩ (takes_of rfl rfl rfl rfl) g1
def E.lam (f : Nat) (b : E) : E := ⟨cE_lam f b, fun F => dLam (F.g f) (b.d F.q), fun _ _ _ _ _ => False, sE_lam f b, noT⟩
@[simp] theorem rdE_lam (f : Nat) (b : E) {F : Fns} : (E.lam f b).rd F = dLam (F.g f) (b.d F.q) := rfl
@[simp] theorem rtE_lam (f : Nat) (b : E) {F : Fns} : (E.lam f b).rt F = (fun _ _ _ _ => False) := rfl
def cE_dget (a : E) (i : E) (G : Gm) (N : List Str) (sc : Scope) (x0 : Expr) : Bool := match x0 with
  | .Subscript l r _ => noSlice r && a.chk G N sc l && i.chk G N sc r
  | _ => false
theorem sE_dget (a : E) (i : E) : SndE (cE_dget a i) (fun F => dDget (a.d F) (i.d F)) := by
    intro C G F gd k X Wx e S tk h
    cases e <;> first | (exact absurd h Bool.false_ne_true) | skip
    rename_i l r p
    have h' : (noSlice r && a.chk G X.N X.env.scope l && i.chk G X.N X.env.scope r) = true := by
      simp only [cE_dget] at h
      exact h
    obtain ⟨h1, h2⟩ := ba2 h'
    obtain ⟨h1, h3⟩ := ba2 h1
    exact de_dget (Nat.lt_of_le_of_lt (by omega) S.units) (noSl_ok h1) (E.snd a X Wx l S tk h3) (E.snd i X Wx r S tk h2)
theorem uE_dget (a : E) (i : E) : SndT (cE_dget a i) (fun F => dTru (dDget (a.d F) (i.d F))) := by
    intro C G F gd k X Wx e S tk h
    have q := sE_dget a i X Wx e S tk h
    cases e <;> first | (exact absurd h Bool.false_ne_true) | skip
    exact dt_tru S.hK q (plainT_ok rfl)
def E.dget (a : E) (k : E) : E := ⟨cE_dget a k, fun F => dDget (a.d F) (k.d F), fun F => dTru (dDget (a.d F) (k.d F)), sE_dget a k, uE_dget a k⟩
@[simp] theorem rdE_dget (a : E) (k : E) {F : Fns} : (E.dget a k).rd F = dDget (a.d F) (k.d F) := rfl
@[simp] theorem rtE_dget (a : E) (k : E) {F : Fns} : (E.dget a k).rt F = dTru (dDget (a.d F) (k.d F)) := rfl
def cE_dic (ks : List Str) (es : Es) (G : Gm) (N : List Str) (sc : Scope) (x0 : Expr) : Bool := match x0 with
  | .Dict keys ls _ => keysB ks keys && decide ks.Nodup && decide (ks.length ≤ 15) && decide (ks ≠ []) && decide (es.len = ks.length) && es.chk G N sc ls
  | _ => false
theorem sE_dic (ks : List Str) (es : Es) : SndE (cE_dic ks es) (fun F => dDic ks (es.d F)) := by
    intro C G F gd k X Wx e S tk h
    cases e <;> first | (exact absurd h Bool.false_ne_true) | skip
    rename_i keys ls p
    simp only [cE_dic] at h
    obtain ⟨h, g1⟩ := ba2 h
    obtain ⟨h, g2⟩ := ba2 h
    obtain ⟨h, g3⟩ := ba2 h
    obtain ⟨h, g4⟩ := ba2 h
    obtain ⟨g6, g5⟩ := ba2 h
    have g2 := of_decide_eq_true g2
    obtain ⟨trs, pp, ht, kl, kall⟩ := Es.sndP es X Wx ls ks keys p S tk g1 g6 g2
    exact de_dic pp ht kall (kl.1.trans kl.2) (fun z => (of_decide_eq_true g3) (by
      have : keys.length = ks.length := kl.1.trans (kl.2.trans (es_len g1 |>.symm.trans g2))
      rw [z] at this
      exact List.eq_nil_of_length_eq_zero this.symm)) (by
      have : keys.length = ks.length := kl.1.trans (kl.2.trans (es_len g1 |>.symm.trans g2))
      rw [this]; exact of_decide_eq_true g4) (of_decide_eq_true g4) (of_decide_eq_true g5)
def E.dic (ks : List Str) (es : Es) : E := ⟨cE_dic ks es, fun F => dDic ks (es.d F), fun _ _ _ _ _ => False, sE_dic ks es, noT⟩
@[simp] theorem rdE_dic (ks : List Str) (es : Es) {F : Fns} : (E.dic ks es).rd F = dDic ks (es.d F) := rfl
@[simp] theorem rtE_dic (ks : List Str) (es : Es) {F : Fns} : (E.dic ks es).rt F = (fun _ _ _ _ => False) := rfl
def cE_callK (f : Nat) (ks : List Str) (pi : List Nat) (es : Es) (us : Es) (G : Gm) (N : List Str) (sc : Scope) (x0 : Expr) : Bool := match x0 with
  | .Call (.Name x _) ls kws _ => (match G.fn[f]? with
    | some (y, n, _) => decide (y = x) && decide (n = pi.length) && (match G.ps[f]? with
      | some ps => kwB ps es.len ks pi && decide (ps.length = n) && (G.koA f).isNone
      | none => false)
    | none => false) && glB sc x && okN x && decide (kws.map (·.arg) = ks.map some) && decide (us.len = ks.length) && es.chk G N sc ls && us.chkK G N sc kws
  | _ => false
theorem sE_callK (f : Nat) (ks : List Str) (pi : List Nat) (es : Es) (us : Es) : SndE (cE_callK f ks pi es us) (fun F => dCallK pi.length es.len us.len pi (F.f f) (es.d F) (us.d F)) := by
    intro C G F gd k X Wx e S tk h
    cases e <;> first | (exact absurd h Bool.false_ne_true) | skip
    rename_i f' ls kws p
    cases f' <;> first | (exact absurd h Bool.false_ne_true) | skip
    rename_i x p1
    simp only [cE_callK] at h
    obtain ⟨h, g1⟩ := ba2 h
    obtain ⟨h, g2⟩ := ba2 h
    obtain ⟨h, g3⟩ := ba2 h
    obtain ⟨h, g4⟩ := ba2 h
    obtain ⟨h, g5⟩ := ba2 h
    obtain ⟨h, g6⟩ := ba2 h
    cases q : G.fn[f]? with
    | none => rw [q] at h; cases h
    | some pq =>
      obtain ⟨y, n, g⟩ := pq
      rw [q] at h
      obtain ⟨h, n3⟩ := ba2 h
      obtain ⟨n1, n2⟩ := ba2 h
      cases of_decide_eq_true n1
      have n2 := of_decide_eq_true n2
      cases q2 : G.ps[f]? with
      | none => rw [q2] at n3; cases n3
      | some qs =>
        rw [q2] at n3
        obtain ⟨n3, n6⟩ := ba2 n3
        obtain ⟨n4, n5⟩ := ba2 n3
        obtain ⟨fa, fd, ps, hm, hk, hl, hb, Fg, hg, bk, hps, _⟩ := S.fn f _ q
        have bk := bk (Option.isNone_iff_eq_none.mp n6)
        cases hps qs q2
        have hl2 : qs.length = pi.length := hl.trans n2
        have hus := of_decide_eq_true g3
        have hel := es_len g2
        show PE X _ (lift C Wx (dCallK pi.length es.len us.len pi (F.f f) (es.d F) (us.d F)))
        rw [← hl2, hel, hus]
        have Fg' : FnG X.prog X.w X.K X.mg X.base g k fa fd qs (liftF C.K C.Cl qs.length (F.f f)) := by rw [hl]; exact Fg
        refine de_callK S.hK Fg' S.room (fun z => S.gdA (hg z)) tk (glB_ok g6) hm hk bk (Es.snd es X Wx ls S tk g2) (Es.sndK us X Wx kws S tk g1) (hel ▸ n4) (of_decide_eq_true g4) (okN_ok g5).1 ?_ (any_ok g2) (fun z ds h Z P t => ?_)
        · cases ls with
          | nil => exact .inl rfl
          | cons l ls =>
            cases es with
            | nil => simp [Es.chk] at g2
            | cons a es =>
              unfold Es.chk at g2
              exact .inr ⟨l, ls, rfl, star_ok (ba2 (ba2 g2).1).1⟩
        · subst z
          cases es with
          | nil => exact t
          | cons a es => simp [Es.chk] at g2
def E.callK (f : Nat) (ks : List Str) (pi : List Nat) (es : Es) (us : Es) : E := ⟨cE_callK f ks pi es us, fun F => dCallK pi.length es.len us.len pi (F.f f) (es.d F) (us.d F), fun _ _ _ _ _ => False, sE_callK f ks pi es us, noT⟩
@[simp] theorem rdE_callK (f : Nat) (ks : List Str) (pi : List Nat) (es : Es) (us : Es) {F : Fns} : (E.callK f ks pi es us).rd F = dCallK pi.length es.len us.len pi (F.f f) (es.d F) (us.d F) := rfl
@[simp] theorem rtE_callK (f : Nat) (ks : List Str) (pi : List Nat) (es : Es) (us : Es) {F : Fns} : (E.callK f ks pi es us).rt F = (fun _ _ _ _ => False) := rfl
def cE_fin (ng : Bool) (a : E) (b : E) (G : Gm) (N : List Str) (sc : Scope) (x0 : Expr) : Bool := match x0 with
  | .Compare l [o] [r] _ => decide (inP ng = o) && noSet r && a.chk G N sc l && b.chk G N sc r
  | _ => false
theorem sE_fin (ng : Bool) (a : E) (b : E) : SndE (cE_fin ng a b) (fun F => dFin ng (a.d F) (b.d F)) := by
    intro C G F gd k X Wx e S tk h
    cases e <;> first | (exact absurd h Bool.false_ne_true) | skip
    rename_i l os rs p
    rcases os with _ | ⟨o, _ | ⟨o2, os⟩⟩ <;> rcases rs with _ | ⟨r, _ | ⟨r2, rs⟩⟩ <;> first | (exact absurd h Bool.false_ne_true) | skip
    simp only [cE_fin] at h
    obtain ⟨h1, h2⟩ := ba2 h
    obtain ⟨h1, h3⟩ := ba2 h1
    obtain ⟨h1, h4⟩ := ba2 h1
    cases of_decide_eq_true h1
    exact de_fin (Nat.lt_of_le_of_lt (by omega) S.units) (nomk h4) (E.snd a X Wx l S tk h3) (E.snd b X Wx r S tk h2)
theorem uE_fin (ng : Bool) (a : E) (b : E) : SndT (cE_fin ng a b) (fun F => dFinT ng (a.d F) (b.d F)) := by
    intro C G F gd k X Wx e S tk h
    cases e <;> first | (exact absurd h Bool.false_ne_true) | skip
    rename_i l os rs p
    rcases os with _ | ⟨o, _ | ⟨o2, os⟩⟩ <;> rcases rs with _ | ⟨r, _ | ⟨r2, rs⟩⟩ <;> first | (exact absurd h Bool.false_ne_true) | skip
    simp only [cE_fin] at h
    obtain ⟨h1, h2⟩ := ba2 h
    obtain ⟨h1, h3⟩ := ba2 h1
    obtain ⟨h1, h4⟩ := ba2 h1
    cases of_decide_eq_true h1
    exact dt_fin (Nat.lt_of_le_of_lt (by omega) S.units) (nomk h4) (E.snd a X Wx l S tk h3) (E.snd b X Wx r S tk h2)
def E.fin (ng : Bool) (k : E) (a : E) : E := ⟨cE_fin ng k a, fun F => dFin ng (k.d F) (a.d F), fun F => dFinT ng (k.d F) (a.d F), sE_fin ng k a, uE_fin ng k a⟩
@[simp] theorem rdE_fin (ng : Bool) (k : E) (a : E) {F : Fns} : (E.fin ng k a).rd F = dFin ng (k.d F) (a.d F) := rfl
@[simp] theorem rtE_fin (ng : Bool) (k : E) (a : E) {F : Fns} : (E.fin ng k a).rt F = dFinT ng (k.d F) (a.d F) := rfl
def cIc_l (a : E) (G : Gm) (N : List Str) (sc : Scope) (x0 : Expr) : Bool := match x0 with
  | l => a.chk G N sc l
theorem sIc_l (a : E) : SndI false (cIc_l a) (fun F => dItL (a.d F)) := by
    intro C G F gd k X Wx tg e S tk ht h
    simp only [cIc_l] at h
    exact di_lst S.hK (E.snd a X Wx e S tk h)
def Ic.l (e : E) : Ic := ⟨false, cIc_l e, fun F => dItL (e.d F), sIc_l e⟩
@[simp] theorem rdIc_l (e : E) {F : Fns} : (Ic.l e).rd F = dItL (e.d F) := rfl
def cIc_t (a : E) (G : Gm) (N : List Str) (sc : Scope) (x0 : Expr) : Bool := match x0 with
  | l => a.chk G N sc l
theorem sIc_t (a : E) : SndI false (cIc_t a) (fun F => dItT (a.d F)) := by
    intro C G F gd k X Wx tg e S tk ht h
    simp only [cIc_t] at h
    exact di_tup S.hK (E.snd a X Wx e S tk h)
def Ic.t (e : E) : Ic := ⟨false, cIc_t e, fun F => dItT (e.d F), sIc_t e⟩
@[simp] theorem rdIc_t (e : E) {F : Fns} : (Ic.t e).rd F = dItT (e.d F) := rfl
def cIc_s (a : E) (G : Gm) (N : List Str) (sc : Scope) (x0 : Expr) : Bool := match x0 with
  | l => a.chk G N sc l
theorem sIc_s (a : E) : SndI false (cIc_s a) (fun F => dItS (a.d F)) := by
    intro C G F gd k X Wx tg e S tk ht h
    simp only [cIc_s] at h
    exact di_str (E.snd a X Wx e S tk h)
def Ic.s (e : E) : Ic := ⟨false, cIc_s e, fun F => dItS (e.d F), sIc_s e⟩
@[simp] theorem rdIc_s (e : E) {F : Fns} : (Ic.s e).rd F = dItS (e.d F) := rfl
def cIc_r1 (a : E) (G : Gm) (N : List Str) (sc : Scope) (x0 : Expr) : Bool := match x0 with
  | .Call (.Name x _) [l] [] _ => decide (x = "range") && glB sc x && decide (x ∈ G.free) && noStar l && a.chk G N sc l
  | _ => false
theorem sIc_r1 (a : E) : SndI false (cIc_r1 a) (fun F => dItR1 (a.d F)) := by
    intro C G F gd k X Wx tg e S tk ht h
    cases e <;> first | (exact absurd h Bool.false_ne_true) | skip
    rename_i f ls kw p
    cases f <;> rcases ls with _ | ⟨l, _ | ⟨l2, ls⟩⟩ <;> rcases kw with _ | ⟨k1, kw⟩ <;> first | (exact absurd h Bool.false_ne_true) | skip
    simp only [cIc_r1] at h
    obtain ⟨h, g1⟩ := ba2 h
    obtain ⟨h, g2⟩ := ba2 h
    obtain ⟨h, g3⟩ := ba2 h
    obtain ⟨h, g4⟩ := ba2 h
    cases of_decide_eq_true h
    exact di_r1 (glB_ok g4) (S.free _ (of_decide_eq_true g3)) (E.snd a X Wx l S tk g1) (star_ok g2)
def Ic.r1 (e : E) : Ic := ⟨false, cIc_r1 e, fun F => dItR1 (e.d F), sIc_r1 e⟩
@[simp] theorem rdIc_r1 (e : E) {F : Fns} : (Ic.r1 e).rd F = dItR1 (e.d F) := rfl
def cIc_r2 (a : E) (b : E) (G : Gm) (N : List Str) (sc : Scope) (x0 : Expr) : Bool := match x0 with
  | .Call (.Name x _) [l, r] [] _ => decide (x = "range") && glB sc x && decide (x ∈ G.free) && noStar l && noStar r && a.chk G N sc l && b.chk G N sc r
  | _ => false
theorem sIc_r2 (a : E) (b : E) : SndI false (cIc_r2 a b) (fun F => dItR2 (a.d F) (b.d F)) := by
    intro C G F gd k X Wx tg e S tk ht h
    cases e <;> first | (exact absurd h Bool.false_ne_true) | (simp [cIc_r2] at h; done) | skip
    rename_i f ls kw p
    cases f <;> rcases ls with _ | ⟨l, _ | ⟨l2, _ | ⟨l3, ls⟩⟩⟩ <;> rcases kw with _ | ⟨k1, kw⟩ <;> first | (exact absurd h Bool.false_ne_true) | (simp [cIc_r2] at h; done) | skip
    simp only [cIc_r2] at h
    obtain ⟨h, g1⟩ := ba2 h
    obtain ⟨h, g2⟩ := ba2 h
    obtain ⟨h, g3⟩ := ba2 h
    obtain ⟨h, g4⟩ := ba2 h
    obtain ⟨h, g5⟩ := ba2 h
    obtain ⟨h, g6⟩ := ba2 h
    cases of_decide_eq_true h
    exact di_r2 (glB_ok g6) (S.free _ (of_decide_eq_true g5)) (E.snd a X Wx l S tk g2) (E.snd b X Wx l2 S tk g1) (by rw [star_ok g4, star_ok g3]; rfl) (star_ok g3)
def Ic.r2 (a : E) (b : E) : Ic := ⟨false, cIc_r2 a b, fun F => dItR2 (a.d F) (b.d F), sIc_r2 a b⟩
@[simp] theorem rdIc_r2 (a : E) (b : E) {F : Fns} : (Ic.r2 a b).rd F = dItR2 (a.d F) (b.d F) := rfl
def cIc_en (a : E) (G : Gm) (N : List Str) (sc : Scope) (x0 : Expr) : Bool := match x0 with
  | .Call (.Name x _) [l] [] _ => decide (x = "enumerate") && glB sc x && decide (x ∈ G.free) && noStar l && a.chk G N sc l
  | _ => false
theorem sIc_en (a : E) : SndI true (cIc_en a) (fun F => dItE (a.d F)) := by
    intro C G F gd k X Wx tg e S tk ht h
    cases tg <;> first | (exact absurd ht Bool.false_ne_true) | skip
    cases e <;> first | (exact absurd h Bool.false_ne_true) | skip
    rename_i f ls kw p
    cases f <;> rcases ls with _ | ⟨l, _ | ⟨l2, ls⟩⟩ <;> rcases kw with _ | ⟨k1, kw⟩ <;> first | (exact absurd h Bool.false_ne_true) | skip
    simp only [cIc_en] at h
    obtain ⟨h, g1⟩ := ba2 h
    obtain ⟨h, g2⟩ := ba2 h
    obtain ⟨h, g3⟩ := ba2 h
    obtain ⟨h, g4⟩ := ba2 h
    cases of_decide_eq_true h
    exact di_en S.hK (glB_ok g4) (S.free _ (of_decide_eq_true g3)) (E.snd a X Wx l S tk g1) (star_ok g2)
def Ic.en (e : E) : Ic := ⟨true, cIc_en e, fun F => dItE (e.d F), sIc_en e⟩
@[simp] theorem rdIc_en (e : E) {F : Fns} : (Ic.en e).rd F = dItE (e.d F) := rfl
def cIc_enl (a : E) (G : Gm) (N : List Str) (sc : Scope) (x0 : Expr) : Bool := match x0 with
  | .Call (.Name x _) [l] [] _ => decide (x = "enumerate") && glB sc x && decide (x ∈ G.free) && noStar l && a.chk G N sc l
  | _ => false
theorem sIc_enl (a : E) : SndI true (cIc_enl a) (fun F => dItEL (a.d F)) := by
    intro C G F gd k X Wx tg e S tk ht h
    cases tg <;> first | (exact absurd ht Bool.false_ne_true) | skip
    cases e <;> first | (exact absurd h Bool.false_ne_true) | skip
    rename_i f ls kw p
    cases f <;> rcases ls with _ | ⟨l, _ | ⟨l2, ls⟩⟩ <;> rcases kw with _ | ⟨k1, kw⟩ <;> first | (exact absurd h Bool.false_ne_true) | skip
    simp only [cIc_enl] at h
    obtain ⟨h, g1⟩ := ba2 h
    obtain ⟨h, g2⟩ := ba2 h
    obtain ⟨h, g3⟩ := ba2 h
    obtain ⟨h, g4⟩ := ba2 h
    cases of_decide_eq_true h
    exact di_enl S.hK (glB_ok g4) (S.free _ (of_decide_eq_true g3)) (E.snd a X Wx l S tk g1) (star_ok g2)
def Ic.enl (e : E) : Ic := ⟨true, cIc_enl e, fun F => dItEL (e.d F), sIc_enl e⟩
@[simp] theorem rdIc_enl (e : E) {F : Fns} : (Ic.enl e).rd F = dItEL (e.d F) := rfl
def cIc_ens (a : E) (G : Gm) (N : List Str) (sc : Scope) (x0 : Expr) : Bool := match x0 with
  | .Call (.Name x _) [l] [] _ => decide (x = "enumerate") && glB sc x && decide (x ∈ G.free) && noStar l && a.chk G N sc l
  | _ => false
theorem sIc_ens (a : E) : SndI true (cIc_ens a) (fun F => dItES (a.d F)) := by
    intro C G F gd k X Wx tg e S tk ht h
    cases tg <;> first | (exact absurd ht Bool.false_ne_true) | skip
    cases e <;> first | (exact absurd h Bool.false_ne_true) | skip
    rename_i f ls kw p
    cases f <;> rcases ls with _ | ⟨l, _ | ⟨l2, ls⟩⟩ <;> rcases kw with _ | ⟨k1, kw⟩ <;> first | (exact absurd h Bool.false_ne_true) | skip
    simp only [cIc_ens] at h
    obtain ⟨h, g1⟩ := ba2 h
    obtain ⟨h, g2⟩ := ba2 h
    obtain ⟨h, g3⟩ := ba2 h
    obtain ⟨h, g4⟩ := ba2 h
    cases of_decide_eq_true h
    exact di_ens (glB_ok g4) (S.free _ (of_decide_eq_true g3)) (E.snd a X Wx l S tk g1) (star_ok g2)
def Ic.ens (e : E) : Ic := ⟨true, cIc_ens e, fun F => dItES (e.d F), sIc_ens e⟩
@[simp] theorem rdIc_ens (e : E) {F : Fns} : (Ic.ens e).rd F = dItES (e.d F) := rfl
def cIc_r3 (a : E) (b : E) (c : E) (G : Gm) (N : List Str) (sc : Scope) (x0 : Expr) : Bool := match x0 with
  | .Call (.Name x _) [l, r, q] [] _ => decide (x = "range") && glB sc x && decide (x ∈ G.free) && noStar l && noStar r && noStar q && a.chk G N sc l && b.chk G N sc r && c.chk G N sc q
  | _ => false
theorem sIc_r3 (a : E) (b : E) (c : E) : SndI false (cIc_r3 a b c) (fun F => dItR3 (a.d F) (b.d F) (c.d F)) := by
    intro C G F gd k X Wx tg e S tk ht h
    cases e <;> first | (exact absurd h Bool.false_ne_true) | (simp [cIc_r3] at h; done) | skip
    rename_i f ls kw p
    cases f <;> rcases ls with _ | ⟨l, _ | ⟨l2, _ | ⟨l3, _ | ⟨l4, ls⟩⟩⟩⟩ <;> rcases kw with _ | ⟨k1, kw⟩ <;> first | (exact absurd h Bool.false_ne_true) | (simp [cIc_r3] at h; done) | skip
    simp only [cIc_r3] at h
    obtain ⟨h, g1⟩ := ba2 h
    obtain ⟨h, g2⟩ := ba2 h
    obtain ⟨h, g3⟩ := ba2 h
    obtain ⟨h, g4⟩ := ba2 h
    obtain ⟨h, g5⟩ := ba2 h
    obtain ⟨h, g6⟩ := ba2 h
    obtain ⟨h, g7⟩ := ba2 h
    obtain ⟨h, g8⟩ := ba2 h
    cases of_decide_eq_true h
    exact di_r3 (glB_ok g8) (S.free _ (of_decide_eq_true g7)) (E.snd a X Wx l S tk g3) (E.snd b X Wx l2 S tk g2) (E.snd c X Wx l3 S tk g1) (star_ok g6) (star_ok g5) (star_ok g4)
def Ic.r3 (a : E) (b : E) (c : E) : Ic := ⟨false, cIc_r3 a b c, fun F => dItR3 (a.d F) (b.d F) (c.d F), sIc_r3 a b c⟩
@[simp] theorem rdIc_r3 (a : E) (b : E) (c : E) {F : Fns} : (Ic.r3 a b c).rd F = dItR3 (a.d F) (b.d F) (c.d F) := rfl
def cIc_r4 (a : E) (b : E) (c : E) (G : Gm) (N : List Str) (sc : Scope) (x0 : Expr) : Bool := match x0 with
  | .Call (.Name x _) [l, r, q] [] _ => decide (x = "range") && glB sc x && decide (x ∈ G.free) && noStar l && noStar r && noStar q && a.chk G N sc l && b.chk G N sc r && c.chk G N sc q
  | _ => false
theorem sIc_r4 (a : E) (b : E) (c : E) : SndI false (cIc_r4 a b c) (fun F => dItR4 (a.d F) (b.d F) (c.d F)) := by
    intro C G F gd k X Wx tg e S tk ht h
    cases e <;> first | (exact absurd h Bool.false_ne_true) | (simp [cIc_r4] at h; done) | skip
    rename_i f ls kw p
    cases f <;> rcases ls with _ | ⟨l, _ | ⟨l2, _ | ⟨l3, _ | ⟨l4, ls⟩⟩⟩⟩ <;> rcases kw with _ | ⟨k1, kw⟩ <;> first | (exact absurd h Bool.false_ne_true) | (simp [cIc_r4] at h; done) | skip
    simp only [cIc_r4] at h
    obtain ⟨h, g1⟩ := ba2 h
    obtain ⟨h, g2⟩ := ba2 h
    obtain ⟨h, g3⟩ := ba2 h
    obtain ⟨h, g4⟩ := ba2 h
    obtain ⟨h, g5⟩ := ba2 h
    obtain ⟨h, g6⟩ := ba2 h
    obtain ⟨h, g7⟩ := ba2 h
    obtain ⟨h, g8⟩ := ba2 h
    cases of_decide_eq_true h
    exact di_r4 (glB_ok g8) (S.free _ (of_decide_eq_true g7)) (E.snd a X Wx l S tk g3) (E.snd b X Wx l2 S tk g2) (E.snd c X Wx l3 S tk g1) (star_ok g6) (star_ok g5) (star_ok g4)
def Ic.r4 (a : E) (b : E) (c : E) : Ic := ⟨false, cIc_r4 a b c, fun F => dItR4 (a.d F) (b.d F) (c.d F), sIc_r4 a b c⟩
@[simp] theorem rdIc_r4 (a : E) (b : E) (c : E) {F : Fns} : (Ic.r4 a b c).rd F = dItR4 (a.d F) (b.d F) (c.d F) := rfl
def cIc_zip (a : E) (b : E) (G : Gm) (N : List Str) (sc : Scope) (x0 : Expr) : Bool := match x0 with
  | .Call (.Name x _) [l, r] [] _ => decide (x = "zip") && glB sc x && decide (x ∈ G.free) && noStar l && noStar r && a.chk G N sc l && b.chk G N sc r
  | _ => false
theorem sIc_zip (a : E) (b : E) : SndI true (cIc_zip a b) (fun F => dItZ (a.d F) (b.d F)) := by
    intro C G F gd k X Wx tg e S tk ht h
    cases tg <;> first | (exact absurd ht Bool.false_ne_true) | skip
    cases e <;> first | (exact absurd h Bool.false_ne_true) | (simp [cIc_zip] at h; done) | skip
    rename_i f ls kw p
    cases f <;> rcases ls with _ | ⟨l, _ | ⟨l2, _ | ⟨l3, ls⟩⟩⟩ <;> rcases kw with _ | ⟨k1, kw⟩ <;> first | (exact absurd h Bool.false_ne_true) | (simp [cIc_zip] at h; done) | skip
    simp only [cIc_zip] at h
    obtain ⟨h, g1⟩ := ba2 h
    obtain ⟨h, g2⟩ := ba2 h
    obtain ⟨h, g3⟩ := ba2 h
    obtain ⟨h, g4⟩ := ba2 h
    obtain ⟨h, g5⟩ := ba2 h
    obtain ⟨h, g6⟩ := ba2 h
    cases of_decide_eq_true h
    exact di_zip S.hK (glB_ok g6) (S.free _ (of_decide_eq_true g5)) (E.snd a X Wx l S tk g2) (E.snd b X Wx l2 S tk g1) (star_ok g4) (star_ok g3)
def Ic.zip (a : E) (b : E) : Ic := ⟨true, cIc_zip a b, fun F => dItZ (a.d F) (b.d F), sIc_zip a b⟩
@[simp] theorem rdIc_zip (a : E) (b : E) {F : Fns} : (Ic.zip a b).rd F = dItZ (a.d F) (b.d F) := rfl
def cIc_dk (a : E) (G : Gm) (N : List Str) (sc : Scope) (x0 : Expr) : Bool := match x0 with
  | l => a.chk G N sc l
theorem sIc_dk (a : E) : SndI false (cIc_dk a) (fun F => dItDk (a.d F)) := by
    intro C G F gd k X Wx tg e S tk ht h
    simp only [cIc_dk] at h
    exact di_dk (E.snd a X Wx e S tk h)
def Ic.dk (e : E) : Ic := ⟨false, cIc_dk e, fun F => dItDk (e.d F), sIc_dk e⟩
@[simp] theorem rdIc_dk (e : E) {F : Fns} : (Ic.dk e).rd F = dItDk (e.d F) := rfl
def cIc_ci (a : E) (G : Gm) (N : List Str) (sc : Scope) (x0 : Expr) : Bool := match x0 with
  | .Call (.Attribute l m ap) [] [] cp => decide (m = "items") && (ap.endLine == cp.line) && noC0 l && a.chk G N sc l
  | _ => false
theorem sIc_ci (a : E) : SndI true (cIc_ci a) (fun F => dItCi (a.d F)) := by
    intro C G F gd k X Wx tg e S tk ht h
    cases tg <;> first | (exact absurd ht Bool.false_ne_true) | skip
    cases e <;> first | (exact absurd h Bool.false_ne_true) | skip
    rename_i f ls kw p
    cases f <;> rcases ls with _ | ⟨r, ls⟩ <;> rcases kw with _ | ⟨k1, kw⟩ <;> first | (exact absurd h Bool.false_ne_true) | skip
    simp only [cIc_ci] at h
    obtain ⟨h, g1⟩ := ba2 h
    obtain ⟨h, g2⟩ := ba2 h
    obtain ⟨g4, g3⟩ := ba2 h
    cases of_decide_eq_true g4
    exact di_ci (E.snd a X Wx _ S tk g1) (base_ok g2) g3
def Ic.ci (e : E) : Ic := ⟨true, cIc_ci e, fun F => dItCi (e.d F), sIc_ci e⟩
@[simp] theorem rdIc_ci (e : E) {F : Fns} : (Ic.ci e).rd F = dItCi (e.d F) := rfl
end DL
set_option maxHeartbeats 8000000
namespace DL
open PySem PySem.Spec PyProof.Rows L2
section
variable {X : Cx} {C : Cn} {Wx : WX}
/-- how a value goes into a slot: as an own list, as a tree -/
def stW (o : Bool) (w : W) (k : W → Prop) : Prop := match o with
  | true => ∃ xs, w = .new xs ∧ k (.own xs)
  | false => ∃ d, toD w = some d ∧ k (.d d)
/-- a new list's place is no slot's own -/
def NewOk (C : Cn) (ds : DSt) (σ : Sl) (w : W) (v : V) : Prop := ∀ xs a, w = .new xs → v = .ref a → C.H₀ a = none ∧ ∀ (j : Nat) ys, ds[j]? = some (some (.own ys)) → σ[j]? ≠ some (some (.ref a))
theorem newOk_of {R R' : Rg} {H H' : Hp} {ds : DSt} {σ : Sl} {h : Hs} {w : W} {v : V} (e : Env C R ds σ H h) (r : RelW C.K H R' H' w v) : NewOk C ds σ w v := fun xs a hw hv => by
  subst hw hv
  obtain ⟨a', vs, ea, n1, _⟩ := r
  cases ea
  refine ⟨e.ex.dom a n1, fun j ys hj hs => ?_⟩
  obtain ⟨v0, s0, a0, vs0, ev0, q0, _⟩ := e.slot j _ hj
  rw [hs] at s0; cases s0; cases ev0; rw [n1] at q0; cases q0
def Apart (w w' : W) (v v' : V) : Prop := ∀ xs xs', w = .new xs → w' = .new xs' → v ≠ v'
theorem Env.put {R : Rg} {H H₁ : Hp} {ds : DSt} {σ : Sl} {h : Hs} {w : W} {v : V} {o : Bool} {k : W → Prop} (i : Nat) (e : Env C R ds σ H h) (r : RelW C.K H₁ R H w v) (n : NewOk C ds σ w v) (q : stW o w k) :
    ∃ R' s, k s ∧ Env C R' (ds.set i (some s)) (σ.set i (some v)) H h ∧ Mo C.K R H R' H ∧ (∀ w' v', RelW C.K H₁ R H w' v' → Apart w w' v v' → (∀ zs, w' ≠ .own zs) → RelW C.K H₁ R' H w' v') ∧
      (∀ w' v', NewOk C ds σ w' v' → Apart w w' v v' → NewOk C (ds.set i (some s)) (σ.set i (some v)) w' v') := by
  have keepN : ∀ (s : W), (∀ xs, s = .own xs → ∃ ys, w = .new ys) → ∀ w' v', NewOk C ds σ w' v' → Apart w w' v v' → NewOk C (ds.set i (some s)) (σ.set i (some v)) w' v' := by
    intro s hs w' v' nw ap xs a hw hv
    refine ⟨(nw xs a hw hv).1, fun j ys hj hsj => ?_⟩
    by_cases ji : j = i
    · subst ji
      by_cases hl : j < ds.length
      · rw [List.getElem?_set_self hl] at hj
        rw [List.getElem?_set_self (by rw [← e.len]; exact hl)] at hsj
        cases hj
        cases hsj
        obtain ⟨zs, hz⟩ := hs ys rfl
        exact ap zs xs hz hw hv.symm
      · rw [List.getElem?_eq_none (by simp; omega)] at hj; cases hj
    · rw [List.getElem?_set_ne (Ne.symm ji)] at hj hsj
      exact (nw xs a hw hv).2 j ys hj hsj
  cases o with
  | true =>
    obtain ⟨xs, rfl, q⟩ := q
    obtain ⟨a, vs, rfl, n1, hq, nf, oo, t⟩ := id r
    obtain ⟨h0, hn⟩ := n xs a rfl rfl
    exact ⟨R, .own xs, q, e.setO i hq nf oo t h0 hn, Mo.refl _ _ _, fun _ _ z _ _ => z, keepN _ fun _ _ => ⟨xs, rfl⟩⟩
  | false =>
    obtain ⟨d, hd, q⟩ := q
    cases w with
    | own xs => cases hd
    | fn _ => cases hd
    | d y =>
      cases hd
      exact ⟨R, .d _, q, e.set i r, Mo.refl _ _ _, fun _ _ z _ _ => z, keepN _ fun _ z => nomatch z⟩
    | new xs =>
      cases hd
      obtain ⟨a, vs, rfl, n1, hq, nf, oo, t⟩ := id r
      obtain ⟨h0, hn⟩ := n xs a rfl rfl
      have e' : Env C (R.frz a) ds σ H h := by
        refine ⟨e.ok.frz hq oo, e.ex.frz h0, e.len, fun j w hj => ?_, e.nnew, e.own, e.own0⟩
        obtain ⟨v2, s2, r2⟩ := e.slot j w hj
        refine ⟨v2, s2, ?_⟩
        cases w with
        | d y => exact relD_mo Mo.frz r2
        | new zs => exact absurd hj (e.nnew j zs)
        | fn _ => exact r2
        | own zs =>
          obtain ⟨b, ws, ev2, q2, nf2, o2, t2⟩ := r2
          refine ⟨b, ws, ev2, q2, fun z => ?_, o2, relDs_mo Mo.frz t2⟩
          rcases z with z | z
          · exact nf2 z
          · subst z; rw [ev2] at s2; exact hn j zs hj s2
      have rd : RelD C.K (R.frz a) H (.lst xs) (.ref a) := by
        unfold RelD
        exact ⟨a, vs, rfl, ⟨.inr rfl, hq⟩, relDs_mo Mo.frz t⟩
      refine ⟨R.frz a, .d (.lst xs), q, e'.set i rd, Mo.frz, fun w' v' z ap no => ?_, keepN _ fun _ z => nomatch z⟩
      cases w' with
      | d y => exact relD_mo Mo.frz z
      | new zs =>
        obtain ⟨b, ws, ev2, m1, q2, nf2, o2, t2⟩ := z
        refine ⟨b, ws, ev2, m1, q2, fun y => ?_, o2, relDs_mo Mo.frz t2⟩
        rcases y with y | y
        · exact nf2 y
        · subst y; exact ap xs zs rfl rfl ev2.symm
      | own zs => exact absurd rfl (no zs)
      | fn _ => exact z
theorem stW_own {o : Bool} {w : W} {k : W → Prop} (q : stW o w k) : ∀ zs, w ≠ .own zs := fun zs z => by
  subst z
  cases o with
  | true => obtain ⟨_, h, _⟩ := q; cases h
  | false => obtain ⟨_, h, _⟩ := q; cases h
def dPar2 (o1 : Bool) (i : Nat) (t1 : TDE) (o2 : Bool) (j : Nat) (t2 : TDE) : TDS := fun ds h P => t1 ds h (fun w1 h1 => t2 ds h1 (fun w2 h2 => stW o1 w1 fun s1 => stW o2 w2 fun s2 => P.nx ((ds.set i (some s1)).set j (some s2)) h2) (fun x h' => P.ex x ds h')) (fun x h' => P.ex x ds h')
def dPar3 (o1 : Bool) (i : Nat) (t1 : TDE) (o2 : Bool) (j : Nat) (t2 : TDE) (o3 : Bool) (l : Nat) (t3 : TDE) : TDS := fun ds h P => t1 ds h (fun w1 h1 => t2 ds h1 (fun w2 h2 => t3 ds h2 (fun w3 h3 => stW o1 w1 fun s1 => stW o2 w2 fun s2 => stW o3 w3 fun s3 =>
  P.nx (((ds.set i (some s1)).set j (some s2)).set l (some s3)) h3) (fun x h' => P.ex x ds h')) (fun x h' => P.ex x ds h')) (fun x h' => P.ex x ds h')
theorem apart_of {R R' : Rg} {H0 H1 H2 : Hp} {w w' : W} {v v' : V} (r : RelW C.K H0 R H1 w v) (r' : RelW C.K H1 R' H2 w' v') : Apart w w' v v' := fun xs xs' hw hw' hv => by
  subst hw hw' hv
  obtain ⟨a, vs, ea, _, q, _⟩ := r
  obtain ⟨a', vs', ea', n1, _⟩ := r'
  rw [ea] at ea'
  cases ea'
  rw [q] at n1
  cases n1
theorem ds_par2 {o1 o2 : Bool} {i j : Nat} {x y : Str} {a b : Expr} {t1 t2 : TDE} {px py pt pos : Pos} {kt k2 pt2} (hc : X.calm = true) (hN : X.N.Nodup) (hi : X.N[i]? = some x) (hj : X.N[j]? = some y) (hij : i ≠ j)
    (hx : X.env.scope.names.lookup x = some .local) (hy : X.env.scope.names.lookup y = some .local) (ha : PE X a (lift C Wx t1)) (hb : PE X b (lift C Wx t2)) (sa : noStar a = true) (sb : noStar b = true)
    (hw : swappedStores [.Tuple [.Name x px, .Name y py] kt pt] (.Tuple [a, b] k2 pt2) X.env = pure (some [x, y])) :
    PS X (.Assign [.Tuple [.Name x px, .Name y py] kt pt] (.Tuple [a, b] k2 pt2) pos) (liftS C Wx (dPar2 o1 i t1 o2 j t2)) :=
  (ps_par hc hN hi hj hij hx hy (pa_cons ha (pa_cons hb pa_nil (star_ok sb)) (star_ok sa)) hw).imD fun D σ H q => by
    obtain ⟨R, ds, h, P, e, p, k⟩ := q
    refine ⟨R, ds, h, _, _, e, p, fun R1 H1 h1 w1 v1 p1 x1 e1 r1 => ?_, k.exE e⟩
    refine ⟨R1, ds, h1, _, _, e1, p1, fun R2 H2 h2 w2 v2 p2 x2 e2 r2 => ?_, (k.later (x1.mo e.ok)).exE e1⟩
    have n1 := newOk_of e r1
    have r2' := relW_start x1.dom r2
    have n2 := newOk_of e1 r2
    have ap := apart_of r1 r2
    obtain ⟨R3, s1, p3, e3, m3, kr, kn⟩ := e2.put i (relW_ex e1.ok x2 r1) n1 p2
    obtain ⟨R4, s2, p4, e4, m4, _⟩ := e3.put j (kr _ _ r2' ap (stW_own p3)) (kn _ _ n2 ap) p3
    exact ⟨v1, v2, rfl, k.nx R4 _ _ H2 h2 e4 (((x1.trans x2).mo e.ok).trans (m3.trans m4)) p4⟩
theorem ds_par3 {o1 o2 o3 : Bool} {i j l : Nat} {x y z : Str} {a b c : Expr} {t1 t2 t3 : TDE} {px py pz pt pos : Pos} {kt k2 pt2} (hc : X.calm = true) (hN : X.N.Nodup) (hi : X.N[i]? = some x) (hj : X.N[j]? = some y) (hl : X.N[l]? = some z) (hij : i ≠ j) (hil : i ≠ l) (hjl : j ≠ l)
    (hx : X.env.scope.names.lookup x = some .local) (hy : X.env.scope.names.lookup y = some .local) (hz : X.env.scope.names.lookup z = some .local) (ha : PE X a (lift C Wx t1)) (hb : PE X b (lift C Wx t2)) (hcc : PE X c (lift C Wx t3)) (sa : noStar a = true) (sb : noStar b = true) (sc : noStar c = true)
    (hw : swappedStores [.Tuple [.Name x px, .Name y py, .Name z pz] kt pt] (.Tuple [a, b, c] k2 pt2) X.env = pure (some [x, y, z])) :
    PS X (.Assign [.Tuple [.Name x px, .Name y py, .Name z pz] kt pt] (.Tuple [a, b, c] k2 pt2) pos) (liftS C Wx (dPar3 o1 i t1 o2 j t2 o3 l t3)) :=
  (ps_par3 hc hN hi hj hl hij hil hjl hx hy hz (pa_cons ha (pa_cons hb (pa_cons hcc pa_nil (star_ok sc)) (star_ok sb)) (star_ok sa)) hw).imD fun D σ H q => by
    obtain ⟨R, ds, h, P, e, p, k⟩ := q
    refine ⟨R, ds, h, _, _, e, p, fun R1 H1 h1 w1 v1 p1 x1 e1 r1 => ?_, k.exE e⟩
    refine ⟨R1, ds, h1, _, _, e1, p1, fun R2 H2 h2 w2 v2 p2 x2 e2 r2 => ?_, (k.later (x1.mo e.ok)).exE e1⟩
    refine ⟨R2, ds, h2, _, _, e2, p2, fun R3 H3 h3 w3 v3 p3 x3 e3 r3 => ?_, (k.later ((x1.trans x2).mo e.ok)).exE e2⟩
    have x12 := x1.trans x2
    have r1' := relW_ex e1.ok (x2.trans x3) r1
    have r2' := relW_ex e2.ok x3 (relW_start x1.dom r2)
    have r3' := relW_start x12.dom r3
    have a12 := apart_of r1 r2
    have a13 := apart_of (relW_ex e1.ok x2 r1) r3
    have a23 := apart_of r2 r3
    obtain ⟨R4, s1, p4, e4, m4, kr4, kn4⟩ := e3.put i r1' (newOk_of e r1) p3
    obtain ⟨R5, s2, p5, e5, m5, kr5, kn5⟩ := e4.put j (kr4 _ _ r2' a12 (stW_own p4)) (kn4 _ _ (newOk_of e1 r2) a12) p4
    obtain ⟨R6, s3, p6, e6, m6, _⟩ := e5.put l (kr5 _ _ (kr4 _ _ r3' a13 (stW_own p5)) a23 (stW_own p5)) (kn5 _ _ (kn4 _ _ (newOk_of e2 r3) a13) a23) p5
    exact ⟨v1, v2, v3, rfl, k.nx R6 _ _ H3 h3 e6 (((x12.trans x3).mo e.ok).trans ((m4.trans m5).trans m6)) p6⟩
/-- x += e, of numbers and texts -/
def dAug (i : Nat) (t : TDE) : TDS := fun ds h P => ∃ d0, ds[i]? = some (some (.d d0)) ∧ t ds h (fun w h' => match d0, w with
  | .int a, .d (.int b) => P.nx (ds.set i (some (.d (.int (a + b))))) h'
  | .str a, .d (.str b) => a.length + b.length ≤ sizeLine ∧ P.nx (ds.set i (some (.d (.str (a ++ b))))) h'
  | _, _ => False) (fun x h' => P.ex x ds h')
theorem ip_addS : PIp X .Add (fun x y H Q => (∃ i j, x = .int i ∧ y = .int j ∧ Q (.int (i + j)) H) ∨ ∃ i j, x = .str i ∧ y = .str j ∧ i.length + j.length ≤ sizeLine ∧ Q (.str (i ++ j)) H) := by
  intro pins s σ H x y v u Q I r1 r2 h
  rcases h with h | h
  · exact ip_add pins s σ H x y v u Q I r1 r2 h
  · exact iop_add_str pins s σ H x y v u Q I r1 r2 h
theorem ds_aug {i : Nat} {x : Str} {e : Expr} {t : TDE} {pos pos' : Pos} (hN : X.N.Nodup) (hi : X.N[i]? = some x) (hx : L2.Loc X.env.scope x) (hf : X.fn x = true ∨ X.env.scope.names.lookup x = some .local) (he : PE X e (lift C Wx t)) :
    PS X (.AugAssign (.Name x pos') .Add e pos) (liftS C Wx (dAug i t)) := (ps_aug (i := i) hN hi hx he ip_addS hf).imD fun D σ H q => by
  obtain ⟨R, ds, h, P, e, ⟨d0, hd, p⟩, k⟩ := q
  obtain ⟨v, hv, r⟩ := e.slot i _ hd
  refine ⟨v, hv, R, ds, h, _, _, e, p, fun R1 H1 h1 w1 v1 p1 x1 e1 r1 => ?_, k.exE e⟩
  have r0 : RelD C.K R1 H1 d0 v := relD_ex e.ok x1 r
  split at p1
  · cases r_int r0
    cases rw_int r1
    exact .inl ⟨_, _, rfl, rfl, k.nx R1 _ _ H1 h1 (e1.set i m_int) (x1.mo e.ok) p1⟩
  · cases r_str r0
    cases rw_str r1
    exact .inr ⟨_, _, rfl, rfl, p1.1, k.nx R1 _ _ H1 h1 (e1.set i m_str) (x1.mo e.ok) p1.2⟩
  · exact p1.elim
end
end DL
set_option maxHeartbeats 8000000
namespace DL
open PySem PySem.Spec PyProof.Rows L2
/-- the state without an exception, where a name went -/
theorem inv_gone {X : Cx} {pins : List (Addr × Obj)} {σ : Sl} {H : Hp} {s : Shared} {G : Heap} {m : Str → Option Value} {v : Option Value} {i : Nat} {n : Str} {tk : Nat} (I : Inv X pins σ H s) (hN : X.N.Nodup) (hi : X.N[i]? = some n) (hm : s.heap.Ns X.env.locals m)
    (hn' : G.Ns X.env.locals (fun x => if x = n then v else m x)) (hs : Heap.SameBut X.env.locals s.heap G) : Inv X pins (σ.set i none) H { s with heap := G, toks := tk } := by
  obtain ⟨m2, hn, hlk⟩ := id I.loc
  obtain ⟨oL, es1, ep1, hoL, hdL, hr1⟩ := id hn
  have neL : ∀ b o, X.s_0.heap.get? b = some o → b ≠ X.env.locals := fun b o e => Nat.ne_of_lt (Nat.lt_of_lt_of_le (Heap.lt_size e) I.ok.above)
  have em : ∀ y, m y = m2 y := fun y => by
    obtain ⟨o1, e1, p1, a1, a2, a3⟩ := hm
    rw [hoL] at a1
    cases a1
    rw [hdL] at a2
    cases a2
    exact (a3.2 y).symm.trans (hr1.2 y)
  refine ⟨I.ok, I.os, I.bare, ⟨fun b o e n hb hx => ?_, fun b o e n hb hx => ?_, I.base.free, fun b o e hx => ?_, I.base.tups, I.base.frzs, I.base.tbls⟩, ⟨_, hn', fun j y v' e1 e2 e3 => ?_⟩, fun y c e => ?_, I.free, I.freeC, fun p hp => ?_, fun b ob e => ?_, by simpa using I.len⟩
  · exact (hs.2 b (neL b o e)).trans (I.base.keep b o e n hb hx)
  · obtain ⟨sl, e1⟩ := I.base.slot b o e n hb hx
    exact ⟨sl, (hs.2 b (neL b o e)).trans e1⟩
  · obtain ⟨o', e1⟩ := I.base.there b o e hx
    exact ⟨o', (hs.2 b (neL b o e)).trans e1⟩
  · by_cases hj : j = i
    · subst hj
      by_cases hlt : j < σ.length
      · rw [List.getElem?_set_self hlt] at e2; cases e2
      · rw [List.getElem?_eq_none (by simpa using hlt)] at e2; cases e2
    · rw [List.getElem?_set_ne (Ne.symm hj)] at e2
      obtain ⟨u', r', q⟩ := hlk j y v' e1 e2 e3
      refine ⟨u', r', ?_⟩
      rcases q with ⟨k, e⟩ | ⟨k, c, e, z⟩
      · have ny : y ≠ n := fun e => hj (nodup_ix hN e1 (e ▸ hi))
        exact .inl ⟨k, (if_neg ny).trans ((em y).trans e)⟩
      · exact .inr ⟨k, c, e, z.sameBut hs (I.cne y c e)⟩
  · obtain ⟨w', z⟩ := I.cell y c e
    exact ⟨w', z.sameBut hs (I.cne y c e)⟩
  · obtain ⟨e, n, ne, nf, d⟩ := I.pin p hp
    exact ⟨(hs.2 p.1 ne).trans e, n, ne, nf, d⟩
  · refine (I.hok b ob e).stay (fun c w' hc q => (hs.2 c ?_).trans q) (fun _ q => q) fun _ _ q => q
    intro z
    subst z
    rcases hc with hc | hc
    · rw [← hc, I.free] at e; cases e
    · rw [I.free] at hc; cases hc
/-- an exception comes out of a suite whose clause has a name: the name goes, it flies on -/
theorem hot_tail {X : Cx} {pins : List (Addr × Obj)} {σ : Sl} {H : Hp} {sI s' : Shared} {B : Heap} {a : Addr} {Z : Obj → Prop} {A' : Around} {E E₂ E₃ : Value → Shared → Prop} {i : Nat} {n : Str} {pos : Pos} (hs : X.stack = X.env :: X.outer) (hf : X.env.frame = some X.env.locals) (hA : A'.frames = some (X.env :: X.outer))
    (hN : X.N.Nodup) (hi : X.N[i]? = some n) (hln : X.env.kindOf n = some .local) (hZ : PXN.Steady1 Z) (I : Inv X pins σ H sI) (nb : ∀ b o, sI.heap.get? b = some o → b ∉ frs X.stack → B.get? b = some o) (up : sI.heap.UpToSlots s'.heap) (sky : Sky B (X.env :: X.outer) a Z X.env.locals s'.heap) (os : s'.os = sI.os) (ag : AllBare s'.gens)
    (fin : ∀ sJ s2, Inv X pins (σ.set i none) H sJ → (∀ b o, sJ.heap.get? b = some o → b ∉ frs X.stack → B.get? b = some o) → sJ.heap.UpToSlots s2.heap → HandSPX.HeldZ B (X.env :: X.outer) a Z X.env.locals s2.heap → s2.os = sJ.os → AllBare s2.gens → E (.ref a) s2) :
    wpAny (model X.prog X.w) A' (noteFrame (.ref a) X.env) (fun _ s3 => wpAny (model X.prog X.w) A' (do bindName X.env n .none; unbindBehindTheSuite X.env n pos)
      (fun _ s4 => wpAny (model X.prog X.w) A' (passOn "try.except-as" (.ref a) X.env : Sem Flow) (fun _ _ => False) (notedBy (model X.prog X.w) A' X.env fun x s' => cameBackBy (model X.prog X.w) X.A X.env E x s') s4) E₂ s3) E₃ s' := by
  have step : ∀ h1, HandSPX.HeldZ B (X.env :: X.outer) a Z X.env.locals h1 → s'.heap.UpToSlots h1 → wpAny (model X.prog X.w) A' (do bindName X.env n .none; unbindBehindTheSuite X.env n pos)
      (fun _ s4 => wpAny (model X.prog X.w) A' (passOn "try.except-as" (.ref a) X.env : Sem Flow) (fun _ _ => False) (notedBy (model X.prog X.w) A' X.env fun x s' => cameBackBy (model X.prog X.w) X.A X.env E x s') s4) E₂ { s' with heap := h1 } := by
    intro h1 hh up1
    obtain ⟨m, hn, hlk⟩ := id I.loc
    have hn1 : h1.Ns X.env.locals m := (up.trans up1).ns hn
    have hcls : (X.env.scope.kind == .class || (X.env.scope.kind == .module && X.env.locals != X.env.globals)) = false := by rw [I.ok.kind]; rfl
    obtain ⟨b1, b0, f1, t1⟩ := hh
    have hbL : B.get? X.env.locals = none := by
      obtain ⟨_, ⟨L', _, hf', hb', _⟩, _⟩ := f1
      rw [hf] at hf'
      rw [Option.some.inj hf']
      exact hb'
    refine wpAny_nameGoes_keeps hln hn1 hcls fun h2 v hn2 hs2 => ?_
    have b2 : B.StaysIn h2 := fun b o hb => (hs2.2 b fun q => by rw [q, hbL] at hb; cases hb).trans (b1 b o hb)
    have f2 : h2.FunFrames B (X.env :: X.outer) := Heap.FunFrames.sameBut hs2 hn2 f1
    obtain ⟨o1, es1, ep1, ho1, hd1', _⟩ := id hn1
    have nfL : ∀ b o vs, h1.get? b = some o → o.data = .fields vs → b ≠ X.env.locals := fun b o vs e d q => by
      rw [q, ho1] at e
      cases e
      rw [hd1'] at d
      cases d
    have t2 : HandSPX.TracedZ h2 B a Z (rawInt X.env.locals) := by
      obtain ⟨oe, vs, T, oT, ts, he, hz, hd, h1', hnT, hTe, hT, hdT, h3⟩ := t1
      exact ⟨oe, vs, T, oT, ts, (hs2.2 a (nfL _ _ _ he hd)).trans he, hz, hd, h1', hnT, hTe, (hs2.2 T (nfL _ _ _ hT hdT)).trans hT, hdT, h3⟩
    obtain ⟨o2, es2, ep2, ho2, hd2, hr2⟩ := id hn2
    obtain ⟨oL, es, ep, hoL, hdL, _⟩ := id hn
    have gL : (sI.heap.update X.env.locals (fun _ => o2)).get? X.env.locals = some o2 := Heap.get?_update_self (fun _ => o2) hoL (Obj.isFreed_of_dict hd2)
    have gO : ∀ b, b ≠ X.env.locals → (sI.heap.update X.env.locals (fun _ => o2)).get? b = sI.heap.get? b := fun b hb => Heap.get?_update_other _ _ (Ne.symm hb)
    have sb : Heap.SameBut X.env.locals sI.heap (sI.heap.update X.env.locals (fun _ => o2)) := Heap.SameBut.update _ _ _
    have J : Inv X pins (σ.set i none) H { sI with heap := sI.heap.update X.env.locals (fun _ => o2), toks := sI.toks } := inv_gone I hN hi hn ⟨o2, es2, ep2, gL, hd2, hr2⟩ sb
    have hh2 : HandSPX.HeldZ B (X.env :: X.outer) a Z X.env.locals h2 := ⟨b2, b0, f2, t2⟩
    have upG : (sI.heap.update X.env.locals (fun _ => o2)).UpToSlots h2 := fun b o e hnf => by
      by_cases hb : b = X.env.locals
      · subst hb
        rw [gL] at e
        cases e
        exact ⟨o2.slots, ho2⟩
      · rw [gO b hb] at e
        obtain ⟨sl, q⟩ := (up.trans up1) b o e hnf
        exact ⟨sl, (hs2.2 b hb).trans q⟩
    obtain ⟨oe, vs, T, oT, ts, he, hz, hd, h1', hnT, hTe, hT, hdT, h3⟩ := id t2
    have cont : ∀ h3, HandSPX.HeldZ B (X.env :: X.outer) a Z X.env.locals h3 → h2.UpToSlots h3 → wpAny (model X.prog X.w) A' (throw (.ref a) : Sem Flow) (fun _ _ => False) (notedBy (model X.prog X.w) A' X.env fun x s' => cameBackBy (model X.prog X.w) X.A X.env E x s') { s' with heap := h3, toks := s'.toks + 1 } := fun h3 hh3 up3 => by
      refine wpAny_throw ?_
      show wpAny (model X.prog X.w) A' (noteFrame (.ref a) X.env) _ _ _
      refine HandSPX.againZ hf hh3.2.2.2 ?_
      obtain ⟨oe', vs', T', oT', ts', he', hz', hd', h1'', r'⟩ := id hh3.2.2.2
      show wpAny (model X.prog X.w) X.A (do
        if (← field (.ref a) 1) == .none then unsupported "frame.own-activation:exception-without-traceback"
        setFlight (.ref a) X.env.frame) _ _ _
      refine wpAny_bind (wpAny_field he' hd' h1'' ?_)
      rw [if_neg (show ¬ ((Value.ref T' == Value.none) = true) from by simp)]
      rw [hf]
      have out : wpAny (model X.prog X.w) X.A (setFlight (.ref a) (some X.env.locals)) (fun _ s'' => E (.ref a) s'') E { s' with heap := h3, toks := s'.toks + 1 } :=
        HandSPX.setFlight_onZ hh3 fun h4 hh4 up4 => by
          refine fin { sI with heap := sI.heap.update X.env.locals (fun _ => o2), toks := sI.toks } _ J (fun b o e hb => ?_) ((upG.trans up3).trans up4) hh4 os ag
          have hbn : b ≠ X.env.locals := fun z => hb (List.mem_filterMap.mpr ⟨X.env, by rw [hs]; exact List.mem_cons_self, by rw [hf, z]⟩)
          exact nb b o ((gO b hbn).symm.trans e) hb
      first
        | exact out
        | exact wpAny_pure (wpAny_bind out)
        | exact wpAny_bind (wpAny_pure out)
        | exact wpAny_bind out
    unfold PySem.passOn
    refine wpAny_bind (wpAny_field he hd h1' ?_)
    rw [if_neg (show ¬ ((Value.ref T == Value.none) = true) from by simp)]
    rw [hf]
    have go : wpAny (model X.prog X.w) A' (setFlight (.ref a) (some X.env.locals)) (fun _ s4 => wpAny (model X.prog X.w) A' (throw (.ref a) : Sem Flow) (fun _ _ => False) (notedBy (model X.prog X.w) A' X.env fun x s' => cameBackBy (model X.prog X.w) X.A X.env E x s') s4) (notedBy (model X.prog X.w) A' X.env fun x s' => cameBackBy (model X.prog X.w) X.A X.env E x s') { s' with heap := h2, toks := s'.toks + 1 } :=
      HandSPX.setFlight_onZ hh2 fun h3 hh3 up3 => cont h3 hh3 up3
    first
      | exact wpAny_bind (wpAny_pure (wpAny_bind go))
      | exact wpAny_bind go
  rcases sky with ⟨hB, hn, hl, oe, vs, he, hz, hd, h1⟩ | fl | hh
  · exact PXN.look_newZ hZ hA hl hf he hB hn hd h1 hz step
  · exact PXN.looks_onZ hZ hA hf fl step
  · exact HandSPX.againZ hf hh.2.2.2 (step s'.heap hh (Heap.UpToSlots.refl _))
/-- a clause: with a name, without one, or with a name and a suite that raises -/
inductive Hx where
  | nm (c : Value) (i : Nat) (ts : Addr → Value → Option Addr → TS)
  | no (c : Value) (ts : Addr → Value → Option Addr → TS)
  | hot (c : Value) (i : Nat) (ts : Addr → Value → Option Addr → WX → TS)
def wHot (K : Fg) (c : Value) (i : Nat) (ts : Addr → Value → Option Addr → WX → TS) (Wn Wout : WX) (D : Ends) : WX := fun cls d σ H =>
  ∃ b, PySem.W.exmOne K cls c = some b ∧ (b = true → cold K cls = true ∧ ∀ a, H a = none → ts a cls d (fun c' d' σ' H' => cold K c' = false ∧ Wn c' d' (σ'.set i none) H') { nx := fun σ' H' => D.nx (σ'.set i none) H', rt := D.rt, bk := fun σ' H' => D.bk (σ'.set i none) H', ct := fun σ' H' => D.ct (σ'.set i none) H' } (σ.set i (some (.ref a))) H) ∧
    (b = false → Wout cls d σ H)
def wHx (K : Fg) (Wout : WX) (Dn : Ends) : List Hx → WX
  | [] => Wout
  | .nm c i ts :: r => wAs K c i ts (wHx K Wout Dn r) Dn
  | .no c ts :: r => wOnly K c ts (wHx K Wout Dn r) Dn
  | .hot c i ts :: r => wHot K c i ts Wout (wHx K Wout Dn r) Dn
inductive HxOk (X : Cx) : List ExceptHandler → List Hx → Prop
  | nil : HxOk X [] []
  | nm {x n : Str} {np pos' : Pos} {b₀ : Stmt} {suite : List Stmt} {c : Value} {i : Nat} {ts : Addr → Value → Option Addr → TS} {hs : List ExceptHandler} {l : List Hx} (hi : X.N[i]? = some n) (hln : X.env.kindOf n = some .local) (hc : Names X x c)
      (hsu : ∀ (a : Addr) (oe : Obj) (cls : Value) (d : Option Addr) (pn : List (Addr × Obj)), Zc cls d oe → (∃ vs, oe.data = .fields vs) → PSs (X.suite a ((a, oe) :: pn)) (b₀ :: suite) (ts a cls d)) (r : HxOk X hs l) :
      HxOk X (.ExceptHandler (some (.Name x np)) (some n) (b₀ :: suite) pos' :: hs) (.nm c i ts :: l)
  | no {x : Str} {np pos' : Pos} {b₀ : Stmt} {suite : List Stmt} {c : Value} {ts : Addr → Value → Option Addr → TS} {hs : List ExceptHandler} {l : List Hx} (hc : Names X x c)
      (hsu : ∀ (a : Addr) (oe : Obj) (cls : Value) (d : Option Addr) (pn : List (Addr × Obj)), Zc cls d oe → (∃ vs, oe.data = .fields vs) → PSs (X.suite a ((a, oe) :: pn)) (b₀ :: suite) (ts a cls d)) (r : HxOk X hs l) :
      HxOk X (.ExceptHandler (some (.Name x np)) none (b₀ :: suite) pos' :: hs) (.no c ts :: l)
  | hot {x n : Str} {np pos' : Pos} {b₀ : Stmt} {suite : List Stmt} {c : Value} {i : Nat} {ts : Addr → Value → Option Addr → WX → TS} {hs : List ExceptHandler} {l : List Hx} (hi : X.N[i]? = some n) (hln : X.env.kindOf n = some .local) (hc : Names X x c)
      (hsu : ∀ (a : Addr) (oe : Obj) (cls : Value) (d : Option Addr) (pn : List (Addr × Obj)) (E0 : Value → Shared → Prop) (W : WX), L2N.Zn cls d oe → (∃ vs, oe.data = .fields vs) → L2.Takes ((X.suite a ((a, oe) :: pn)).wish E0) W → L2H.HotC ((X.suite a ((a, oe) :: pn)).wish E0) →
        PSs ((X.suite a ((a, oe) :: pn)).wish E0) (b₀ :: suite) (ts a cls d W)) (r : HxOk X hs l) :
      HxOk X (.ExceptHandler (some (.Name x np)) (some n) (b₀ :: suite) pos' :: hs) (.hot c i ts :: l)
theorem wpAny_E {M : Model} {A : Around} {α : Type} {c : Sem α} {Q : α → Shared → Prop} {E : Value → Shared → Prop} {s : Shared} (h : ∀ E0, E0 = E → wpAny M A c Q E0 s) : wpAny M A c Q E s := h E rfl
/-- an exception meets the clauses -/
theorem catch_go {X : Cx} {pins : List (Addr × Obj)} {σ : Sl} {H : Hp} {sI s' : Shared} {B : Heap} {a : Addr} {cls : Value} {d : Option Addr} {Z : Obj → Prop} {Wout : WX} {Dn : Ends} (ok : X.Ok) (hs : X.stack = X.env :: X.outer) (hf : X.env.frame = some X.env.locals) (hN : X.N.Nodup) (tk : Takes X Wout) (hZ : PXN.Steady1 Z)
    (hzc : ∀ o, Z o → Zc cls d o) (hzn : cold X.K cls = true → ∀ o, Z o → L2N.Zn cls d o)
    (J : Inv X pins σ H sI) (nb : ∀ b o, sI.heap.get? b = some o → b ∉ frs X.stack → B.get? b = some o) (up : sI.heap.UpToSlots s'.heap) (sky : Sky B X.stack a Z X.env.locals s'.heap) (na : H a = none) (os : s'.os = sI.os) (ag : AllBare s'.gens) {hds : List ExceptHandler} {l : List Hx} (hx : HxOk X hds l) (want : wHx X.K Wout Dn l cls d σ H) :
    wpAny (model X.prog X.w) X.A (noteFrame (.ref a) X.env) (fun _ s₂ => wpAny (model X.prog X.w) X.A (setFlight (.ref a) none) (fun _ s₃ =>
      wpAny (model X.prog X.w) X.A (handleBy (.ref a) X.env hds) (SP X pins Dn) X.xe s₃) X.xe s₂) X.xe s' := by
  have frm : X.A.frames = some (X.env :: X.outer) := by rw [ok.frames, hs]
  rw [hs] at sky
  refine L2N.Sky.land hZ frm hf sky fun g3 fl3 up3 => ?_
  have J3 : Inv X pins σ H { s' with heap := g3 } := J.landed nb fl3.1 (up.trans up3) os ag
  obtain ⟨oe3, vs3, e31, e32, e33⟩ := fl3.there
  have nst : a ∉ frs (X.env :: X.outer) := fun hm => by
    obtain ⟨_, o, o1, o2⟩ := fl3.2.2.1.mem hm
    rw [e31] at o1; cases o1
    exact o2 _ e33
  have nl : a ≠ X.env.locals := fun y => nst (List.mem_filterMap.mpr ⟨X.env, List.mem_cons_self, by rw [hf, y]⟩)
  have nf : a ∉ X.fs := fun hm => by
    obtain ⟨en, m1, m2⟩ := List.mem_filterMap.mp hm
    exact nst (List.mem_filterMap.mpr ⟨en, List.mem_cons_of_mem _ m1, m2⟩)
  have S3 := J3.suite e31 e33 na nl nf
  have lk : PySem.W.Looks (model X.prog X.w) g3 (typeOf (.ref a)) cls := fun A Q E s k q => wpAny_typeOf_ref (k _ _ e31) (by rw [(hzc _ e32).1]; exact q)
  have name : ∀ {x : Str} {np : Pos} {c : Value} {Q E : Value → Shared → Prop}, Names X x c → Q c { s' with heap := g3 } → wpAny (model X.prog X.w) (X.A.mark (some (.ref a))) (eval (.Name x np) X.env) Q E { s' with heap := g3 } := fun {x np c Q E} hc z => by
    obtain ⟨c1, c2, c3 | ⟨c3, c4, c5⟩⟩ := hc
    · exact ld_glob (X := X.suite a ((a, oe3) :: (X.pn ++ pins))) S3 c1 c3 z c2
    · exact ld_blt (X := X.suite a ((a, oe3) :: (X.pn ++ pins))) S3 c1 c3 c4 z c5 c2
  have pass : Wout cls d σ H → ∀ s4 : Shared, g3.UpToSlots s4.heap → HandSPX.HeldZ B (X.env :: X.outer) a Z X.env.locals s4.heap → s4.os = s'.os → s4.gens = s'.gens → X.xe (.ref a) s4 := fun w s4 up4 m4 o4 g4 => by
    have ag4 : AllBare s4.gens := by rw [g4]; exact ag
    refine tk _ _ ?_
    cases hC : cold X.K cls with
    | false =>
      refine .inl ⟨a, B, sI, pins, σ, H, cls, d, rfl, J, nb, (up.trans up3).trans up4, .inr (.inr ?_), na, o4.trans os, ag4, hC, w⟩
      rw [hs]
      exact ⟨m4.1, m4.2.1, m4.2.2.1, L2H.tracedZ_imp hzc m4.2.2.2⟩
    | true =>
      refine .inr ⟨a, B, sI, pins, σ, H, cls, d, rfl, J, nb, (up.trans up3).trans up4, .inr (.inr ?_), na, o4.trans os, ag4, hC, w⟩
      rw [hs]
      exact ⟨m4.1, m4.2.1, m4.2.2.1, L2H.tracedZ_imp (hzn hC) m4.2.2.2⟩
  induction hx with
  | nil =>
    refine wpAny_handleBy_nil ?_
    obtain ⟨k1, k2, k3, oe, vs, Tb, oT, ts', g1, gz, gd, gf, gr⟩ := id fl3
    unfold PySem.passOn
    refine wpAny_bind (wpAny_field g1 gd gf ?_)
    rw [if_neg (show ¬ ((Value.ref Tb == Value.none) = true) by simp)]
    have out : wpAny (model X.prog X.w) X.A (setFlight (.ref a) X.env.frame) (fun _ t4 => wpAny (model X.prog X.w) X.A (throw (.ref a) : Sem Flow) (SP X pins Dn) X.xe t4) X.xe { s' with heap := g3 } := by
      rw [hf]
      exact HandSPX.setFlight_upZ fl3 fun g4 m4 up4 => wpAny_throw (pass want _ up4 m4 rfl rfl)
    first
      | exact wpAny_bind (wpAny_pure (wpAny_bind out))
      | exact wpAny_bind out
  | @nm x n np pos' b₀ suite c i ts hl l hi hln hc hsu r ih =>
    obtain ⟨b, hb1, yes, no⟩ := want
    refine wpAny_handleBy_cons (codeAny_handlers_test ?_) (by intro z; cases z)
    have lm := PySem.W.exm_one (M := model X.prog X.w) J3.kIn lk hb1
    refine name hc (lm.here ?_)
    cases b with
    | false => exact ih (no rfl)
    | true =>
      refine codeAny_handlers_suite_as (HandSPX.lands_againZ fl3 fun g4 fl4 up4 => ?_)
      have J4 : Inv X pins σ H { s' with heap := g4 } := J.landed nb fl4.1 ((up.trans up3).trans up4) os ag
      obtain ⟨oe4, vs4, e41, e42, e43⟩ := fl4.there
      refine store_ok (X := X.suite a ((a, oe4) :: (X.pn ++ pins))) (v := .ref a) (J4.suite e41 e43 na nl nf) hN hi (.inl hln) rfl (fun t5 S5 => ?_) (.inr hln)
      refine wpAny_mono ((hsu a oe4 cls d (X.pn ++ pins) (hzc _ e42) ⟨_, e43⟩).run [] t5 _ H _ S5 (yes rfl a na)) (fun fl t6 z => ?_) (fun _ _ z => False.elim z)
      have bye : ∀ {ρ6 : L2.St} {G6 : Hp} {Q : Shared → Prop}, Inv (X.suite a ((a, oe4) :: (X.pn ++ pins))) [] ρ6 G6 t6 → (∀ t7, Inv X pins (ρ6.set i none) G6 t7 → Q t7) →
          wpAny (model X.prog X.w) X.A (do bindName X.env n .none; unbindBehindTheSuite X.env n pos') (fun _ t7 => Q t7) X.xe t6 := fun {ρ6 G6 Q} S6 zq => gone_ok (S6.unsuite ok) hN hi hln zq
      cases fl with
      | ret u => obtain ⟨v6, ρ6, G6, S6, r6, q6⟩ := z; exact bye S6 fun t7 J7 => ⟨_, _, _, J7, r6, q6⟩
      | next => obtain ⟨ρ6, G6, S6, q6⟩ := z; exact bye S6 fun t7 J7 => ⟨_, _, J7, q6⟩
      | brk => obtain ⟨ρ6, G6, S6, q6⟩ := z; exact bye S6 fun t7 J7 => ⟨_, _, J7, q6⟩
      | cont => obtain ⟨ρ6, G6, S6, q6⟩ := z; exact bye S6 fun t7 J7 => ⟨_, _, J7, q6⟩
  | @no x np pos' b₀ suite c ts hl l hc hsu r ih =>
    obtain ⟨b, hb1, yes, no⟩ := want
    refine wpAny_handleBy_cons (codeAny_handlers_test ?_) (by intro z; cases z)
    have lm := PySem.W.exm_one (M := model X.prog X.w) J3.kIn lk hb1
    refine name hc (lm.here ?_)
    cases b with
    | false => exact ih (no rfl)
    | true =>
      refine codeAny_handlers_suite (HandSPX.lands_againZ fl3 fun g4 fl4 up4 => ?_)
      have J4 : Inv X pins σ H { s' with heap := g4 } := J.landed nb fl4.1 ((up.trans up3).trans up4) os ag
      obtain ⟨oe4, vs4, e41, e42, e43⟩ := fl4.there
      refine wpAny_mono ((hsu a oe4 cls d (X.pn ++ pins) (hzc _ e42) ⟨_, e43⟩).run [] _ _ H _ (J4.suite e41 e43 na nl nf) (yes rfl a na)) (fun fl t6 z => ?_) (fun _ _ z => False.elim z)
      cases fl with
      | ret u => obtain ⟨v6, ρ6, G6, S6, r6, q6⟩ := z; exact ⟨_, _, _, S6.unsuite ok, r6, q6⟩
      | next => obtain ⟨ρ6, G6, S6, q6⟩ := z; exact ⟨_, _, S6.unsuite ok, q6⟩
      | brk => obtain ⟨ρ6, G6, S6, q6⟩ := z; exact ⟨_, _, S6.unsuite ok, q6⟩
      | cont => obtain ⟨ρ6, G6, S6, q6⟩ := z; exact ⟨_, _, S6.unsuite ok, q6⟩
  | @hot x n np pos' b₀ suite c i ts hl l hi hln hc hsu r ih =>
    obtain ⟨b, hb1, yes, no⟩ := want
    refine wpAny_handleBy_cons (codeAny_handlers_test ?_) (by intro z; cases z)
    have lm := PySem.W.exm_one (M := model X.prog X.w) J3.kIn lk hb1
    refine name hc (lm.here ?_)
    cases b with
    | false => exact ih (no rfl)
    | true =>
      obtain ⟨hC, yes⟩ := yes rfl
      refine codeAny_handlers_suite_as (HandSPX.lands_againZ fl3 fun g4 fl4 up4 => ?_)
      have J4 : Inv X pins σ H { s' with heap := g4 } := J.landed nb fl4.1 ((up.trans up3).trans up4) os ag
      obtain ⟨oe4, vs4, e41, e42, e43⟩ := fl4.there
      have z4 := hzn hC _ e42
      refine store_ok (X := X.suite a ((a, oe4) :: (X.pn ++ pins))) (v := .ref a) (J4.suite e41 e43 na nl nf) hN hi (.inl hln) rfl (fun t5 S5 => ?_) (.inr hln)
      refine wpAny_E fun E0 hE => ?_
      have tkS : L2.Takes ((X.suite a ((a, oe4) :: (X.pn ++ pins))).wish E0) (fun c' d' σ' H' => cold X.K c' = false ∧ Wout c' d' (σ'.set i none) H') := fun u2 s2 x2 => by
        obtain ⟨a2, B2, sI2, pn2, σ2, H2, cls2, d2, e2, I2, nb2, up2, sky2, na2, os2, ag2, hC2, w2⟩ := x2
        subst e2
        show E0 _ _
        rw [hE]
        have I2' : Inv X pins σ2 H2 sI2 := (show Inv (X.suite a ((a, oe4) :: (X.pn ++ pins))) pn2 σ2 H2 sI2 from I2.unwish).unsuite ok
        have sky2' : Sky B2 (X.env :: X.outer) a2 (Zc cls2 d2) X.env.locals s2.heap := by rw [← hs]; exact sky2
        refine hot_tail hs hf frm hN hi hln (fun o v z => ⟨PXN.steady_cls o v z.1, PXN.steady_dict o v z.2⟩) I2' nb2 up2 sky2' os2 ag2 fun sJ s3 JJ nb3 up3' held3 os3 ag3 => ?_
        refine tk _ _ (.inl ⟨a2, B2, sJ, pins, _, H2, cls2, d2, rfl, JJ, nb3, up3', .inr (.inr ?_), na2, os3, ag3, hC2, w2⟩)
        rw [hs]
        exact held3
      have hotC : L2H.HotC ((X.suite a ((a, oe4) :: (X.pn ++ pins))).wish E0) := ⟨(a, oe4), ⟨rfl, vs4, e43, z4.2.2 vs4 e43⟩, List.mem_cons_self⟩
      refine wpAny_mono ((hsu a oe4 cls d (X.pn ++ pins) E0 _ z4 ⟨_, e43⟩ tkS hotC).run [] t5 _ H _ (S5.wish E0) (yes a na)) (fun fl t6 z => ?_) (fun _ _ z => z)
      have bye : ∀ {ρ6 : L2.St} {G6 : Hp} {Q : Shared → Prop}, Inv ((X.suite a ((a, oe4) :: (X.pn ++ pins))).wish E0) [] ρ6 G6 t6 → (∀ t7, Inv X pins (ρ6.set i none) G6 t7 → Q t7) →
          wpAny (model X.prog X.w) X.A (do bindName X.env n .none; unbindBehindTheSuite X.env n pos') (fun _ t7 => Q t7) X.xe t6 := fun {ρ6 G6 Q} S6 zq => gone_ok ((show Inv (X.suite a ((a, oe4) :: (X.pn ++ pins))) [] ρ6 G6 t6 from S6.unwish).unsuite ok) hN hi hln zq
      cases fl with
      | ret u => obtain ⟨v6, ρ6, G6, S6, r6, q6⟩ := z; exact bye S6 fun t7 J7 => ⟨_, _, _, J7, r6, q6⟩
      | next => obtain ⟨ρ6, G6, S6, q6⟩ := z; exact bye S6 fun t7 J7 => ⟨_, _, J7, q6⟩
      | brk => obtain ⟨ρ6, G6, S6, q6⟩ := z; exact bye S6 fun t7 J7 => ⟨_, _, J7, q6⟩
      | cont => obtain ⟨ρ6, G6, S6, q6⟩ := z; exact bye S6 fun t7 J7 => ⟨_, _, J7, q6⟩
section
variable {X : Cx} {body : List Stmt} {pos : Pos} {tb : WX → TS} {Wout : WX}
theorem ps_try_hx {h₀ : ExceptHandler} {hds : List ExceptHandler} {l : List Hx} (hs : X.stack = X.env :: X.outer) (hf : X.env.frame = some X.env.locals) (hN : X.N.Nodup) (tk : Takes X Wout) (hh : HxOk X (h₀ :: hds) l)
    (hb : ∀ (W : WX) (pn : List (Addr × Obj)) (xe : Value → Shared → Prop), Takes (X.tr pn xe) W → PassesOwn (model X.prog X.w) X.A X.env xe → PSs (X.tr pn xe) body (tb W)) :
    PS X (.Try body (h₀ :: hds) [] [] pos) (fun Dn σ H => tb (wHx X.K Wout Dn l) Dn σ H) := by
  refine ⟨fun pins s σ H Dn I q => wpAny_Try_except ?_⟩
  have ok := I.ok
  refine wpAny_mono ((hb (wHx X.K Wout Dn l) (X.pn ++ pins) (fun er t1 => wpAny (model X.prog X.w) X.A (noteFrame er X.env) (fun _ t2 => wpAny (model X.prog X.w) X.A (setFlight er none) (fun _ t3 =>
    wpAny (model X.prog X.w) X.A (handleBy er X.env (h₀ :: hds)) (SP X pins Dn) X.xe t3) X.xe t2) X.xe t1) (fun u t xx => ?_) PassesOwn.looking).run [] s σ H Dn (I.toTry _) q) (fun fl t z => ?_) (fun _ _ z => z)
  · rcases xx with xx | xx
    · obtain ⟨a, B, sI, pins', ρ, G, cls, dd, rfl, J0, nb, up, sky, na, os, ag, hC, want⟩ := xx
      exact catch_go ok hs hf hN tk (fun o v z => ⟨PXN.steady_cls o v z.1, PXN.steady_dict o v z.2⟩) (fun _ z => z) (fun z => by
        have hC' : cold X.K cls = false := hC
        rw [hC'] at z
        cases z) (J0.ofTry ok) nb up sky na os ag hh want
    · obtain ⟨a, B, sI, pins', ρ, G, cls, dd, rfl, J0, nb, up, sky, na, os, ag, hC, want⟩ := xx
      exact catch_go ok hs hf hN tk L2N.Zn.steady (fun _ z => z.zc) (fun _ _ z => z) (J0.ofTry ok) nb up sky na os ag hh want
  · cases fl with
    | ret u => obtain ⟨v, ρ, G, J, r, z⟩ := z; exact ⟨v, ρ, G, J.ofTry ok, r, z⟩
    | next => obtain ⟨ρ, G, J, z⟩ := z; exact wpAny_execs_nil ⟨ρ, G, J.ofTry ok, z⟩
    | brk => obtain ⟨ρ, G, J, z⟩ := z; exact ⟨ρ, G, J.ofTry ok, z⟩
    | cont => obtain ⟨ρ, G, J, z⟩ := z; exact ⟨ρ, G, J.ofTry ok, z⟩
end
end DL
set_option maxHeartbeats 8000000
namespace DL
open PySem PySem.Spec PyProof.Rows L2
/-- the exceptions of the module: how many classes, their fields' names, which is under which -/
structure Xm where
  n : Nat
  names : List Str
  flds : Nat → List Str
  sub : Nat → Nat → Bool
  rs : Nat → Bool
/-- what isinstance asks of an exception's class, beyond XfC -/
def excB (K : Fg) (D : Addr) : Bool := decide (PySem.W.findIn K (.ref D) "__class__" = some (some (.builtin "object.__class__"))) && (decide (PySem.W.specialIn K (.builtin "object.__class__") "__get__" = some (some (.builtin "getset_descriptor.__get__"))) && (decide (PySem.W.takesIn K (.builtin "object.__class__") = some true) && decide (PySem.W.mroIn K D (.type "object") = some true)))
theorem excB_ok {K : Fg} {D : Addr} (f : XfC K D) (h : excB K D = true) : ExcC K D := by
  obtain ⟨h1, h⟩ := Bool.and_eq_true_iff.mp h
  obtain ⟨h2, h⟩ := Bool.and_eq_true_iff.mp h
  obtain ⟨h3, h4⟩ := Bool.and_eq_true_iff.mp h
  exact ⟨f.ga, f.gg, f.exC, f.hdC, of_decide_eq_true h1, of_decide_eq_true h2, of_decide_eq_true h3, of_decide_eq_true h4⟩
structure XmOk (M : Xm) (K : Fg) (Cl : Cm) : Prop where
  xf : ∀ c, c < M.n → XfC K (Cl c)
  no : ∀ c c' f, c < M.n → c' < M.n → f ∈ M.flds c' → PySem.W.findIn K (.ref (Cl c)) f = some none
  sb : ∀ c c', c < M.n → c' < M.n → PySem.W.exmOne K (.ref (Cl c)) (.ref (Cl c')) = some (M.sub c c')
  inj : ∀ c c', c < M.n → c' < M.n → Cl c = Cl c' → c = c'
  cold : ∀ c, c < M.n → DL.cold K (.ref (Cl c)) = !hotN.contains (M.names.getD c "")
  isx : ∀ c, c < M.n → ExcC K (Cl c)
/-- classes that are raised in except suites -/
def Xm.hot (M : Xm) (c : Nat) : Bool := hotN.contains (M.names.getD c "")
/-- the reading of C(e, ..): a new dict with the fields -/
def tMkX (C : Addr) (fs : List Str) (ta : TA) : Sl → Hp → XK → Prop := fun σ H Q => ta σ H fun vs H1 => vs.length = fs.length ∧ ∀ d, H1 d = none → Q (.ref C) (some d) (upd H1 d (.xd (fs.zip vs).reverse))
/-- C(e, ..) makes such an exception -/
def MkX (X : Cx) (x : Str) (C : Addr) (fs : List Str) : Prop := ∀ (e : Expr) (es : List Expr) (ta : TA) (p pos : Pos), PA X (e :: es) ta → starEach (e :: es) X.env = (false, eval e X.env) :: starEach es X.env → (backTo pos (starEach es X.env)).any (·.1) = false →
  PMk X (.Call (.Name x p) (e :: es) [] pos) (tMkX C fs ta)
section
variable {X : Cx} {C : Cn} {Wx : WX}
theorem relF_append {K : Fg} {R : Rg} {H : Hp} : ∀ {a b : List (Str × D)} {va vb : List (Str × V)}, RelF K R H a va → RelF K R H b vb → RelF K R H (a ++ b) (va ++ vb)
  | [], b, va, vb, r, s => by cases (show va = [] from r); exact s
  | (x, d) :: a, b, va, vb, r, s => by
    obtain ⟨v, q, rfl, r1, r2⟩ := r
    exact ⟨v, q ++ vb, rfl, r1, relF_append r2 s⟩
theorem relF_zip {K : Fg} {R : Rg} {H : Hp} : ∀ {fs : List Str} {xs : List D} {vs : List V}, RelDs K R H xs vs → RelF K R H (fs.zip xs).reverse (fs.zip vs).reverse
  | [], xs, vs, r => by simp; rfl
  | f :: fs, [], vs, r => by cases r_nil r; simp; rfl
  | f :: fs, x :: xs, vs, r => by
    obtain ⟨v, q, rfl, r1, r2⟩ := r_cons r
    rw [List.zip_cons_cons, List.zip_cons_cons, List.reverse_cons, List.reverse_cons]
    exact relF_append (relF_zip r2) ⟨v, [], rfl, r1, rfl⟩
theorem relF_look {K : Fg} {R : Rg} {H : Hp} {f : Str} {d : D} : ∀ {a : List (Str × D)} {va : List (Str × V)}, RelF K R H a va → a.lookup f = some d → ∃ v, va.lookup f = some v ∧ RelD K R H d v
  | [], va, r, e => by cases e
  | (x, d') :: a, va, r, e => by
    obtain ⟨v, q, rfl, r1, r2⟩ := r
    rw [List.lookup_cons] at e ⊢
    cases hx : (f == x) with
    | true => rw [hx] at e; cases e; exact ⟨v, rfl, r1⟩
    | false => rw [hx] at e; exact relF_look r2 e
def dRaise (c : Nat) (fs : List Str) (t : TDA) : TDS := fun ds h P => t ds h (fun xs h1 => xs.length = fs.length ∧ P.ex ⟨c, (fs.zip xs).reverse⟩ ds h1) (fun x h' => P.ex x ds h')
theorem ds_raise {x : Str} {c : Nat} {fs : List Str} {e : Expr} {es : List Expr} {t : TDA} {p cp pos : Pos} (hc : X.calm = true) (tk : Takes X Wx) (mk : MkX X x (C.Cl c) fs) (ha : PA X (e :: es) (liftA C Wx t))
    (hs : starEach (e :: es) X.env = (false, eval e X.env) :: starEach es X.env) (hp : (backTo cp (starEach es X.env)).any (·.1) = false) : PS X (.Raise (some (.Call (.Name x p) (e :: es) [] cp)) none pos) (liftS C Wx (dRaise c fs t)) :=
  (ps_raiseC (.ref (C.Cl c)) hc tk (mk e es _ p cp ha hs hp)).imD fun D σ H q => by
    obtain ⟨R, ds, h, P, e, p, k⟩ := q
    refine ⟨R, ds, h, _, _, e, p, fun R1 H1 h1 xs vs ⟨hl, p1⟩ x1 e1 r1 => ⟨by rw [← relDs_len r1]; exact hl, fun d nd => ?_⟩, k.exE e⟩
    refine ⟨rfl, ?_⟩
    refine k.ex R1 ds σ _ h1 _ _ _ (e1.fresh nd) ((x1.trans (Ex.fresh nd)).mo e.ok) ⟨rfl, d, _, rfl, upd_same, ?_⟩ p1
    exact relF_ex e1.ok (Ex.fresh nd) (relF_zip r1)
/-- what a suite's tuple is made of -/
inductive XI where
  | s (x : Str) | f (x : Str)
def XI.val (fs : List (Str × D)) : XI → Option D
  | .s x => some (.str x)
  | .f x => fs.lookup x
def xvals (fs : List (Str × D)) : List XI → Option (List D)
  | [] => some []
  | i :: r => match i.val fs, xvals fs r with
    | some d, some ds => some (d :: ds)
    | _, _ => none
/-- the text's items, n the exception's name -/
def XI.chk (n : Str) (fl : List Str) : XI → Expr → Bool
  | .s x, .Constant (.str y) _ _ => decide (x = y)
  | .f x, .Attribute (.Name m _) y _ => decide (m = n) && decide (x = y) && decide (x ∈ fl)
  | _, _ => false
def xchk (n : Str) (fl : List Str) : List XI → List Expr → Bool
  | [], [] => true
  | i :: r, e :: es => i.chk n fl e && xchk n fl r es
  | _, _ => false
def tIt (a : Addr) (cls : Value) (d : Option Addr) (A : Addr) (i : Nat) : XI → TE
  | .s x => tC (.str x)
  | .f x => tXf a cls d A x (tVar i)
def tIts (a : Addr) (cls : Value) (d : Option Addr) (A : Addr) (i : Nat) : List XI → TA
  | [] => tNil
  | x :: r => tCons (tIt a cls d A i x) (tIts a cls d A i r)
theorem pa_its {a A : Addr} {oe : Obj} {cls : Value} {d : Option Addr} {pn : List (Addr × Obj)} {i : Nat} {n : Str} {fl : List Str} (T : XfC X.K A) (hno : ∀ f ∈ fl, PySem.W.findIn X.K (.ref A) f = some none) (hz : Zc cls d oe) (hf : ∃ vs, oe.data = .fields vs)
    (hN : X.N[i]? = some n) (hv : Vis X.env.scope n) (hd : (n == ("__debug__" : Str)) = false) (hcd : (n == ("__classdict__" : Str)) = false) : ∀ (l : List XI) (es : List Expr), xchk n fl l es = true → PA (X.suite a ((a, oe) :: pn)) es (tIts a cls d A i l)
  | [], [], h => pa_nil
  | [], _ :: _, h => by cases h
  | _ :: _, [], h => by cases h
  | x :: r, e :: es, h => by
    obtain ⟨h1, h2⟩ := ba2 (show (x.chk n fl e && xchk n fl r es) = true from h)
    have ih := pa_its (a := a) (pn := pn) T hno hz hf hN hv hd hcd r es h2
    cases x with
    | s x =>
      cases e <;> first | (simp [XI.chk] at h1; done) | skip
      rename_i c j p
      cases c <;> first | (simp [XI.chk] at h1; done) | skip
      cases of_decide_eq_true (show decide (x = _) = true from h1)
      exact pa_cons pe_str ih (by rfl)
    | f x =>
      cases e <;> first | (simp [XI.chk] at h1; done) | skip
      rename_i o y p
      cases o <;> first | (simp [XI.chk] at h1; done) | skip
      rename_i m p2
      obtain ⟨h1, h5⟩ := ba2 (show (decide (m = n) && decide (x = y) && decide (x ∈ fl)) = true from h1)
      obtain ⟨h3, h4⟩ := ba2 h1
      cases of_decide_eq_true h3
      cases of_decide_eq_true h4
      have pv' : PE (X.suite a ((a, oe) :: pn)) (.Name _ p2) (tVar i) := pe_var hN hv hd hcd
      exact pa_cons (pe_xf T (hno x (of_decide_eq_true h5)) hz hf pv') ih (by rfl)
/-- what comes of the items -/
theorem its_go {a A dd : Addr} {cls : Value} {i : Nat} {σ : Sl} {H : Hp} {R : Rg} {fs : List (Str × D)} {ks : List (Str × V)} (hc : cls = .ref A) (hd : H dd = some (.xd ks)) (r : RelF C.K R H fs ks) (hs : σ[i]? = some (some (.ref a))) :
    ∀ (l : List XI) (xs : List D) (Q : List V → Hp → Prop), xvals fs l = some xs → (∀ vs, RelDs C.K R H xs vs → Q vs H) → tIts a cls (some dd) A i l σ H Q
  | [], xs, Q, e, k => by cases e; exact k [] m_nil
  | x :: l, xs, Q, e, k => by
    unfold xvals at e
    split at e
    · rename_i d ds e1 e2
      cases e
      cases x with
      | s x => cases e1; exact its_go hc hd r hs l ds _ e2 fun vs rv => k _ (m_cons m_str rv)
      | f x =>
        obtain ⟨v, hv, rv⟩ := relF_look r e1
        exact ⟨.ref a, hs, rfl, hc, dd, ks, v, rfl, hd, hv, its_go hc hd r hs l ds _ e2 fun vs rs => k _ (m_cons rv rs)⟩
    · cases e
/-- a suite: return the tuple, or keep it in a slot -/
inductive Sk where
  | ret | set (j : Nat)
def Sk.go (k : Sk) (i : Nat) (xs : List D) (ds : DSt) (h : Hs) (P : DEnds) : Prop := match k with
  | .ret => P.rt (.tup xs) h
  | .set j => P.nx (((ds.set i none).set j (some (.d (.tup xs)))).set i none) h
theorem Env.drop {R : Rg} {ds : DSt} {σ : Sl} {H : Hp} {h : Hs} (e : Env C R ds σ H h) (i : Nat) (v : Option V) : Env C R (ds.set i none) (σ.set i v) H h := by
  have hs : ∀ (j : Nat) w, (ds.set i none)[j]? = some (some w) → j ≠ i ∧ ds[j]? = some (some w) := fun j w q => by
    by_cases hj : j = i
    · subst hj
      by_cases hl : j < ds.length
      · rw [List.getElem?_set_self hl] at q; cases q
      · rw [List.getElem?_eq_none (by simp; omega)] at q; cases q
    · rw [List.getElem?_set_ne (Ne.symm hj)] at q; exact ⟨hj, q⟩
  refine ⟨e.ok, e.ex, by simp [e.len], fun j w q => ?_, fun j xs q => e.nnew j xs (hs j _ q).2, fun j k xs ys a q1 s1 q2 s2 => ?_, fun j xs a q s => ?_⟩
  · obtain ⟨hj, q⟩ := hs j w q
    rw [List.getElem?_set_ne (Ne.symm hj)]; exact e.slot j w q
  · obtain ⟨hj, q1⟩ := hs j _ q1
    obtain ⟨hk, q2⟩ := hs k _ q2
    rw [List.getElem?_set_ne (Ne.symm hj)] at s1
    rw [List.getElem?_set_ne (Ne.symm hk)] at s2
    exact e.own j k xs ys a q1 s1 q2 s2
  · obtain ⟨hj, q⟩ := hs j _ q
    rw [List.getElem?_set_ne (Ne.symm hj)] at s
    exact e.own0 j xs a q s
/-- the suite's statement -/
def Sk.stmt (N : List Str) (sc : Scope) : Sk → Stmt → Option (List Expr)
  | .ret, .Return (some (.Tuple es _ _)) _ => some es
  | .set j, .Assign [.Name y _] (.Tuple es _ _) _ => if decide (N[j]? = some y) && lcB sc y then some es else none
  | _, _ => none
def adr : Value → Addr
  | .ref A => A
  | _ => 0
def skT (i : Nat) (kd : Sk) (t : TE) : TS := match kd with
  | .ret => tRet t
  | .set j => tAsg t (gName j)
open Classical in
def tSk (n : Nat) (Cl : Cm) (i : Nat) (kd : Sk) (l : List XI) (a : Addr) (cls : Value) (d : Option Addr) : TS :=
  if (∃ c', c' < n ∧ cls = .ref (Cl c')) then skT i kd (tTup (tIts a cls d (adr cls) i l)) else tNever
end
end DL
set_option maxHeartbeats 8000000
namespace DL
open PySem PySem.Spec PyProof.Rows L2
section
variable {X : Cx} {C : Cn} {Wx : WX} {M : Xm}
theorem sk_suite {c i : Nat} {kd : Sk} {l : List XI} {n : Str} {st : Stmt} {es : List Expr} (mo : XmOk M C.K C.Cl) (hK : C.K = X.K) (hN : X.N.Nodup) (hi : X.N[i]? = some n) (hln : X.env.kindOf n = some .local) (hd : (n == ("__debug__" : Str)) = false) (hcd : (n == ("__classdict__" : Str)) = false) (hcn : c < M.n)
    (hst : kd.stmt X.N X.env.scope st = some es) (hck : xchk n (M.flds c) l es = true) (a : Addr) (oe : Obj) (cls : Value) (d : Option Addr) (pn : List (Addr × Obj)) (hz : Zc cls d oe) (hfl : ∃ vs, oe.data = .fields vs) : PSs (X.suite a ((a, oe) :: pn)) [st] (tSk M.n C.Cl i kd l a cls d) := by
  by_cases hc : ∃ c', c' < M.n ∧ cls = .ref (C.Cl c')
  · rw [show tSk M.n C.Cl i kd l a cls d = skT i kd (tTup (tIts a cls d (adr cls) i l)) from if_pos hc]
    obtain ⟨c', hc', rfl⟩ := hc
    have T := hK ▸ mo.xf c' hc'
    have pa := pa_its (X := X) (a := a) (oe := oe) (cls := .ref (C.Cl c')) (d := d) (pn := pn) (i := i) T (fun f hff => hK ▸ mo.no c' c f hc' hcn hff) hz hfl hi (.inl hln) hd hcd l es hck
    cases kd with
    | ret =>
      cases st <;> first | (simp [Sk.stmt] at hst; done) | skip
      rename_i o p
      rcases o with _ | e <;> first | (simp [Sk.stmt] at hst; done) | skip
      cases e <;> first | (simp [Sk.stmt] at hst; done) | skip
      simp only [Sk.stmt, Option.some.injEq] at hst
      subst hst
      exact pss_one (ps_ret (pe_tup pa))
    | set j =>
      cases st <;> first | (simp [Sk.stmt] at hst; done) | skip
      rename_i tgs v p
      rcases tgs with _ | ⟨t, _ | ⟨t2, tgs⟩⟩ <;> first | (simp [Sk.stmt] at hst; done) | skip
      cases t <;> first | (simp [Sk.stmt] at hst; done) | skip
      cases v <;> first | (simp [Sk.stmt] at hst; done) | skip
      simp only [Sk.stmt] at hst
      split at hst
      · rename_i hh
        obtain ⟨h1, h2⟩ := ba2 hh
        cases hst
        exact pss_one (ps_set (i := j) hN (of_decide_eq_true h1) (.inl (lcB_ok h2)) (pe_tup pa) (by rfl) (.inr (lcB_ok h2)))
      · cases hst
  · rw [show tSk M.n C.Cl i kd l a cls d = tNever from if_neg hc]
    exact pss_never
/-- one clause: its class, its name's slot, what its suite does with which items -/
abbrev Hd1 := Nat × Nat × Sk × List XI
def hdD (M : Xm) (P : DEnds) (x : Xn) (ds : DSt) (h : Hs) : List Hd1 → Prop
  | [] => P.ex x ds h
  | (c, i, k, l) :: r => i < ds.length ∧ if M.sub x.c c = true then l.length ≤ 1000 ∧ ∃ xs, xvals x.fs l = some xs ∧ k.go i xs ds h P else hdD M P x ds h r
def dTryM (M : Xm) (hl : List Hd1) (tb : TDS) : TDS := fun ds h P => tb ds h { P with ex := fun x ds' h' => x.c < M.n ∧ hdD M P x ds' h' hl }
def hxOf (M : Xm) (Cl : Cm) (y : Hd1) : Hx := .nm (.ref (Cl y.1)) y.2.1 (tSk M.n Cl y.2.1 y.2.2.1 y.2.2.2)
theorem xvals_len {fs : List (Str × D)} : ∀ {l : List XI} {xs : List D}, xvals fs l = some xs → xs.length = l.length
  | [], xs, z => by cases z; rfl
  | y :: l, xs, z => by
    unfold xvals at z
    split at z
    · rename_i e1 e2; cases z; simp [xvals_len e2]
    · cases z
theorem hd_wish {R0 R : Rg} {H0 H : Hp} {P : DEnds} {Dn : Ends} {ds : DSt} {σ : Sl} {h : Hs} {x : Xn} {cls : Value} {dd : Option Addr} (mo : XmOk M C.K C.Cl) (hK : C.K = X.K) (k : EndsOk C Wx R0 H0 P Dn) (e : Env C R ds σ H h) (m : Mo C.K R0 H0 R H) (r : RelX C R H x cls dd) (hx : x.c < M.n) :
    ∀ (hl : List Hd1), (∀ y ∈ hl, y.1 < M.n) → hdD M P x ds h hl → wHx X.K Wx Dn (hl.map (hxOf M C.Cl)) cls dd σ H
  | [], _, p => k.ex R ds σ H h x cls dd e m r p
  | (c, i, kd, l) :: hl, hc, p => by
    have hcn : c < M.n := hc (c, i, kd, l) (by simp)
    have ih := hd_wish mo hK k e m r hx hl (fun y hy => hc y (List.mem_cons_of_mem _ hy))
    unfold hdD at p
    obtain ⟨hi', p⟩ := p
    obtain ⟨rfl, b, ks, rfl, hb', rf⟩ := r
    refine ⟨M.sub x.c c, hK ▸ mo.sb x.c c hx hcn, fun hsb a na => ?_, fun hsb => ?_⟩
    · rw [hsb, if_pos rfl] at p
      obtain ⟨ll, xs, hxs, p⟩ := p
      show tSk M.n C.Cl i kd l a (.ref (C.Cl x.c)) (some b) _ _ _
      rw [show tSk M.n C.Cl i kd l a (.ref (C.Cl x.c)) (some b) = skT i kd (tTup (tIts a (.ref (C.Cl x.c)) (some b) (adr (.ref (C.Cl x.c))) i l)) from if_pos ⟨x.c, hx, rfl⟩]
      have hil : i < σ.length := by rw [← e.len]; exact hi'
      have hsi : (σ.set i (some (.ref a)))[i]? = some (some (.ref a)) := List.getElem?_set_self hil
      have fin : ∀ (Q : VK), (∀ vs pp, H pp = none → RelDs C.K R H xs vs → Q (.ref pp) (upd H pp (.tup vs))) → tTup (tIts a (.ref (C.Cl x.c)) (some b) (C.Cl x.c) i l) (σ.set i (some (.ref a))) H Q := fun Q kk =>
        its_go rfl hb' rf hsi l xs _ hxs fun vs rv => ⟨by rw [← relDs_len rv, xvals_len hxs]; exact Nat.le_trans ll (by decide), fun pp np => kk vs pp np rv⟩
      cases kd with
      | ret => exact fin _ fun vs pp np rv => k.rt R _ h _ _ (e.ok.fresh np) (e.ex.trans (Ex.fresh np)) (m_tup upd_same (relDs_ex e.ok (Ex.fresh np) rv)) p
      | set j =>
        unfold skT
        refine fin _ fun vs pp np rv => ?_
        have e2 := ((e.fresh (o := .tup vs) np).drop i (some (.ref a))).set j (m_tup upd_same (relDs_ex e.ok (Ex.fresh np) rv))
        exact k.nx R _ _ _ h (e2.drop i none) (m.trans ((Ex.fresh np).mo e.ok)) p
    · rw [hsb, if_neg Bool.false_ne_true] at p
      exact ih p
theorem ds_tryM {y0 : Hd1} {hl : List Hd1} {h₀ : ExceptHandler} {hds : List ExceptHandler} {tb : TDS} {body : List Stmt} {pos : Pos} (mo : XmOk M C.K C.Cl) (hK : C.K = X.K) (hs : X.stack = X.env :: X.outer) (hf : X.env.frame = some X.env.locals) (hN : X.N.Nodup) (tk : Takes X Wx)
    (hh : HxOk X (h₀ :: hds) ((y0 :: hl).map (hxOf M C.Cl))) (hc : ∀ y ∈ y0 :: hl, y.1 < M.n) (hb : ∀ (W : WX) (pn : List (Addr × Obj)) (xe : Value → Shared → Prop), Takes (X.tr pn xe) W → PassesOwn (model X.prog X.w) X.A X.env xe → PSs (X.tr pn xe) body (liftS C W tb)) :
    PS X (.Try body (h₀ :: hds) [] [] pos) (liftS C Wx (dTryM M (y0 :: hl) tb)) :=
  (ps_try_hx (tb := fun W => liftS C W tb) hs hf hN tk hh hb).imD fun Dn σ H q => by
    obtain ⟨R, ds, h, P, e, p, k⟩ := q
    exact ⟨R, ds, h, _, e, p, ⟨k.nx, k.bk, k.ct, k.rt, fun R' ds' σ' H' h' x cls dd e' m r p' => hd_wish mo hK k e' m r p'.1 (y0 :: hl) hc p'.2⟩⟩
end
end DL
set_option maxHeartbeats 8000000
namespace DL
open PySem PySem.Spec PySem.W PySem.Calls PyProof.Rows L2
/-- the text of such an __init__ -/
def argB : List Str → List Expr → Bool
  | [], [] => true
  | p :: ps, .Name q _ :: es => decide (p = q) && argB ps es
  | _, _ => false
def stoB (sl : Str) : List (Str × Str) → List Stmt → Bool
  | [], [] => true
  | (f, p) :: r, .Assign [.Attribute (.Name s _) g _] (.Name q _) _ :: ss => decide (s = sl) && decide (f = g) && decide (p = q) && stoB sl r ss
  | _, _ => false
def iniB (sl : Str) (ps fs : List Str) : List Stmt → Bool
  | .Expr (.Call (.Attribute (.Call (.Name s _) [] [] _) i ap) args [] cp) _ :: ss => decide (s = "super") && decide (i = "__init__") && (ap.endLine == cp.line) && decide (args.length < 29) && argB ps args && stoB sl (fs.zip ps) ss
  | _ => false
structure XiC (prog : Program) (K : Fg) (mg : Str → Option Value) (C fI : Addr) (fs : List Str) : Prop where
  T : OexC K C
  iC : findIn K (.ref C) "__init__" = some (some (.ref fI))
  tI : typeIn K (.ref fI) = some (.type "function")
  fn : ∃ (name qual : Str) (params : Arguments) (body : List Stmt) (scope : Scope) (dV kV doc pm ct oc : Value) (an od : Option Addr) (osl : Array (Option Value)) (cda cc : Addr) (sl : Str) (ps : List Str) (ar : Arg),
    K.lookup fI = some ⟨oc, od, .func (ksFn name qual params body scope dV kV doc pm an (.ref cda) ct cc), osl⟩ ∧ codeIn K (.ref cda) qual = true ∧
    (∃ ccl cdd vs ccs file tf, K.lookup cda = some ⟨ccl, cdd, .fields vs, ccs⟩ ∧ vs[2]? = some (.str file tf) ∧ ((prog.main.file : Str) == file) = true) ∧
    (∃ cl cld csl, K.lookup cc = some ⟨cl, cld, .cell (some (.ref C)), csl⟩) ∧
    (params.posonlyargs ++ params.args).head? = some ar ∧ ar.arg = sl ∧ ps.length = fs.length ∧ ps ≠ [] ∧ fs.Nodup ∧
    (∀ us : List Value, us.length = ps.length + 1 → bindArgs (ksFn name qual params body scope dV kV doc pm an (.ref cda) ct cc) ⟨us, []⟩ = pure ((sl :: ps).zip us)) ∧
    iniB sl ps fs body = true ∧ (sl :: ps).Nodup ∧ (∀ x ∈ sl :: ps, scope.names.lookup x = some .local) ∧ (∀ x ∈ sl :: ps, okN x = true) ∧ (∀ x ∈ scope.names, x.2 ≠ .cell) ∧ scope.isCoroutine = false ∧ scope.isGenerator = false ∧ scope.kind = .function ∧
    scope.names.lookup ("super" : Str) = some .globalImplicit ∧ scope.names.lookup ("__class__" : Str) = some .free
  sup : mg "super" = none
  top : (prog.main.scope.names.lookup ("super" : Str)).isSome = false
  opq : nsIn K cStatics "thirdparty.any" = some none
  alg : ks_superIn K C C "__init__" = some (some (.builtin "ValueError.__init__"))
  sub : subIn K (.ref C) (.type "ValueError") = some true
  fld : ∀ f ∈ fs, findIn K (.ref C) f = some none
theorem stoB_inv {sl f p : Str} {r : List (Str × Str)} {st : Stmt} {ss : List Stmt} (h : stoB sl ((f, p) :: r) (st :: ss) = true) : ∃ a b c z, st = .Assign [.Attribute (.Name sl a) f b] (.Name p c) z ∧ stoB sl r ss = true := by
  cases st <;> first | (simp [stoB] at h; done) | skip
  rename_i tgs v z
  rcases tgs with _ | ⟨t, _ | ⟨t2, tgs⟩⟩ <;> first | (simp [stoB] at h; done) | skip
  cases t <;> first | (simp [stoB] at h; done) | skip
  rename_i o y b
  cases o <;> first | (simp [stoB] at h; done) | skip
  cases v <;> first | (simp [stoB] at h; done) | skip
  simp only [stoB, Bool.and_eq_true, decide_eq_true_eq] at h
  obtain ⟨⟨⟨rfl, rfl⟩, rfl⟩, hb⟩ := h
  exact ⟨_, _, _, _, rfl, hb⟩
section
variable {prog : Program} {w : World} {A : Around} {E : Value → Shared → Prop} {K : Fg} {g : Array GenState} {d : Drawn} {os : OsState}
theorem boot_super : bootBuiltins "super" = some (.type "super") := by kernel_rfl
/-- a parameter is read -/
theorem rd {M : Model} {env : PySem.Env} {h : Heap} {t : Nat} {m : Str → Option Value} {x : Str} {pos : Pos} {v : Value} {Q : Value → Shared → Prop} (hk : env.scope.kind = .function) (hl : env.kindOf x = some .local) (hn : h.Ns env.locals m) (hv : m x = some v) (hx : okN x = true) (q : Q v ⟨h, g, d, t, os⟩) :
    wpAny M A (eval (.Name x pos) env) Q E ⟨h, g, d, t, os⟩ := wpAny_Name (wpAny_loadName_local hk hl hn hv q) (okN_ok hx).1
theorem args_go {M : Model} {env : PySem.Env} {h : Heap} {t : Nat} {m : Str → Option Value} {cp : Pos} (hk : env.scope.kind = .function) (hn : h.Ns env.locals m) : ∀ (ps : List Str) (us : List Value) (es : List Expr) (Q : List Value → Shared → Prop), argB ps es = true → us.length = ps.length →
    (∀ (i : Nat) (x : Str) (u : Value), ps[i]? = some x → us[i]? = some u → m x = some u ∧ env.kindOf x = some .local ∧ okN x = true) → Q us ⟨h, g, d, t, os⟩ → wpAny M A (spliced (backTo cp (starEach es env))) Q E ⟨h, g, d, t, os⟩
  | [], us, [], Q, _, hl, _, q => by
    cases us with
    | nil => exact spliced_nil q
    | cons _ _ => simp at hl
  | [], _, _ :: _, _, hb, _, _, _ => by simp [argB] at hb
  | p :: ps, us, [], _, hb, _, _, _ => by simp [argB] at hb
  | p :: ps, us, e :: es, Q, hb, hl, hv, q => by
    cases e <;> first | (simp [argB] at hb; done) | skip
    rename_i x px
    obtain ⟨h1, h2⟩ := ba2 (show (decide (p = x) && argB ps es) = true from hb)
    cases of_decide_eq_true h1
    cases us with
    | nil => simp at hl
    | cons u us =>
      show wpAny M A (spliced ((false, eval (.Name _ px) env) :: backTo cp (starEach es env))) Q E _
      obtain ⟨a, b, c⟩ := hv 0 _ u rfl rfl
      exact spliced_cons (rd hk b hn a c (args_go hk hn ps us es (fun vs s => Q (u :: vs) s) h2 (by simpa using hl) (fun i y v hy hu => hv (i + 1) y v (by simpa using hy) (by simpa using hu)) q))
/-- further fields -/
theorem sto_old {env : PySem.Env} {C e dx L : Addr} {sl : Str} {m : Str → Option Value} (T : OexC K C) (hk : env.scope.kind = .function) (hL : env.locals = L) (hsl : m sl = some (.ref e)) (hks : env.kindOf sl = some .local) (hos : okN sl = true) :
    ∀ (r : List (Str × Str)) (us : List Value) (ss : List Stmt) (h : Heap) (t : Nat) (t1 : Addr) (nl : List Str) (m0 : Str → Option Value) (Q : Flow → Shared → Prop), stoB sl r ss = true → us.length = r.length → K.In h → h.Ns L m → L ≠ dx → K.lookup dx = none →
    h.get? e = some { cls := .ref C, dict := some dx, data := .fields #[.ref t1, .none, .none, .none, .bool false, .none] } → h.Ns1 dx m0 → Within m0 nl → nl.length + r.length ≤ 1000 → e ≠ dx →
    (∀ (i : Nat) (p : Str × Str) (u : Value), r[i]? = some p → us[i]? = some u → m p.2 = some u ∧ env.kindOf p.2 = some .local ∧ okN p.2 = true ∧ findIn K (.ref C) p.1 = some none) →
    (∀ h' t', (∀ b o, b ≠ dx → h.get? b = some o → h'.get? b = some o) → h'.Ns1 dx (fun y => match ((r.map (·.1)).zip us).reverse.lookup y with | some v => some v | none => m0 y) → Q .next ⟨h', g, d, t', os⟩) →
    wpAny (model prog w) A (execs ss env) Q E ⟨h, g, d, t, os⟩
  | [], us, [], h, t, t1, nl, m0, Q, _, hl, _, _, _, _, _, hn, _, _, _, _, q => wpAny_execs_nil (q h t (fun _ _ _ z => z) (by
      cases us with
      | nil => exact hn
      | cons _ _ => simp at hl))
  | [], _, _ :: _, _, _, _, _, _, _, hb, _, _, _, _, _, _, _, _, _, _, _, _ => by simp [stoB] at hb
  | (f, p) :: r, us, [], _, _, _, _, _, _, hb, _, _, _, _, _, _, _, _, _, _, _, _ => by simp [stoB] at hb
  | (f, p) :: r, us, st :: ss, h, t, t1, nl, m0, Q, hb, hl, kin, hns, hLd, hKd, he, hn, hw, hz, hed, hv, q => by
    cases us with
    | nil => simp at hl
    | cons u us =>
    obtain ⟨_, _, _, _, rfl, hb2⟩ := stoB_inv hb
    obtain ⟨a1, a2, a3, a4⟩ := hv 0 _ u rfl rfl
    obtain ⟨nm, qn, N, bs, bm, sn, sub, ab, col, dd, k0, k1, k2, k3, k5, hC, hbm⟩ := T.cls
    have hcl : clsIn K C = some { name := nm, bases := bs, mro := .ref C :: bm, ns := N, qualname := qn, hasDict := true, slotNames := sn, subclasses := sub, abstract := ab, collection := col, hasDel := false } := by unfold clsIn; rw [hC] <;> rfl
    obtain ⟨oD, _, _, hoD, _, _⟩ := hn.count hw
    subst hL
    refine wpAny_execs_cons (plainObj_wpAny_Assign_Attribute (rd hk a2 hns a1 a3 (rd hk hks hns hsl hos ?_)))
    refine set_plain kin (ox := { cls := .ref C, dict := some dx, data := .fields #[.ref t1, .none, .none, .none, .bool false, .none] }) (od := some oD) ⟨he, rfl, rfl, hoD⟩ T.sa ?_
    refine PySem.OEX.osa_old kin he hn hw (by simp at hz; omega) hcl (show PySem.HandSPX.refsVE (.ref C :: bm) = true from hbm) rfl a4 (fun h' tk' k hn' => ?_)
    refine sto_old T hk rfl hsl hks hos r us ss h' tk' t1 (f :: nl) _ Q hb2 (by simpa using hl) (fun b o z => k b o (fun y => by rw [y, hKd] at z; cases z) (kin b o z)) ?_ hLd hKd (k e _ hed he) hn' (Within.cons f u hw) (by simp at hz ⊢; omega) hed (fun i y v hy hu => hv (i + 1) y v (by simpa using hy) (by simpa using hu)) fun h2 t2 k2 n2 => ?_
    · obtain ⟨o, es, ep, ho, hr⟩ := hns
      exact ⟨o, es, ep, k _ _ hLd ho, hr⟩
    · refine q h2 t2 (fun b o hb z => k2 b o hb (k b o hb z)) ?_
      have : (fun y => match ((((f, p) :: r).map (·.1)).zip (u :: us)).reverse.lookup y with | some v => some v | none => m0 y) = (fun y => match ((r.map (·.1)).zip us).reverse.lookup y with | some v => some v | none => if y = f then some u else m0 y) := by
        funext y
        rw [List.map_cons, List.zip_cons_cons, List.reverse_cons, List.lookup_append]
        cases ((r.map (·.1)).zip us).reverse.lookup y with
        | some v => rfl
        | none =>
          by_cases hy : y = f
          · subst hy; simp [List.lookup]
          · have e : (y == f) = false := by simpa using hy
            simp [List.lookup, e, hy]
      rw [this]
      exact n2
theorem argB_plain {env : PySem.Env} {cp : Pos} : ∀ {ps : List Str} {es : List Expr}, argB ps es = true → (backTo cp (starEach es env)).all (fun x => !x.1) = true
  | [], [], _ => rfl
  | [], _ :: _, h => by simp [argB] at h
  | p :: ps, [], h => by simp [argB] at h
  | p :: ps, e :: es, h => by
    cases e <;> first | (simp [argB] at h; done) | skip
    rename_i x px
    obtain ⟨_, h2⟩ := ba2 (show (decide (p = x) && argB ps es) = true from h)
    show ((!false) && (backTo cp (starEach es env)).all (fun x => !x.1)) = true
    rw [argB_plain h2]; rfl
theorem eval_mc {o : Expr} {nm : Str} {ap cp : Pos} {args : List Expr} {env : PySem.Env} (hf : methodCallForm (args.length + ([] : List Keyword).length) (backTo cp (starEach args env)) (backToKw cp (keywordEach [] env)) = true) (hl : (ap.endLine == cp.line) = true) :
    eval (.Call (.Attribute o nm ap) args [] cp) env = (do
      let ov ← attributeBase o nm env (eval o env)
      standAt ap.atName
      let (f, first) ← holding [ov] (getMethod ov nm (do return (← importBound o env).getD true))
      callWith cp f first (backTo cp (starEach args env)) []) := by
  have hpos : methodCallPos true o env ap cp = pure cp := by unfold methodCallPos; simp [hl]
  show (attributeBase o nm env (eval o env) >>= fun ov => standAt ap.atName >>= fun _ => methodCall o nm ap cp env ov (args.length + ([] : List Keyword).length) (backTo cp (starEach args env)) (backToKw cp (keywordEach [] env))) = _
  unfold methodCall
  rw [hf]
  simp only [hpos, pure_bind]
  rfl
theorem iniB_inv {sl : Str} {ps fs : List Str} {body : List Stmt} (h : iniB sl ps fs body = true) : ∃ p0 p1 p2 cp p3 args ss, body = .Expr (.Call (.Attribute (.Call (.Name "super" p0) [] [] p1) "__init__" p2) args [] cp) p3 :: ss ∧ (p2.endLine == cp.line) = true ∧ args.length < 29 ∧ argB ps args = true ∧ stoB sl (fs.zip ps) ss = true := by
  unfold iniB at h
  split at h
  · simp only [Bool.and_eq_true, decide_eq_true_eq] at h
    obtain ⟨⟨⟨⟨⟨rfl, rfl⟩, ha⟩, hb⟩, h1⟩, h2⟩ := h
    exact ⟨_, _, _, _, _, _, _, rfl, ha, hb, h1, h2⟩
  · cases h
/-- super().__init__(..) as it is called -/
theorem sup_call {C e u : Addr} {h : Heap} {t : Nat} {t0 : Addr} {us : List Value} {Q : Value → Shared → Prop} (T : OexC K C) (kin : K.In h) (he : h.get? e = some (PySem.HandSPX.excO C t0)) (hu : h.get? u = some (kxs_mw "ValueError.__init__" e)) (hz : us.length ≤ sizeLine)
    (q : ∀ h' t1, (∀ b o, b ≠ e → h.get? b = some o → h'.get? b = some o) → h'.get? e = some (PySem.HandSPX.excO C t1) → Q .none ⟨h', g, d, t, os⟩) : wpAny (model prog w) A (call (.ref u) us) Q E ⟨h, g, d, t, os⟩ := by
  obtain ⟨nm, qn, N, bs, bm, sn, sub, ab, col, dd, k0, k1, k2, k3, k5, hC, hbm⟩ := T.cls
  refine wpAny_call (codeAny_of_tree ?_)
  show wpAny _ A.in1 (callAny (.ref u) ⟨us, []⟩) _ _ _
  simp only [callAny]
  refine wpAny_bind (wpAny_load hu ?_)
  refine KFB.if_so (by rfl) ?_
  refine wpAny_bind (check_bound_init F.excBase_ValueError.toExcCallFacts (kin _ _ hC) he rfl ?_)
  refine wpAny_bind (wpAny_pure (wpAny_pure ?_))
  refine ⟨plainId_quiet F.excBase_ValueError.init.plain _, codeAny_builtin F.excBase_ValueError.initEntry ?_⟩
  exact exc_init_tree (cls := .ref C) (t0 := t0) (dv := none) (c2 := .none) (c3 := .none) (b4 := .bool false) he hz fun h' k e' _ => q h' _ k e'
theorem ns_keep {h h' : Heap} {L : Addr} {m : Str → Option Value} (hn : h.Ns L m) (k : ∀ o, h.get? L = some o → h'.get? L = some o) : h'.Ns L m := by
  obtain ⟨o, es, ep, ho, hr⟩ := hn
  exact ⟨o, es, ep, k _ ho, hr⟩
theorem lookup_zip_rev : ∀ {ps : List Str} {us : List Value} {i : Nat} {x : Str} {u : Value}, ps.Nodup → ps[i]? = some x → us[i]? = some u → ((ps.zip us).reverse).lookup x = some u
  | [], _, i, _, _, _, h, _ => by simp at h
  | p :: ps, [], i, _, _, _, _, h => by simp at h
  | p :: ps, v :: us, i, x, u, hn, hx, hu => by
    rw [List.zip_cons_cons, List.reverse_cons, List.lookup_append]
    rw [List.nodup_cons] at hn
    cases i with
    | zero =>
      cases hx
      cases hu
      have : ((ps.zip us).reverse).lookup p = none := by
        rw [List.lookup_eq_none_iff]
        intro y hy
        have := (List.of_mem_zip (show (y.1, y.2) ∈ ps.zip us from by simpa using hy)).1
        simp only [bne_iff_ne, ne_eq, beq_eq_false_iff_ne]
        intro z
        exact hn.1 (by rw [z]; exact this)
      rw [this]
      simp [List.lookup]
    | succ i =>
      rw [lookup_zip_rev (i := i) hn.2 (by simpa using hx) (by simpa using hu)]
      rfl
/-- the whole __init__ -/
theorem xi_run {mg : Str → Option Value} {base : Heap} {C fI e : Addr} {fs : List Str} {us : List Value} {h2 : Heap} {t : Nat} {t0 : Addr} {R : Result → Shared → Prop} (Z : XiC prog K mg C fI fs) (M : Mod K mg base) (bk : ∀ b o, base.get? b = some o → h2.get? b = some o) (be : base.get? e = none)
    (hroom : A.depth < recursionLimit) (hl : us.length = fs.length) (hz : us.length ≤ 1000) (he : h2.get? e = some (PySem.HandSPX.excO C t0))
    (hR : ∀ h' tk' dx t1, (∀ b o, b ≠ e → h2.get? b = some o → h'.get? b = some o) → h2.objs.size ≤ dx → dx ≠ e → h'.get? e = some { cls := .ref C, dict := some dx, data := .fields #[.ref t1, .none, .none, .none, .bool false, .none] } →
      h'.Ns1 dx (fun y => (fs.zip us).reverse.lookup y) → R (.ok (.ret .none)) ⟨h', g, d, tk', os⟩) :
    codeAny (model prog w) A (.call (.ref fI) ⟨.ref e :: us, []⟩) R ⟨h2, g, d, t, os⟩ := by
  obtain ⟨name, qual, params, body, scope, dV, kV, doc, pm, ct, oc, an, od, osl, cda, cc, sl, ps, ar, lk, hcd, ⟨ccl, cdd, vs, ccs, file, tf, lcd, hvs, hfile⟩, ⟨cl, cld, csl, lcc⟩, har, hsl, hpl, hpn, hfn, hbind, hini, hnd, hloc, hok, hcell, hco, hgen, hk, hks, hkc⟩ := Z.fn
  have kin0 : K.In h2 := M.kin.keeps bk
  have hKe : K.lookup e = none := by
    cases z : K.lookup e with
    | none => rfl
    | some o => have := M.kin _ _ z; rw [be] at this; cases this
  have Ns0 : ∀ {h : Heap} {dx : Addr}, K.In h → h.get? dx = none → K.lookup dx = none := fun {h dx} ki n => by
    cases z : K.lookup dx with
    | none => rfl
    | some o => have := ki _ _ z; rw [n] at this; cases this
  obtain ⟨p0, p1, p2, cp, p3, args, ss, rfl, hline, hfew, hargs, hss⟩ := iniB_inv hini
  refine ks_codeAny_call_defAt (fd := ksFn name qual params _ scope dV kV doc pm an (.ref cda) ct cc) (binds := (sl :: ps).zip (.ref e :: us)) hroom (kin0 _ _ lk) rfl (M.nolimit.keeps bk) (codeRec_of kin0 hcd) rfl
    (BindsTo.of_eq (hbind (.ref e :: us) (by simp [hl, hpl]))) hcell (fun x hx => ?_) (fun h1 hns hk1 => ?_) hco hgen hk
  · exact hloc x.1 (List.of_mem_zip (show (x.1, x.2) ∈ _ from hx)).1
  have bk1 : ∀ b o, base.get? b = some o → h1.get? b = some o := fun b o z => hk1 b o (bk b o z)
  have kin1 : K.In h1 := M.kin.keeps bk1
  have look : ∀ (i : Nat) x u, (sl :: ps)[i]? = some x → (Value.ref e :: us)[i]? = some u → ((sl :: ps).zip (Value.ref e :: us)).reverse.lookup x = some u := fun i x u hx hu => lookup_zip_rev hnd hx hu
  have hee : ∀ env : PySem.Env, env.locals = h2.objs.size → e ≠ env.locals := fun env z y => by
    have := Heap.lt_size he
    rw [y, z] at this
    exact absurd this (Nat.lt_irrefl _)
  obtain ⟨nm, qn, N, bs, bm, sn, sub, ab, col, dd, k0, k1, k2, k3, k5, hC, hbm⟩ := Z.T.cls
  have hcl : clsIn K C = some { name := nm, bases := bs, mro := .ref C :: bm, ns := N, qualname := qn, hasDict := true, slotNames := sn, subclasses := sub, abstract := ab, collection := col, hasDel := false } := by unfold clsIn; rw [hC] <;> rfl
  have hsubC : mroIn K C (.ref C) = some true := by
    unfold mroIn
    rw [hcl, Option.bind_some, if_neg (by simp)]
    simp
  obtain ⟨mb, hb1, hb2⟩ := M.blt
  have eC : e ≠ C := fun z => by rw [z, hC] at hKe; cases hKe
  generalize hEr : (fun (er : Value) (s' : Shared) => wpAny (model prog w) (A.deeper (callEnv _ h2.objs.size fI)) (leaving (callEnv _ h2.objs.size fI) er) (fun _ s'' => R (.error er) s'') (fun e' s'' => R (.error e') s'') s') = Er
  show _root_.PySem.wpAt (model prog w) (A.deeper (ksEnv qual scope h2.objs.size fI (.ref cda) cc)) (.func _ (ksEnv qual scope h2.objs.size fI (.ref cda) cc)) (execs _ (ksEnv qual scope h2.objs.size fI (.ref cda) cc)) _ _ _
  have hform : methodCallForm (args.length + ([] : List Keyword).length) (backTo cp (starEach args (ksEnv qual scope h2.objs.size fI (.ref cda) cc))) (backToKw cp (keywordEach [] (ksEnv qual scope h2.objs.size fI (.ref cda) cc))) = true := by
    unfold methodCallForm
    rw [argB_plain hargs]
    simp [backToKw, keywordEach]
    omega
  refine ks_wpAt_execs_cons (ks_wpAt_Expr_any (hi := by unfold interactive; simp [hk]) (ks_wpAt_MethodCall (he := eval_mc hform hline) ?_))
  refine ks_wpAt_super_base (env := ksEnv qual scope h2.objs.size fI (.ref cda) cc) hks hkc (by decide) rfl (kin1 _ _ lk) rfl har rfl (kin1 _ _ lcd) rfl hvs hfile Z.top ?_
  refine ks_loadName_global hk hks (loadGlobal_builtin (env := ksEnv qual scope h2.objs.size fI (.ref cda) cc) (M.glob.keeps bk1) Z.sup (hb1.keeps bk1) ((hb2 "super" (by decide)).trans boot_super) ⟨rfl, ?_⟩)
  refine wpAny_loadName_free hk hkc rfl ⟨_, kin1 _ _ lcc, rfl⟩ ?_
  rw [hsl]
  refine wpAny_loadName_local hk (hloc sl (by simp)) hns (look 0 sl _ rfl rfl) ?_
  refine ks_wpAny_isType_cls (kin1 _ _ hC) rfl ⟨rfl, ?_⟩
  refine ks_wpAny_call_super (kin1 _ _ hC) rfl (hk1 _ _ he) rfl (fun c z => by cases z) (looks_mroIn kin1 hsubC) (fun h3 e3 q3 => ?_)
  have kin3 : K.In h3 := kin1.keeps q3
  have hm3 : Looks (model prog w) h3 (mroOf (.ref C)) (.ref C :: bm) := (looks_clsIn kin3 hcl).andThen .now
  have hal : alongIn K "__init__" (((Value.ref C :: bm).dropWhile (· != .ref C)).drop 1) = some (some (.builtin "ValueError.__init__")) := by
    have := Z.alg
    unfold ks_superIn at this
    rw [hcl] at this
    exact this
  have I3 : InstAt h3 e (PySem.HandSPX.excO C t0) C none := ⟨q3 _ _ (hk1 _ _ he), rfl, rfl, trivial⟩
  refine kxs_getMethod kxs_ValueError e3 (looks_opaque kin3 Z.opq) hm3 rfl kin3 hal (I3.type.andThen (looks_subIn kin3 Z.sub)) eC (by decide) ?_
  have q4 : ∀ b o, h3.get? b = some o → (h3.push (kxs_mw "ValueError.__init__" e)).get? b = some o := fun b o z => Heap.get?_push_of_some _ z
  have hu4 : (h3.push (kxs_mw "ValueError.__init__" e)).get? h3.objs.size = some (kxs_mw "ValueError.__init__" e) := Heap.get?_push_at rfl rfl
  have k4 : ∀ b o, h2.get? b = some o → (h3.push (kxs_mw "ValueError.__init__" e)).get? b = some o := fun b o z => q4 _ _ (q3 _ _ (hk1 _ _ z))
  have kin4 : K.In (h3.push (kxs_mw "ValueError.__init__" e)) := kin3.keeps q4
  have ns4 : (h3.push (kxs_mw "ValueError.__init__" e)).Ns h2.objs.size (fun x => ((sl :: ps).zip (Value.ref e :: us)).reverse.lookup x) := hns.keeps fun b o z => q4 _ _ (q3 _ _ z)
  have par : ∀ (i : Nat) (x : Str) (u : Value), ps[i]? = some x → us[i]? = some u → ((sl :: ps).zip (Value.ref e :: us)).reverse.lookup x = some u ∧ (ksEnv qual scope h2.objs.size fI (.ref cda) cc).kindOf x = some .local ∧ okN x = true := fun i x u hx hu =>
    ⟨look (i + 1) x u (by simpa using hx) (by simpa using hu), hloc x (List.mem_cons_of_mem _ (List.mem_of_getElem? hx)), hok x (List.mem_cons_of_mem _ (List.mem_of_getElem? hx))⟩
  generalize h3.push (kxs_mw "ValueError.__init__" e) = h4 at q4 hu4 k4 kin4 ns4 ⊢
  have hany : (backTo cp (starEach args (ksEnv qual scope h2.objs.size fI (.ref cda) cc))).any (·.1) = false := by
    have := argB_plain (env := ksEnv qual scope h2.objs.size fI (.ref cda) cc) (cp := cp) hargs
    rw [List.all_eq_not_any_not] at this
    simpa using this
  refine kxs_callWith (i := "ValueError.__init__") (x := e) hany ?_
  have spl : ∀ (Q : List Value → Shared → Prop) (Er : Value → Shared → Prop) (tt : Nat), Q us ⟨h4, g, d, tt, os⟩ → wpAny (model prog w) (A.deeper (ksEnv qual scope h2.objs.size fI (.ref cda) cc)) (spliced (backTo cp (starEach args (ksEnv qual scope h2.objs.size fI (.ref cda) cc)))) Q Er ⟨h4, g, d, tt, os⟩ :=
    fun Q Er tt q => args_go hk ns4 ps us args Q hargs (by rw [hl, hpl]) par q
  cases args with
  | nil =>
    cases ps with
    | nil => exact absurd rfl hpn
    | cons _ _ => simp [argB] at hargs
  | cons a0 ar0 =>
  cases ps with
  | nil => exact absurd rfl hpn
  | cons x0 ps =>
  cases a0 <;> first | (simp [argB] at hargs; done) | skip
  refine evalArgs_plain (spl _ _ _ ⟨hu4, ?_⟩)
  refine sup_call Z.T kin4 (k4 _ _ he) hu4 (Nat.le_trans hz (by decide)) fun h5 t1 k5 e5 => ?_
  refine wpAt_of_wpAny ?_
  have kk5 : ∀ b o, b ≠ e → h2.get? b = some o → h5.get? b = some o := fun b o hb z => k5 b o hb (k4 b o z)
  have kin5 : K.In h5 := fun b o z => k5 b o (fun y => by rw [y, hKe] at z; cases z) (kin4 b o z)
  have eL : e ≠ h2.objs.size := Nat.ne_of_lt (Heap.lt_size he)
  have ns5 : h5.Ns h2.objs.size (fun x => ((sl :: x0 :: ps).zip (Value.ref e :: us)).reverse.lookup x) := ns_keep ns4 fun o z => k5 _ o (Ne.symm eL) z
  cases fs with
  | nil => simp at hpl
  | cons f0 fs =>
  cases us with
  | nil => simp at hl
  | cons u0 us =>
  cases ss with
  | nil => simp [stoB] at hss
  | cons s0 ss =>
  obtain ⟨_, _, _, _, rfl, hss2⟩ := stoB_inv hss
  obtain ⟨a1, a2, a3⟩ := par 0 x0 u0 rfl rfl
  have osl : okN sl = true := hok sl (by simp)
  have ksl : (ksEnv qual scope h2.objs.size fI (.ref cda) cc).kindOf sl = some .local := hloc sl (by simp)
  refine wpAny_execs_cons (plainObj_wpAny_Assign_Attribute (rd hk a2 ns5 a1 a3 (rd hk ksl ns5 (look 0 sl _ rfl rfl) osl ?_)))
  refine set_plain kin5 (ox := PySem.HandSPX.excO C t1) (od := none) ⟨e5, rfl, rfl, trivial⟩ Z.T.sa ?_
  refine PySem.HandSPX.exc_osa kin5 e5 hcl (show PySem.HandSPX.refsVE (.ref C :: bm) = true from hbm) rfl (Z.fld f0 (by simp)) (fun h6 t6 dx k6 dn dne hx6 n6 => ?_)
  have hsz : h2.objs.size ≤ h5.objs.size := by
    have z := ns5
    obtain ⟨o, es, ep, ho, hr⟩ := z
    exact Nat.le_of_lt (Heap.lt_size ho)
  have dxn : h5.get? dx = none := by
    cases z : h5.get? dx with
    | none => rfl
    | some o => exact absurd (Heap.lt_size z) (Nat.not_lt.mpr dn)
  have Ldx : h2.objs.size ≠ dx := fun z => by
    obtain ⟨o, es, ep, ho, hr⟩ := ns5
    rw [z, dxn] at ho; cases ho
  have ns6 : h6.Ns h2.objs.size (fun x => ((sl :: x0 :: ps).zip (Value.ref e :: u0 :: us)).reverse.lookup x) := ns_keep ns5 fun o z => k6 _ o (Ne.symm eL) z
  have kin6 : K.In h6 := fun b o z => k6 b o (fun y => by rw [y, hKe] at z; cases z) (kin5 b o z)
  refine sto_old (m := fun x => ((sl :: x0 :: ps).zip (Value.ref e :: u0 :: us)).reverse.lookup x) (dx := dx) (e := e) Z.T hk rfl (look 0 sl _ rfl rfl) ksl osl (fs.zip ps) us ss h6 t6 t1 [f0] _ _ hss2 ?_ kin6 ns6 Ldx (Ns0 kin5 dxn) hx6 n6 ?_ ?_ (Ne.symm dne) ?_ fun h7 t7 k7 n7 => ?_
  · simp at hl hpl ⊢; omega
  · intro y hy
    by_cases hyf : y = f0
    · simp [hyf]
    · exact absurd (if_neg hyf) hy
  · simp at hz hl hpl ⊢; omega
  · intro i p u hp hu
    have hpp := List.getElem?_zip_eq_some.mp hp
    obtain ⟨b1, b2, b3⟩ := par (i + 1) p.2 u (by simpa using hpp.2) (by simpa using hu)
    exact ⟨b1, b2, b3, Z.fld p.1 (List.mem_cons_of_mem _ (List.mem_of_getElem? hpp.1))⟩
  · refine hR h7 t7 dx t1 (fun b o hb z => k7 b o (fun y => ?_) (k6 b o hb (kk5 b o hb z))) (Nat.le_trans hsz dn) dne (k7 _ _ (Ne.symm dne) hx6) ?_
    · have := kk5 b o hb z
      rw [y, dxn] at this; cases this
    · have : (fun y => (((f0 :: fs).zip (u0 :: us)).reverse.lookup y)) = (fun y => match (((fs.zip ps).map (·.1)).zip us).reverse.lookup y with | some v => some v | none => if y = f0 then some u0 else none) := by
        have em : (fs.zip ps).map (·.1) = fs := by
          rw [List.map_fst_zip]
          simp at hpl; omega
        funext y
        rw [em, List.zip_cons_cons, List.reverse_cons, List.lookup_append]
        cases (fs.zip us).reverse.lookup y with
        | some v => rfl
        | none =>
          by_cases hy : y = f0
          · subst hy; simp [List.lookup]
          · have e : (y == f0) = false := by simpa using hy
            simp [List.lookup, e, hy]
      rw [this]
      exact n7
end
theorem rel_zip : ∀ {fs : List Str} {vs : List V} {us : List Value}, Vals vs us → ∀ f, L2.RelO ((fs.zip vs).reverse.lookup f) ((fs.zip us).reverse.lookup f)
  | [], vs, us, r, f => by simp; trivial
  | g :: fs, [], us, r, f => by cases r; simp; trivial
  | g :: fs, v :: vs, us, r, f => by
    cases r with
    | cons r1 r2 =>
      rw [List.zip_cons_cons, List.zip_cons_cons, List.reverse_cons, List.reverse_cons, List.lookup_append, List.lookup_append]
      have ih := rel_zip (fs := fs) r2 f
      revert ih
      generalize (fs.zip vs).reverse.lookup f = A
      generalize (fs.zip _).reverse.lookup f = B
      intro ih
      cases A with
      | some a =>
        cases B with
        | some b => exact ih
        | none => exact ih.elim
      | none =>
        cases B with
        | some b => exact ih.elim
        | none =>
          by_cases hf : f = g
          · subst hf; simp [List.lookup]; exact r1
          · have e : (f == g) = false := by simpa using hf
            simp [List.lookup, e]; trivial
/-- C(e, ..) makes such an exception -/
theorem mkx_of {X : Cx} {x : Str} {C fI : Addr} {fs : List Str} (Z : XiC X.prog X.K X.mg C fI fs) (hr : L2H.RoomH 1 X.A) (hg : Gl X x) (hm : X.mg x = some (.ref C)) (hdb : (x == ("__debug__" : Str)) = false) (hfl : fs.length ≤ 1000) : MkX X x C fs := by
  intro e es ta p pos ha he hpl pins s σ H Q I h
  obtain ⟨nm, q, N, bs, bm, sn, sub, ab, col, dd, k0, k1, k2, k3, k5, hC, hbm⟩ := Z.T.cls
  refine wpAny_Call_Name_kw (ld_glob I hg hm ?_ hdb)
  refine callWith_K (h₀ := X.base) I.ok.mod.kin Z.T.kC (thn (ha.run pos pins s σ H _ I h) fun us s1 ⟨vs, H1, I1, r1, hvl, q1⟩ => ⟨I1.kIn, ?_⟩) he hpl
  show wpAny _ _ (call (.ref C) us) _ _ _
  obtain ⟨hp, g, dr, tk, os⟩ := s1
  have hul : us.length = fs.length := by rw [← Paired.length r1]; exact hvl
  generalize hA : hp.objs.size + 1 = a
  have hsz : hp.objs.size ≤ a := by rw [← hA]; exact Nat.le_succ _
  have hn : H1 a = none := I1.hok.fresh hsz
  let hp2 := (hp.push (kdv_tup us)).push (PySem.HandSPX.excO C hp.objs.size)
  have kk : ∀ b o, hp.get? b = some o → hp2.get? b = some o := fun b o z => Heap.get?_push_of_some _ (Heap.get?_push_of_some _ z)
  have hget : hp2.get? a = some (PySem.HandSPX.excO C hp.objs.size) := by rw [← hA]; show ((hp.push (kdv_tup us)).push (PySem.HandSPX.excO C hp.objs.size)).get? (hp.objs.size + 1) = _; heap_get
  have I2 : Inv X pins σ (upd H1 a (exo a C none)) ⟨hp2, g, dr, tk, os⟩ := I1.laid (t' := tk) (a := a) (o := exo a C none) (h' := hp2) kk hsz (exo_ok hget)
  have be : X.base.get? a = none := by
    cases z : X.base.get? a with
    | none => rfl
    | some o => exact absurd (Heap.lt_size (I1.bk _ _ z)) (Nat.not_lt.mpr hsz)
  have hroom : (X.A.under (.builtin "type.__call__" ⟨.ref C :: us, []⟩)).depth < recursionLimit := by have := hr.dp; rw [make_depth]; omega
  refine wpAny_call (PySem.HandSPX.call_own F.excBase_ValueError (fun Y => PySem.HandSPX.refsVE_contains Y bm hbm) (I1.kIn _ _ hC) (looks_findIn I1.kIn Z.iC) (fun self => bind_fn I1.kIn self Z.tI) (by rw [hul]; exact Nat.le_trans hfl (by decide)) ?_)
  rw [hA]
  refine xi_run (h2 := hp2) Z I2.ok.mod I2.bk be hroom hul (by omega) hget fun h' tk' dx t1 k dn dne hx hns => ?_
  have dn0 : hp.objs.size ≤ dx := Nat.le_trans (by
    show hp.objs.size ≤ ((hp.push (kdv_tup us)).push (PySem.HandSPX.excO C hp.objs.size)).objs.size
    simp [Heap.push]
    omega) dn
  have hnd : H1 dx = none := I1.hok.fresh dn0
  have nd : ∀ {b : Addr} {o : Obj}, hp2.get? b = some o → b ≠ dx := fun {b o} z => Nat.ne_of_lt (Nat.lt_of_lt_of_le (Heap.lt_size z) dn)
  have na : ∀ {b : Addr}, upd H1 a (exo a C none) b = none → b ≠ a := fun {b} n z => by rw [z, upd_same] at n; cases n
  let F := (fs.zip vs).reverse
  let H2 : Hp := upd (upd (upd H1 a (exo a C none)) dx (exd dx F)) a (exo a C (some dx))
  have h2a : H2 a = some (exo a C (some dx)) := upd_same
  have h2d : H2 dx = some (exd dx F) := by show upd (upd _ _ _) _ _ _ = _; rw [upd_ne dne, upd_same]
  have h2o : ∀ {b : Addr}, b ≠ a → b ≠ dx → H2 b = H1 b := fun {b} n1 n2 => by show upd (upd (upd _ _ _) _ _) _ _ _ = _; rw [upd_ne n1, upd_ne n2, upd_ne n1]
  have un : Un (frs X.stack) [] (upd H1 a (exo a C none)) H2 hp2 h' := {
    keep := fun b o z n _ _ => k b o (na n) z
    slot := fun b o z n _ _ => ⟨o.slots, k b o (na n) z⟩
    free := fun b o z n _ => by rw [h2o (na n) (nd z)]; rw [upd_ne (na n)] at n; exact n
    there := fun b o z _ => by
      by_cases hb : b = a
      · exact ⟨_, by rw [hb]; exact hx⟩
      · exact ⟨o, k b o hb z⟩
    tups := fun b xs z => by
      have hb : b ≠ a := fun y => by rw [y, upd_same] at z; exact exo_tup (Option.some.inj z)
      rw [upd_ne hb] at z
      rw [h2o hb (ne_of_none z hnd)]; exact z
    frzs := fun b o v z => by
      have hb : b ≠ a := fun y => by rw [y, upd_same] at z; exact exo_frz (Option.some.inj z)
      rw [upd_ne hb] at z
      rw [h2o hb (ne_of_none z hnd)]; exact z
    tbls := fun b ps z => by
      have hb : b ≠ a := fun y => by rw [y, upd_same] at z; exact exo_tbl (Option.some.inj z)
      rw [upd_ne hb] at z
      exact ⟨#[], by rw [h2o hb (ne_of_none z hnd), z]; simp⟩ }
  have rel : ∀ f, L2.RelO (F.lookup f) ((fs.zip us).reverse.lookup f) := fun f => rel_zip r1 f
  have hok : HOk X.prog X.w H2 h' := fun b o z => by
    by_cases hb : b = a
    · subst hb
      rw [h2a] at z
      cases z
      exact exo_ok hx
    · by_cases hd : b = dx
      · subst hd
        rw [h2d] at z
        cases z
        exact exd_ok hns rel
      · rw [h2o hb hd] at z
        have z2 : upd H1 a (exo a C none) b = some o := by rw [upd_ne hb]; exact z
        refine (I2.hok b o z2).stay (fun c v hc y => k c v ?_ y) (fun c hc => ?_) (fun c xs hc => ?_)
        · rcases hc with hc | hc
          · rw [hc]; exact hb
          · exact fun y => by rw [y, upd_same] at hc; exact exo_own (Option.some.inj hc)
        · have hca : c ≠ a := fun y => by rw [y, upd_same] at hc; exact exo_own (Option.some.inj hc)
          rw [upd_ne hca] at hc
          rw [h2o hca (ne_of_none hc hnd)]; exact hc
        · have hca : c ≠ a := fun y => by rw [y, upd_same] at hc; exact exo_tup (Option.some.inj hc)
          rw [upd_ne hca] at hc
          rw [h2o hca (ne_of_none hc hnd)]; exact hc
  have eq : upd (del H2 a) dx (.xd F) = upd H1 dx (.xd F) := by
    funext b
    by_cases hd : b = dx
    · rw [hd, upd_same, upd_same]
    · rw [upd_ne hd, upd_ne hd]
      by_cases hb : b = a
      · rw [hb, del_same, hn]
      · rw [del_ne hb, h2o hb hd]
  obtain ⟨t0, G, J, kG, ge, hoe, nad⟩ := mk_end0 (d2 := dr) (t2 := tk') I1 hsz kk un hok rfl I1.bare h2a h2d hnd
  refine ⟨rfl, ⟨a, _, _, ⟨G, g, dr, tk', os⟩, _, .ref C, some dx, rfl, J, kG, ge, hoe, ⟨rfl, rfl, fun vs hv => ?_⟩, rfl, rfl, nad, rfl, I1.bare, raises_own Z.T.exC Z.T.tyC, ?_⟩, fun b oe vs eb hg2 hd2 => ?_⟩
  · cases hv
    rfl
  · rw [eq]
    exact q1 dx hnd
  · cases eb
    have hg3 : h'.get? a = some oe := hg2
    rw [hoe] at hg3
    cases hg3
    cases hd2
    show (4 : Nat) < 6
    decide
end DL
set_option maxHeartbeats 8000000
namespace DL
open PySem PySem.Spec PySem.W PySem.Calls PyProof.Rows L2
theorem zip_look : ∀ (ns : List Str) (us : List Value), us.length = ns.length → ∀ n ∈ ns, ((ns.zip us).lookup n).isNone = false
  | [], _, _, n, h => by simp at h
  | m :: ns, [], hl, n, h => by simp at hl
  | m :: ns, u :: us, hl, n, h => by
    rw [List.zip_cons_cons, List.lookup_cons]
    cases e : (n == m) with
    | true => rfl
    | false =>
      have : n ≠ m := by simpa using e
      exact zip_look ns us (by simpa using hl) n (by simpa [this] using h)
theorem zip_fm : ∀ (ns : List Str) (us : List Value), us.length = ns.length → ns.Nodup → ns.filterMap (fun n => ((ns.zip us).lookup n).map (n, ·)) = ns.zip us
  | [], us, _, _ => by simp
  | m :: ns, [], hl, _ => by simp at hl
  | m :: ns, u :: us, hl, hn => by
    rw [List.nodup_cons] at hn
    rw [List.zip_cons_cons, List.filterMap_cons]
    have e0 : (((m, u) :: ns.zip us).lookup m).map (m, ·) = some (m, u) := by simp [List.lookup]
    rw [e0]
    show (m, u) :: _ = (m, u) :: _
    congr 1
    have ih := zip_fm ns us (by simpa using hl) hn.2
    have gen : ∀ l : List Str, (∀ n ∈ l, n ≠ m) → l.filterMap (fun n => (((m, u) :: ns.zip us).lookup n).map (n, ·)) = l.filterMap (fun n => ((ns.zip us).lookup n).map (n, ·)) := fun l => by
      induction l with
      | nil => intro _; rfl
      | cons a l ihl =>
        intro h
        have : (a == m) = false := by simpa using h a (by simp)
        rw [List.filterMap_cons, List.filterMap_cons, List.lookup_cons, this, ihl fun n hn => h n (List.mem_cons_of_mem _ hn)]
    rw [gen ns fun n h z => hn.1 (by rw [← z]; exact h)]
    exact ih
theorem bind_pos {fd : FuncData} {as : List Arg} {us : List Value} (hp : fd.params = ⟨[], as, none, [], [], none, []⟩) (hd : fd.defaults = .none) (hl : us.length = as.length) (hn : (as.map (·.arg)).Nodup) : bindArgs fd ⟨us, []⟩ = pure ((as.map (·.arg)).zip us) := by
  have hl' : us.length = (as.map (·.arg)).length := by simpa using hl
  have miss : (as.map (·.arg)).filter (fun n => (((as.map (·.arg)).zip us).lookup n).isNone) = [] := by
    rw [List.filter_eq_nil_iff]
    intro n h
    rw [zip_look _ us hl' n h]
    simp
  have fm := zip_fm (as.map (·.arg)) us hl' hn
  unfold bindArgs
  simp only [hp, hd]
  show _ = _
  generalize as.map (·.arg) = ns at hl' miss fm ⊢
  have hgt : ¬ us.length > ns.length := by omega
  simp only [List.map_nil, List.nil_append, List.append_nil, List.forIn_nil, seqItems?, pure_bind, nostand, Option.getD, List.length_nil, List.drop_nil, Nat.sub_zero, List.take_length, miss, List.drop_length, List.zip_nil_right, List.isEmpty_nil, hgt, Nat.zero_sub]
  simp [hl', miss, fm]
theorem posA_bind {fd : FuncData} {ps : List Str} (h : posA fd.params = some ps) (hd : fd.defaults = .none) (us : List Value) (hl : us.length = ps.length) : bindArgs fd ⟨us, []⟩ = pure (ps.zip us) := by
  obtain ⟨as, e, rfl, hn⟩ := posA_ok h
  exact bind_pos e hd (by simpa using hl) hn
def kndB (sc : Scope) (l : List Str) : Bool := l.all fun x => decide (sc.names.lookup x = some .local) && okN x
/-- the class object -/
def oexB (K : Fg) (C : Addr) : Bool := match K.lookup C with
  | some ⟨.type ty, _, .cls cd, sl⟩ => (match cd.mro, sl.toList with
    | .ref C' :: bm, [_, _, _, _, some (.builtin n), _] => decide (ty = "type") && decide (C' = C) && decide (n = "ValueError.__new__") && !cd.hasDel && cd.hasDict && PySem.HandSPX.refsVE bm
    | _, _ => false)
  | _ => false
theorem oexB_ok {K : Fg} {C : Addr} (h : oexB K C = true) : ∃ nm q N bs bm sn sub ab col dd k0 k1 k2 k3 k5, K.lookup C = some (excClassObj nm q C N bs bm true sn sub ab col dd k0 k1 k2 k3 k5 "ValueError.__new__") ∧ PySem.HandSPX.refsVE bm = true := by
  unfold oexB at h
  split at h
  · rename_i ty dd cd sl ho
    split at h
    · rename_i C' bm k0 k1 k2 k3 n k5 hm hs
      simp only [Bool.and_eq_true, decide_eq_true_eq, Bool.not_eq_true'] at h
      obtain ⟨⟨⟨⟨⟨rfl, rfl⟩, rfl⟩, hdel⟩, hdict⟩, ht⟩ := h
      obtain ⟨nm, bs, mro, ns, qn, hd, sn, sub, ab, col, del⟩ := cd
      dsimp only at hm hdel hdict
      subst hm hdel hdict
      obtain ⟨l⟩ := sl
      have hl : l = [k0, k1, k2, k3, some (.builtin "ValueError.__new__"), k5] := hs
      subst hl
      exact ⟨nm, qn, ns, bs, bm, sn, sub, ab, col, dd, k0, k1, k2, k3, k5, ho, ht⟩
    · cases h
  · cases h
def codeB (prog : Program) (K : Fg) (cda : Addr) : Bool := match K.lookup cda with
  | some ⟨_, _, .fields vs, _⟩ => (match (vs[2]? : Option Value) with
    | some (.str file _) => ((prog.main.file : Str) == file)
    | _ => false)
  | _ => false
def celB (K : Fg) (C cc : Addr) : Bool := match K.lookup cc with
  | some ⟨_, _, .cell (some (.ref D)), _⟩ => decide (D = C)
  | _ => false
def iniF (prog : Program) (K : Fg) (C fI : Addr) (fs : List Str) : Bool := match K.lookup fI with
  | some ⟨_, _, .func fd, _⟩ => (match fd.body, fd.closure, fd.code, fd.defaults, posA fd.params with
    | .stmts body, [(cn, cc)], .ref cda, .none, some (sl :: ps) => decide (cn = "__class__") && decide (fd.globals = mainGlobals) && decide (fd.builtins = builtinsNs) && codeIn K (.ref cda) fd.qualname && codeB prog K cda && celB K C cc && decide (ps.length = fs.length) && decide (ps ≠ []) && decide (fs.Nodup) &&
        iniB sl ps fs body && kndB fd.scope (sl :: ps) && (fd.scope.names.all fun x => decide (x.2 ≠ .cell)) && !fd.scope.isCoroutine && !fd.scope.isGenerator && decide (fd.scope.kind = .function) && decide (fd.scope.names.lookup ("super" : Str) = some .globalImplicit) && decide (fd.scope.names.lookup ("__class__" : Str) = some .free)
    | _, _, _, _, _ => false)
  | _ => false
/-- all of it; x: the class's name -/
def xiB (prog : Program) (K : Fg) (x : Str) (fs : List Str) : Bool :=
  oexB K (He.ga K x) && He.eqO (findIn K (.ref (He.ga K x)) "__setattr__") (some (some (.builtin "object.__setattr__"))) && decide (subIn K (.ref (He.ga K x)) (.type "BaseException") = some true) && decide (typeIn K (.ref (He.ga K x)) = some (.type "type")) && keepIn K (.ref (He.ga K x)) &&
  He.eqO (findIn K (.ref (He.ga K x)) "__init__") (some (some (.ref (He.ma K (He.ga K x) "__init__")))) && decide (typeIn K (.ref (He.ma K (He.ga K x) "__init__")) = some (.type "function")) && iniF prog K (He.ga K x) (He.ma K (He.ga K x) "__init__") fs &&
  !(prog.main.scope.names.lookup ("super" : Str)).isSome && He.eqO (nsIn K cStatics "thirdparty.any") (some none) && He.eqO (ks_superIn K (He.ga K x) (He.ga K x) "__init__") (some (some (.builtin "ValueError.__init__"))) && decide (subIn K (.ref (He.ga K x)) (.type "ValueError") = some true) &&
  fs.all fun f => He.eqO (findIn K (.ref (He.ga K x)) f) (some none)
theorem kndB_ok {sc : Scope} {l : List Str} (h : kndB sc l = true) : (∀ x ∈ l, sc.names.lookup x = some .local) ∧ ∀ x ∈ l, okN x = true := by
  have := List.all_eq_true.mp h
  refine ⟨fun x hx => ?_, fun x hx => ?_⟩
  · exact of_decide_eq_true (ba2 (this x hx)).1
  · exact (ba2 (this x hx)).2
theorem iniF_ok {prog : Program} {K : Fg} {C fI : Addr} {fs : List Str} (h : iniF prog K C fI fs = true) : ∃ (name qual : Str) (params : Arguments) (body : List Stmt) (scope : Scope) (dV kV doc pm ct oc : Value) (an od : Option Addr) (osl : Array (Option Value)) (cda cc : Addr) (sl : Str) (ps : List Str) (ar : Arg),
    K.lookup fI = some ⟨oc, od, .func (ksFn name qual params body scope dV kV doc pm an (.ref cda) ct cc), osl⟩ ∧ codeIn K (.ref cda) qual = true ∧
    (∃ ccl cdd vs ccs file tf, K.lookup cda = some ⟨ccl, cdd, .fields vs, ccs⟩ ∧ vs[2]? = some (.str file tf) ∧ ((prog.main.file : Str) == file) = true) ∧
    (∃ cl cld csl, K.lookup cc = some ⟨cl, cld, .cell (some (.ref C)), csl⟩) ∧
    (params.posonlyargs ++ params.args).head? = some ar ∧ ar.arg = sl ∧ ps.length = fs.length ∧ ps ≠ [] ∧ fs.Nodup ∧
    (∀ us : List Value, us.length = ps.length + 1 → bindArgs (ksFn name qual params body scope dV kV doc pm an (.ref cda) ct cc) ⟨us, []⟩ = pure ((sl :: ps).zip us)) ∧
    iniB sl ps fs body = true ∧ (sl :: ps).Nodup ∧ (∀ x ∈ sl :: ps, scope.names.lookup x = some .local) ∧ (∀ x ∈ sl :: ps, okN x = true) ∧ (∀ x ∈ scope.names, x.2 ≠ .cell) ∧ scope.isCoroutine = false ∧ scope.isGenerator = false ∧ scope.kind = .function ∧
    scope.names.lookup ("super" : Str) = some .globalImplicit ∧ scope.names.lookup ("__class__" : Str) = some .free := by
  unfold iniF at h
  split at h
  · rename_i oc od fd osl ho
    split at h
    · rename_i body cn cc cda sl ps hbody hclo hcode hdf hpos
      simp only [Bool.and_eq_true, decide_eq_true_eq, Bool.not_eq_true'] at h
      obtain ⟨⟨⟨⟨⟨⟨⟨⟨⟨⟨⟨⟨⟨⟨⟨⟨rfl, hg⟩, hb⟩, h1⟩, h2⟩, h3⟩, h4⟩, h5⟩, h6⟩, h7⟩, h8⟩, h9⟩, h10⟩, h11⟩, h12⟩, h13⟩, h14⟩ := h
      obtain ⟨as, ep, eas, hnd⟩ := posA_ok hpos
      have bnd := posA_bind hpos hdf
      obtain ⟨n1, n2, n3, n4, n5, n6, n7, n8, n9, n10, n11, n12, n13, n14, n15⟩ := fd
      dsimp only at hbody hclo hcode hdf hpos hg hb h1 ep h8 h9 h10 h11 h12 h13 h14
      subst hbody hclo hcode hdf hg hb ep
      obtain ⟨k1, k2⟩ := kndB_ok h8
      refine ⟨n1, n2, ⟨[], as, none, [], [], none, []⟩, body, n5, .none, n9, n10, n11, n14, oc, n12, od, osl, cda, cc, sl, ps, ?_⟩
      cases as with
      | nil => cases eas
      | cons ar as =>
        refine ⟨ar, ho, h1, ?_, ?_, rfl, (List.cons.inj eas).1, h4, h5, h6, fun us hl => bnd us (by simpa using hl), h7, hnd, k1, k2, fun x hx => of_decide_eq_true (List.all_eq_true.mp h9 x hx), h10, h11, h12, h13, h14⟩
        · unfold codeB at h2
          split at h2
          · rename_i a b vs c e
            split at h2
            · rename_i file tf e2
              exact ⟨_, _, vs, _, file, tf, e, e2, h2⟩
            · cases h2
          · cases h2
        · unfold celB at h3
          split at h3
          · rename_i a b D c e
            cases of_decide_eq_true h3
            exact ⟨_, _, _, e⟩
          · cases h3
    · cases h
  · cases h
theorem xiB_ok {prog : Program} {K : Fg} {mg : Str → Option Value} {x : Str} {fs : List Str} (h : xiB prog K x fs = true) (hs : mg "super" = none) : XiC prog K mg (He.ga K x) (He.ma K (He.ga K x) "__init__") fs := by
  unfold xiB at h
  obtain ⟨h, a13⟩ := ba2 h
  obtain ⟨h, a12⟩ := ba2 h
  obtain ⟨h, a11⟩ := ba2 h
  obtain ⟨h, a10⟩ := ba2 h
  obtain ⟨h, a9⟩ := ba2 h
  obtain ⟨h, a8⟩ := ba2 h
  obtain ⟨h, a7⟩ := ba2 h
  obtain ⟨h, a6⟩ := ba2 h
  obtain ⟨h, a5⟩ := ba2 h
  obtain ⟨h, a4⟩ := ba2 h
  obtain ⟨h, a3⟩ := ba2 h
  obtain ⟨a1, a2⟩ := ba2 h
  exact ⟨⟨oexB_ok a1, He.eqO_ok a2, of_decide_eq_true a3, of_decide_eq_true a4, a5⟩, He.eqO_ok a6, of_decide_eq_true a7, iniF_ok a8, hs, by simpa using a9, He.eqO_ok a10, He.eqO_ok a11, of_decide_eq_true a12, fun f hf => He.eqO_ok (List.all_eq_true.mp a13 f hf)⟩
end DL
set_option maxHeartbeats 8000000
namespace DL
open PySem PySem.Spec PyProof.Rows L2
inductive Kc where
  | non | bl (b : Bool) | int (i : Int) | str (x : Str)
def Kc.D : Kc → D
  | .non => .non
  | .bl b => .bl b
  | .int i => .int i
  | .str x => .str x
def Kc.V : Kc → V
  | .non => .non
  | .bl b => .bl b
  | .int i => .int i
  | .str x => .str x
def Kc.chk : Kc → Stmt → Bool
  | .non, .Return (some (.Constant .none _ _)) _ => true
  | .bl b, .Return (some (.Constant (.bool c) _ _)) _ => decide (b = c)
  | .int b, .Return (some (.Constant (.int c) _ _)) _ => decide (b = c)
  | .str b, .Return (some (.Constant (.str c) _ _)) _ => decide (b = c)
  | _, _ => false
theorem Kc.ok {X : Cx} {k : Kc} {st : Stmt} (h : k.chk st = true) : PS X st (tRet (tC k.V)) := by
  cases k <;> (cases st <;> first | (simp [Kc.chk] at h; done) | skip) <;> rename_i o p <;> (rcases o with _ | e <;> first | (simp [Kc.chk] at h; done) | skip) <;> (cases e <;> first | (simp [Kc.chk] at h; done) | skip) <;> rename_i c j q <;> (cases c <;> first | (simp [Kc.chk] at h; done) | skip)
  · exact ps_ret pe_non
  · simp only [Kc.chk, decide_eq_true_eq] at h; subst h; exact ps_ret pe_bl
  · simp only [Kc.chk, decide_eq_true_eq] at h; subst h; exact ps_ret pe_int
  · simp only [Kc.chk, decide_eq_true_eq] at h; subst h; exact ps_ret pe_str
theorem Kc.rel {K : Fg} {R : Rg} {H : Hp} (k : Kc) : RelD K R H k.D k.V := by
  cases k <;> (unfold Kc.D Kc.V RelD; rfl)
section
variable {X : Cx} {C : Cn} {Wx : WX}
end
end DL
set_option maxHeartbeats 8000000
namespace DL
open PySem PySem.Spec PyProof.Rows L2
section
variable {X : Cx} {C : Cn} {Wx : WX}
end
end DL
set_option maxHeartbeats 8000000
namespace DL
open PySem PySem.Spec PyProof.Rows L2
theorem sw2 {a b : Expr} {x y : Str} {px py pt pt2 : Pos} {kt k2 : Nat} {env : PySem.Env} (hb : env.blockKind = .function) (hx : env.kindOf x = some .local) (hy : env.kindOf y = some .local) (hl : py.line = px.line) (hxy : x ≠ y) (sa : noStar a = true) (sb : noStar b = true)
    (hf : [a, b].all (foldedForSure 8) = false) (hc : [a, b].all (constantsAlone 8) = false) : swappedStores [.Tuple [.Name x px, .Name y py] kt pt] (.Tuple [a, b] k2 pt2) env = pure (some [x, y]) := by
  unfold swappedStores
  have hxy' : (y == x) = false := by simpa using Ne.symm hxy
  have e0 : ∀ (f : Expr → Bool), f a = false → f b = false → [a, b].any f = false := fun f h1 h2 => by simp [h1, h2]
  dsimp only
  rw [e0 _ (by cases a <;> first | rfl | cases sa) (by cases b <;> first | rfl | cases sb)]
  simp [hb, hx, hy, hl, hf, hc, Expr.pos, List.filterMap_cons, List.eraseDups, List.eraseDupsBy, List.eraseDupsBy.loop, hxy']
theorem sw3 {a b c : Expr} {x y z : Str} {px py pz pt pt2 : Pos} {kt k2 : Nat} {env : PySem.Env} (hb : env.blockKind = .function) (hx : env.kindOf x = some .local) (hy : env.kindOf y = some .local) (hz : env.kindOf z = some .local) (hl : py.line = px.line) (hl2 : pz.line = px.line) (hxy : x ≠ y) (hxz : x ≠ z) (hyz : y ≠ z) (sa : noStar a = true) (sb : noStar b = true) (sc : noStar c = true)
    (hf : [a, b, c].all (foldedForSure 8) = false) (hc : [a, b, c].all (constantsAlone 8) = false) : swappedStores [.Tuple [.Name x px, .Name y py, .Name z pz] kt pt] (.Tuple [a, b, c] k2 pt2) env = pure (some [x, y, z]) := by
  unfold swappedStores
  have hxy' : (y == x) = false := by simpa using Ne.symm hxy
  have hxz' : (z == x) = false := by simpa using Ne.symm hxz
  have hyz' : (z == y) = false := by simpa using Ne.symm hyz
  have e0 : ∀ (f : Expr → Bool), f a = false → f b = false → f c = false → [a, b, c].any f = false := fun f h1 h2 h3 => by simp [h1, h2, h3]
  dsimp only
  rw [e0 _ (by cases a <;> first | rfl | cases sa) (by cases b <;> first | rfl | cases sb) (by cases c <;> first | rfl | cases sc)]
  simp [hb, hx, hy, hz, hl, hl2, hf, hc, Expr.pos, List.filterMap_cons, List.eraseDups, List.eraseDupsBy, List.eraseDupsBy.loop, hxy', hxz', hyz']
def noLc : Expr → Bool
  | .ListComp _ _ _ _ => false
  | .SetComp _ _ _ _ => false
  | .DictComp _ _ _ _ _ => false
  | _ => true
def noTup : Expr → Bool
  | .Tuple _ _ _ => false
  | _ => true
theorem noLc_ok {e : Expr} {t : Option Expr} {n : Nat} {env : PySem.Env} (h : noLc e = true) : swapsWith e t n env = pure false := by
  cases e <;> first | rfl | cases h
theorem setNo_ok {e : Expr} {y : Str} {py : Pos} {n : Nat} {env : PySem.Env} (h : (noLc e || !lcB env.scope y) = true) : swapsWith e (some (.Name y py)) n env = pure false := by
  cases hn : noLc e with
  | true => exact noLc_ok hn
  | false =>
    rw [hn, Bool.false_or] at h
    have hk : (env.kindOf y == some NameKind.local) = false := by
      have e0 : env.kindOf y = env.scope.names.lookup y := rfl
      rw [e0]
      unfold lcB at h
      cases hl : env.scope.names.lookup y with
      | none => rfl
      | some k => rw [hl] at h; cases k <;> first | rfl | (simp at h)
    cases e <;> first | cases hn | skip
    all_goals
      unfold swapsWith
      simp [hk]
theorem sole_ok {e t : Expr} {n : Nat} {env : PySem.Env} (h : noLc e = true) : swapsWithSole [t] e n env = pure false := by
  unfold swapsWithSole
  exact noLc_ok h
theorem noTup_ok {ts : List Expr} {e : Expr} {env : PySem.Env} (h : noTup e = true) : swappedStores ts e env = pure none := by
  cases e <;> first | cases h | skip
  all_goals
    unfold swappedStores
    rcases ts with _ | ⟨t, _ | ⟨t2, r⟩⟩
    · rfl
    · cases t <;> rfl
    · cases t <;> rfl
def nlB (sc : Scope) : Expr → Bool
  | .Name x _ => !lcB sc x
  | _ => true
def nswB (sc : Scope) : Expr → Bool
  | .Tuple ts _ _ => decide (3 < ts.length) || ts.any (nlB sc)
  | _ => false
theorem fm_lt {α β : Type} {f : α → Option β} {b : α → Bool} (hb : ∀ a, b a = true → f a = none) : ∀ {l : List α}, l.any b = true → (l.filterMap f).length < l.length
  | [], h => by simp at h
  | a :: l, h => by
    have h1 : (l.filterMap f).length ≤ l.length := List.length_filterMap_le f l
    rw [List.any_cons, Bool.or_eq_true] at h
    rcases h with h | h
    · rw [List.filterMap_cons, hb a h]; simp only [List.length_cons]; omega
    · have := fm_lt hb h
      rw [List.filterMap_cons]
      split <;> simp only [List.length_cons] <;> omega
theorem nsw_ok {t e : Expr} {env : PySem.Env} (h : nswB env.scope t = true) : swappedStores [t] e env = pure none := by
  cases t <;> first | (cases h; done) | skip
  rename_i ts k p
  cases e <;> first | rfl | skip
  rename_i vs k2 p2
  unfold swappedStores
  dsimp only
  simp only [nswB, Bool.or_eq_true, decide_eq_true_eq] at h
  split
  · rfl
  · rename_i hc
    split
    · rfl
    · rcases h with h | h
      · exfalso
        apply hc
        simp; omega
      · have := fm_lt (f := fun t => match t with | .Name id pos => if env.kindOf id == some .local && pos.line == (ts.head?.map (·.pos.line)).getD 0 then some id else none | _ => none) (b := nlB env.scope) (by
          intro a ha
          cases a <;> first | rfl | skip
          rename_i x q
          simp only [nlB, Bool.not_eq_true', lcB] at ha
          have : (env.kindOf x == some .local) = false := by
            show (env.scope.names.lookup x == some .local) = false
            generalize env.scope.names.lookup x = o at ha
            rcases o with _ | o
            · rfl
            · cases o <;> first | rfl | (simp at ha; done)
          simp [this]) h
        split
        · rfl
        · rename_i h2
          exfalso
          apply h2
          simp only [Bool.or_eq_true, bne_iff_ne, ne_eq]
          left
          exact Nat.ne_of_lt this
def fldB : Expr → Bool
  | .Tuple vs _ _ => vs.all (foldedForSure 8)
  | _ => false
theorem fld_ok {t e : Expr} {env : PySem.Env} (h : fldB e = true) : swappedStores [t] e env = pure none := by
  cases e <;> first | (cases h; done) | skip
  rename_i vs k p
  have h : vs.all (foldedForSure 8) = true := h
  have go : ∀ (ts : List Expr), (do
      if !(ts.length == 2 || ts.length == 3) || vs.length != ts.length || env.blockKind != .function then return none
      if vs.any fun | .Starred .. => true | _ => false then return none
      let line := (ts.head?.map (·.pos.line)).getD 0
      let names := ts.filterMap fun
        | .Name id pos => if env.kindOf id == some .local && pos.line == line then some id else none
        | _ => none
      if names.length != ts.length || names.eraseDups.length != names.length then return none
      if vs.all (foldedForSure 8) then return none
      if vs.all (constantsAlone 8) then unsupported "assign.tuple-of-constant-expressions:order-of-the-stores"
      return some names : Sem (Option (List Str))) = pure none := by
    intro ts
    dsimp only
    split
    · rfl
    · split
      · rfl
      · split
        · rfl
        · first | rfl | (rw [if_pos h]; rfl) | rw [if_pos h]
  cases t <;> first | rfl | exact go _
theorem swap_sub {o j e : Expr} {p : Pos} {env : PySem.Env} : swappedStores [.Subscript o j p] e env = pure none := by
  unfold swappedStores
  cases e <;> rfl
def xnB (M : Xm) (sc : Scope) (c : Nat) (x : Str) : Bool := decide (M.names[c]? = some x) && decide (c < M.n) && glB sc x && okN x
def hdB (M : Xm) (N : List Str) (sc : Scope) : Hd1 → ExceptHandler → Bool
  | (c, i, k, l), .ExceptHandler (some (.Name x _)) (some n) [st] _ => xnB M sc c x && decide (N[i]? = some n) && lcB sc n && okN n && (match k.stmt N sc st with
      | some es => xchk n (M.flds c) l es
      | none => false)
  | _, _ => false
def hdsB (M : Xm) (N : List Str) (sc : Scope) : List Hd1 → List ExceptHandler → Bool
  | [], [] => true
  | y :: r, e :: es => hdB M N sc y e && hdsB M N sc r es
  | _, _ => false
/-- what stands around statements -/
structure StatS (M : Xm) (G : Gm) (F : Fns) (C : Cn) (gd : Bool) (k : Nat) (X : Cx) : Prop extends Stat G F C gd k X where
  k1 : 1 ≤ k
  pass : PassesOwn (model X.prog X.w) X.A X.env X.xe
  stk : X.stack = X.env :: X.outer
  frm : X.env.frame = some X.env.locals
  blk : X.env.blockKind = .function
  fnA : ∀ x, X.fn x = true
  xm : XmOk M C.K C.Cl
  xmg : ∀ c x, M.names[c]? = some x → X.mg x = some (.ref (C.Cl c))
  xmk : ∀ c x, M.names[c]? = some x → M.rs c = true → (∃ fI, XiC X.prog X.K X.mg (C.Cl c) fI (M.flds c)) ∧ (M.flds c).length ≤ 1000
theorem StatS.tr {M : Xm} {G : Gm} {F : Fns} {C : Cn} {gd : Bool} {k : Nat} {X : Cx} (Z : StatS M G F C gd k X) {pn : List (Addr × Obj)} {xe : Value → Shared → Prop} (hp : PassesOwn (model X.prog X.w) X.A X.env xe) : StatS M G F C gd k (X.tr pn xe) :=
  { toStat := ⟨Z.hK, Z.calm, Z.nd, Z.units, Z.room, Z.gdA, Z.sh, Z.free, Z.con, Z.fn, fun pn' xe' => Z.act pn' xe', Z.lam, Z.gn⟩, k1 := Z.k1, pass := hp, stk := Z.stk, frm := Z.frm, blk := Z.blk, fnA := Z.fnA, xm := Z.xm, xmg := Z.xmg, xmk := Z.xmk }
section
variable {M : Xm} {G : Gm} {F : Fns} {C : Cn} {gd : Bool} {k : Nat}
theorem xnB_ok {sc : Scope} {c : Nat} {x : Str} (h : xnB M sc c x = true) : M.names[c]? = some x ∧ c < M.n ∧ sc.names.lookup x = some .globalImplicit ∧ okN x = true := by
  unfold xnB at h
  obtain ⟨h, h4⟩ := ba2 h
  obtain ⟨h, h3⟩ := ba2 h
  obtain ⟨h1, h2⟩ := ba2 h
  exact ⟨of_decide_eq_true h1, of_decide_eq_true h2, glB_ok h3, h4⟩
theorem hds_ok {X : Cx} (mo : XmOk M C.K C.Cl) (hK : C.K = X.K) (hN : X.N.Nodup) (hb : X.env.blockKind = .function) (xmg : ∀ c x, M.names[c]? = some x → X.mg x = some (.ref (C.Cl c))) : ∀ {hl : List Hd1} {es : List ExceptHandler}, hdsB M X.N X.env.scope hl es = true → HxOk X es (hl.map (hxOf M C.Cl)) ∧ ∀ y ∈ hl, y.1 < M.n
  | [], [], _ => ⟨.nil, fun y hy => by simp at hy⟩
  | [], _ :: _, h => by simp [hdsB] at h
  | _ :: _, [], h => by simp [hdsB] at h
  | (c, i, kd, l) :: r, e :: es, h => by
    obtain ⟨h1, h2⟩ := ba2 (show (hdB M X.N X.env.scope (c, i, kd, l) e && hdsB M X.N X.env.scope r es) = true from h)
    obtain ⟨a, b⟩ := hds_ok mo hK hN hb xmg h2
    obtain ⟨ty, nm, hb', hp⟩ := e
    rcases ty with _ | ty <;> first | (simp [hdB] at h1; done) | skip
    cases ty <;> first | (simp [hdB] at h1; done) | skip
    rcases nm with _ | nm <;> first | (simp [hdB] at h1; done) | skip
    rcases hb' with _ | ⟨st, _ | ⟨st2, hb'⟩⟩ <;> first | (simp [hdB] at h1; done) | skip
    simp only [hdB] at h1
    obtain ⟨h1, g2⟩ := ba2 h1
    obtain ⟨h1, g3⟩ := ba2 h1
    obtain ⟨h1, g4⟩ := ba2 h1
    obtain ⟨g6, g5⟩ := ba2 h1
    obtain ⟨a1, a2, a3, a4⟩ := xnB_ok g6
    split at g2
    · rename_i es2 he
      exact ⟨.nm (of_decide_eq_true g5) (lcB_ok g4) ⟨a3, (okN_ok a4).1, .inl (xmg c _ a1)⟩ (sk_suite mo hK hN (of_decide_eq_true g5) (lcB_ok g4) (okN_ok g3).1 (okN_ok g3).2.1 a2 he g2) a, fun y hy => by
        rcases List.mem_cons.mp hy with rfl | hy
        · exact a2
        · exact b y hy⟩
    · cases g2
theorem one_form {e : Expr} {cp : Pos} {env : PySem.Env} (h : noStar e = true) : (((backTo cp (starEach [e] env)).all (fun x => !x.1) && (backToKw cp (keywordEach [] env)).all fun x => x.1.isSome) && decide (([e].length + ([] : List Keyword).length + if ([] : List Keyword).isEmpty = true then 0 else 1) < 30)) = true := by
  rw [star_ok h]; rfl
theorem asg_sub {o j : Expr} {tp : Pos} {env : PySem.Env} (h : noSlice j = true) : ∀ v, assign (.Subscript o j tp) env v = (do
      let ov ← holding [v] (eval o env)
      let iv ← holding [v, ov] (eval j env)
      standAt tp
      holding [v, ov, iv] (setItem ov iv v)
      release [v, ov, iv] []) := by
  intro v
  cases j <;> first | rfl | cases h
end
abbrev SndS (c : Xm → Gm → List Str → Scope → Stmt → Bool) (d : Xm → Fns → TDS) : Prop := ∀ {C : Cn} {M : Xm} {G : Gm} {F : Fns} {gd : Bool} {k : Nat} (X : Cx) (Wx : WX) (st : Stmt), StatS M G F C gd k X → Takes X Wx → c M G X.N X.env.scope st = true → PS X st (liftS C Wx (d M F))
/-- a statement: how it is held against the text, how it reads, and that it reads right -/
structure S where
  chk : Xm → Gm → List Str → Scope → Stmt → Bool
  rd : Xm → Fns → TDS
  snd : SndS chk rd
inductive Ss where
  | nil | cons (s : S) (r : Ss)
def S.d (M : Xm) (F : Fns) (m : S) : TDS := m.rd M F
def Ss.d (M : Xm) (F : Fns) : Ss → TDS
  | .nil => dNext
  | .cons s r => dSeq (s.d M F) (r.d M F)
def Ss.chk (M : Xm) (G : Gm) (N : List Str) (sc : Scope) : Ss → List Stmt → Bool
  | .nil, [] => true
  | .cons s r, st :: rest => s.chk M G N sc st && r.chk M G N sc rest
  | _, _ => false
theorem Ss.snd {C : Cn} {M : Xm} {G : Gm} {F : Fns} {gd : Bool} {k : Nat} : ∀ (m : Ss) (X : Cx) (Wx : WX) (st : List Stmt), StatS M G F C gd k X → Takes X Wx → m.chk M G X.N X.env.scope st = true → PSs X st (liftS C Wx (m.d M F))
  | .nil, X, Wx, st, Z, tk, h => by
    cases st with
    | nil => exact dss_nil
    | cons a b => simp [Ss.chk] at h
  | .cons s r, X, Wx, st, Z, tk, h => by
    cases st with
    | nil => simp [Ss.chk] at h
    | cons a b =>
      unfold Ss.chk at h
      obtain ⟨h1, h2⟩ := ba2 h
      exact dss_cons (S.snd s X Wx a Z tk h1) (Ss.snd r X Wx b Z tk h2)
def cS_pass (M : Xm) (G : Gm) (N : List Str) (sc : Scope) (x0 : Stmt) : Bool := match x0 with
  | .Pass _ => true
  | _ => false
theorem sS_pass : SndS (cS_pass) (fun M F => dNext) := by
    intro C M G F gd k X Wx st Z tk h
    cases st <;> first | (exact absurd h Bool.false_ne_true) | (simp [cS_pass] at h; done) | skip
    exact ds_pass
def S.pass : S := ⟨cS_pass, fun M F => dNext, sS_pass⟩
@[simp] theorem rdS_pass {M : Xm} {F : Fns} : (S.pass).rd M F = dNext := rfl
def cS_brk (M : Xm) (G : Gm) (N : List Str) (sc : Scope) (x0 : Stmt) : Bool := match x0 with
  | .Break _ => true
  | _ => false
theorem sS_brk : SndS (cS_brk) (fun M F => dBrk) := by
    intro C M G F gd k X Wx st Z tk h
    cases st <;> first | (exact absurd h Bool.false_ne_true) | (simp [cS_brk] at h; done) | skip
    exact ds_brk
def S.brk : S := ⟨cS_brk, fun M F => dBrk, sS_brk⟩
@[simp] theorem rdS_brk {M : Xm} {F : Fns} : (S.brk).rd M F = dBrk := rfl
def cS_ret (e : E) (M : Xm) (G : Gm) (N : List Str) (sc : Scope) (x0 : Stmt) : Bool := match x0 with
  | .Return (some x) _ => e.chk G N sc x
  | _ => false
theorem sS_ret (e : E) : SndS (cS_ret e) (fun M F => dRet (e.d F)) := by
    intro C M G F gd k X Wx st Z tk h
    cases st <;> first | (exact absurd h Bool.false_ne_true) | (simp [cS_ret] at h; done) | skip
    rename_i o p
    cases o with
    | none => exact absurd h Bool.false_ne_true
    | some x => exact ds_ret (E.snd e X Wx x Z.toStat tk (h))
def S.ret (e : E) : S := ⟨cS_ret e, fun M F => dRet (e.d F), sS_ret e⟩
@[simp] theorem rdS_ret (e : E) {M : Xm} {F : Fns} : (S.ret e).rd M F = dRet (e.d F) := rfl
def cS_drop (e : E) (M : Xm) (G : Gm) (N : List Str) (sc : Scope) (x0 : Stmt) : Bool := match x0 with
  | .Expr x _ => noLc x && e.chk G N sc x
  | _ => false
theorem sS_drop (e : E) : SndS (cS_drop e) (fun M F => dDrop (e.d F)) := by
    intro C M G F gd k X Wx st Z tk h
    cases st <;> first | (exact absurd h Bool.false_ne_true) | (simp [cS_drop] at h; done) | skip
    obtain ⟨h1, h2⟩ := ba2 (h)
    exact ds_expr (E.snd e X Wx _ Z.toStat tk h2) (noLc_ok h1)
def S.drop (e : E) : S := ⟨cS_drop e, fun M F => dDrop (e.d F), sS_drop e⟩
@[simp] theorem rdS_drop (e : E) {M : Xm} {F : Fns} : (S.drop e).rd M F = dDrop (e.d F) := rfl
def cS_set (i : Nat) (e : E) (M : Xm) (G : Gm) (N : List Str) (sc : Scope) (x0 : Stmt) : Bool := match x0 with
  | .Assign [.Name y _] x _ => decide (N[i]? = some y) && locB sc y && (noLc x || !lcB sc y) && e.chk G N sc x
  | _ => false
theorem sS_set (i : Nat) (e : E) : SndS (cS_set i e) (fun M F => dSet i (e.d F)) := by
    intro C M G F gd k X Wx st Z tk h
    cases st <;> first | (exact absurd h Bool.false_ne_true) | (simp [cS_set] at h; done) | skip
    rename_i tgs v p
    rcases tgs with _ | ⟨t, _ | ⟨t2, tgs⟩⟩ <;> first | (exact absurd h Bool.false_ne_true) | (simp [cS_set] at h; done) | skip
    cases t <;> first | (exact absurd h Bool.false_ne_true) | (simp [cS_set] at h; done) | skip
    simp only [cS_set] at h
    obtain ⟨h, h4⟩ := ba2 h
    obtain ⟨h, h3⟩ := ba2 h
    obtain ⟨h1, h2⟩ := ba2 h
    exact ds_set Z.nd (of_decide_eq_true h1) (locB_ok h2) (.inl (Z.fnA _)) (E.snd e X Wx _ Z.toStat tk h4) (setNo_ok h3)
def S.set (i : Nat) (e : E) : S := ⟨cS_set i e, fun M F => dSet i (e.d F), sS_set i e⟩
@[simp] theorem rdS_set (i : Nat) (e : E) {M : Xm} {F : Fns} : (S.set i e).rd M F = dSet i (e.d F) := rfl
def cS_own (i : Nat) (e : E) (M : Xm) (G : Gm) (N : List Str) (sc : Scope) (x0 : Stmt) : Bool := match x0 with
  | .Assign [.Name y _] x _ => decide (N[i]? = some y) && locB sc y && (noLc x || !lcB sc y) && e.chk G N sc x
  | _ => false
theorem sS_own (i : Nat) (e : E) : SndS (cS_own i e) (fun M F => dOwn i (e.d F)) := by
    intro C M G F gd k X Wx st Z tk h
    cases st <;> first | (exact absurd h Bool.false_ne_true) | (simp [cS_own] at h; done) | skip
    rename_i tgs v p
    rcases tgs with _ | ⟨t, _ | ⟨t2, tgs⟩⟩ <;> first | (exact absurd h Bool.false_ne_true) | (simp [cS_own] at h; done) | skip
    cases t <;> first | (exact absurd h Bool.false_ne_true) | (simp [cS_own] at h; done) | skip
    simp only [cS_own] at h
    obtain ⟨h, h4⟩ := ba2 h
    obtain ⟨h, h3⟩ := ba2 h
    obtain ⟨h1, h2⟩ := ba2 h
    exact ds_own Z.nd (of_decide_eq_true h1) (locB_ok h2) (.inl (Z.fnA _)) (E.snd e X Wx _ Z.toStat tk h4) (setNo_ok h3)
def S.own (i : Nat) (e : E) : S := ⟨cS_own i e, fun M F => dOwn i (e.d F), sS_own i e⟩
@[simp] theorem rdS_own (i : Nat) (e : E) {M : Xm} {F : Fns} : (S.own i e).rd M F = dOwn i (e.d F) := rfl
def cS_ite (c : E) (a : Ss) (b : Ss) (M : Xm) (G : Gm) (N : List Str) (sc : Scope) (x0 : Stmt) : Bool := match x0 with
  | .If t p q _ => c.chk G N sc t && a.chk M G N sc p && b.chk M G N sc q
  | _ => false
theorem sS_ite (c : E) (a : Ss) (b : Ss) : SndS (cS_ite c a b) (fun M F => dIte (c.t F) (a.d M F) (b.d M F)) := by
    intro C M G F gd k X Wx st Z tk h
    cases st <;> first | (exact absurd h Bool.false_ne_true) | (simp [cS_ite] at h; done) | skip
    simp only [cS_ite] at h
    obtain ⟨h, h3⟩ := ba2 h
    obtain ⟨h1, h2⟩ := ba2 h
    exact ds_if (E.sndT c X Wx _ Z.toStat tk h1) (Ss.snd a X Wx _ Z tk h2) (Ss.snd b X Wx _ Z tk h3)
def S.ite (c : E) (a : Ss) (b : Ss) : S := ⟨cS_ite c a b, fun M F => dIte (c.t F) (a.d M F) (b.d M F), sS_ite c a b⟩
@[simp] theorem rdS_ite (c : E) (a : Ss) (b : Ss) {M : Xm} {F : Fns} : (S.ite c a b).rd M F = dIte (c.t F) (a.d M F) (b.d M F) := rfl
def cS_whl (c : E) (a : Ss) (M : Xm) (G : Gm) (N : List Str) (sc : Scope) (x0 : Stmt) : Bool := match x0 with
  | .While t p [] _ => c.chk G N sc t && a.chk M G N sc p
  | _ => false
theorem sS_whl (c : E) (a : Ss) : SndS (cS_whl c a) (fun M F => dWhile (c.t F) (a.d M F)) := by
    intro C M G F gd k X Wx st Z tk h
    cases st <;> first | (exact absurd h Bool.false_ne_true) | (simp [cS_whl] at h; done) | skip
    rename_i t p q pos
    cases q <;> first | (exact absurd h Bool.false_ne_true) | (simp [cS_whl] at h; done) | skip
    simp only [cS_whl] at h
    obtain ⟨h1, h2⟩ := ba2 h
    exact ds_while Z.pass (E.sndT c X Wx _ Z.toStat tk h1) (Ss.snd a X Wx _ Z tk h2)
def S.whl (c : E) (a : Ss) : S := ⟨cS_whl c a, fun M F => dWhile (c.t F) (a.d M F), sS_whl c a⟩
@[simp] theorem rdS_whl (c : E) (a : Ss) {M : Xm} {F : Fns} : (S.whl c a).rd M F = dWhile (c.t F) (a.d M F) := rfl
def cS_for_ (g : Tg) (it : Ic) (a : Ss) (M : Xm) (G : Gm) (N : List Str) (sc : Scope) (x0 : Stmt) : Bool := match x0 with
  | .For t x p [] _ => (!it.needT || tupE t) && it.chk G N sc x && noSet x && g.chk false N sc t && a.chk M G N sc p
  | _ => false
theorem sS_for_ (g : Tg) (it : Ic) (a : Ss) : SndS (cS_for_ g it a) (fun M F => dFor (it.d F) g (a.d M F)) := by
    intro C M G F gd k X Wx st Z tk h
    cases st <;> first | (exact absurd h Bool.false_ne_true) | (simp [cS_for_] at h; done) | skip
    rename_i t x p q pos
    cases q <;> first | (exact absurd h Bool.false_ne_true) | (simp [cS_for_] at h; done) | skip
    simp only [cS_for_] at h
    obtain ⟨h, h4⟩ := ba2 h
    obtain ⟨h, h3⟩ := ba2 h
    obtain ⟨h, h2⟩ := ba2 h
    obtain ⟨h0, h1⟩ := ba2 h
    exact ds_for Z.pass Z.calm (Ic.snd it X Wx _ _ Z.toStat tk h0 h1) (Tg.snd Z.hK Z.calm Z.nd (fun _ => Z.fnA) g _ h3) (Ss.snd a X Wx _ Z tk h4) (noSet_ok h2)
def S.for_ (g : Tg) (it : Ic) (a : Ss) : S := ⟨cS_for_ g it a, fun M F => dFor (it.d F) g (a.d M F), sS_for_ g it a⟩
@[simp] theorem rdS_for_ (g : Tg) (it : Ic) (a : Ss) {M : Xm} {F : Fns} : (S.for_ g it a).rd M F = dFor (it.d F) g (a.d M F) := rfl
def cS_asg (g : Tg) (e : E) (M : Xm) (G : Gm) (N : List Str) (sc : Scope) (x0 : Stmt) : Bool := match x0 with
  | .Assign [t] x _ => noStar t && noLc x && (noTup x || (nswB sc t || fldB x)) && g.chk false N sc t && e.chk G N sc x
  | _ => false
theorem sS_asg (g : Tg) (e : E) : SndS (cS_asg g e) (fun M F => dAsg g (e.d F)) := by
    intro C M G F gd k X Wx st Z tk h
    cases st <;> first | (exact absurd h Bool.false_ne_true) | (simp [cS_asg] at h; done) | skip
    rename_i tgs v p
    rcases tgs with _ | ⟨t, _ | ⟨t2, tgs⟩⟩ <;> first | (exact absurd h Bool.false_ne_true) | (simp [cS_asg] at h; done) | skip
    simp only [cS_asg] at h
    obtain ⟨h, h5⟩ := ba2 h
    obtain ⟨h, h4⟩ := ba2 h
    obtain ⟨h, h3⟩ := ba2 h
    obtain ⟨h1, h2⟩ := ba2 h
    have hw : swappedStores [t] v X.env = pure none := by
      rcases Bool.or_eq_true _ _ |>.mp h3 with h3 | h3
      · exact noTup_ok h3
      · rcases Bool.or_eq_true _ _ |>.mp h3 with h3 | h3
        · exact nsw_ok h3
        · exact fld_ok h3
    exact ds_asg (E.snd e X Wx _ Z.toStat tk h5) (Tg.snd Z.hK Z.calm Z.nd (fun _ => Z.fnA) g _ h4) (noLc_ok h2) hw (by rw [asgE_ok h1]; rfl)
def S.asg (g : Tg) (e : E) : S := ⟨cS_asg g e, fun M F => dAsg g (e.d F), sS_asg g e⟩
@[simp] theorem rdS_asg (g : Tg) (e : E) {M : Xm} {F : Fns} : (S.asg g e).rd M F = dAsg g (e.d F) := rfl
def cS_par2 (_q0 : Bool) (i : Nat) (a : E) (_q3 : Bool) (j : Nat) (b : E) (M : Xm) (G : Gm) (N : List Str) (sc : Scope) (x0 : Stmt) : Bool := match x0 with
  | .Assign [.Tuple [.Name x px, .Name y py] _ _] (.Tuple [l, r] _ _) _ => decide (N[i]? = some x) && decide (N[j]? = some y) && decide (i ≠ j) && decide (x ≠ y) && lcB sc x && lcB sc y && decide (py.line = px.line) && noStar l && noStar r &&
      !([l, r].all (foldedForSure 8)) && !([l, r].all (constantsAlone 8)) && a.chk G N sc l && b.chk G N sc r
  | _ => false
theorem sS_par2 (o1 : Bool) (i : Nat) (a : E) (o2 : Bool) (j : Nat) (b : E) : SndS (cS_par2 o1 i a o2 j b) (fun M F => dPar2 o1 i (a.d F) o2 j (b.d F)) := by
    intro C M G F gd k X Wx st Z tk h
    cases st <;> first | (exact absurd h Bool.false_ne_true) | (simp [cS_par2] at h; done) | skip
    rename_i tgs v p
    rcases tgs with _ | ⟨t, _ | ⟨t2, tgs⟩⟩ <;> first | (exact absurd h Bool.false_ne_true) | (simp [cS_par2] at h; done) | skip
    cases t <;> first | (exact absurd h Bool.false_ne_true) | (simp [cS_par2] at h; done) | skip
    rename_i els kt pt
    rcases els with _ | ⟨e1, _ | ⟨e2, _ | ⟨e3, els⟩⟩⟩ <;> first | (exact absurd h Bool.false_ne_true) | (simp [cS_par2] at h; done) | skip
    cases e1 <;> first | (exact absurd h Bool.false_ne_true) | (simp [cS_par2] at h; done) | skip
    cases e2 <;> first | (exact absurd h Bool.false_ne_true) | (simp [cS_par2] at h; done) | skip
    cases v <;> first | (exact absurd h Bool.false_ne_true) | (simp [cS_par2] at h; done) | skip
    rename_i vs k2 p2
    rcases vs with _ | ⟨v1, _ | ⟨v2, _ | ⟨v3, vs⟩⟩⟩ <;> first | (exact absurd h Bool.false_ne_true) | (simp [cS_par2] at h; done) | skip
    simp only [cS_par2, Bool.and_eq_true, decide_eq_true_eq, Bool.not_eq_true'] at h
    obtain ⟨⟨⟨⟨⟨⟨⟨⟨⟨⟨⟨⟨h1, h2⟩, h3⟩, h4⟩, h5⟩, h6⟩, h7⟩, h8⟩, h9⟩, h10⟩, h11⟩, h12⟩, h13⟩ := h
    exact ds_par2 Z.calm Z.nd h1 h2 h3 (lcB_ok h5) (lcB_ok h6) (E.snd a X Wx _ Z.toStat tk h12) (E.snd b X Wx _ Z.toStat tk h13) h8 h9 (sw2 Z.blk (lcB_ok h5) (lcB_ok h6) h7 h4 h8 h9 h10 h11)
def S.par2 (o1 : Bool) (i : Nat) (a : E) (o2 : Bool) (j : Nat) (b : E) : S := ⟨cS_par2 o1 i a o2 j b, fun M F => dPar2 o1 i (a.d F) o2 j (b.d F), sS_par2 o1 i a o2 j b⟩
@[simp] theorem rdS_par2 (o1 : Bool) (i : Nat) (a : E) (o2 : Bool) (j : Nat) (b : E) {M : Xm} {F : Fns} : (S.par2 o1 i a o2 j b).rd M F = dPar2 o1 i (a.d F) o2 j (b.d F) := rfl
def cS_par3 (_q0 : Bool) (i : Nat) (a : E) (_q3 : Bool) (j : Nat) (b : E) (_q6 : Bool) (l : Nat) (c : E) (M : Xm) (G : Gm) (N : List Str) (sc : Scope) (x0 : Stmt) : Bool := match x0 with
  | .Assign [.Tuple [.Name x px, .Name y py, .Name z pz] _ _] (.Tuple [p, q, r] _ _) _ => decide (N[i]? = some x) && decide (N[j]? = some y) && decide (N[l]? = some z) && decide (i ≠ j) && decide (i ≠ l) && decide (j ≠ l) && decide (x ≠ y) && decide (x ≠ z) && decide (y ≠ z) && lcB sc x && lcB sc y && lcB sc z &&
      decide (py.line = px.line) && decide (pz.line = px.line) && noStar p && noStar q && noStar r && !([p, q, r].all (foldedForSure 8)) && !([p, q, r].all (constantsAlone 8)) && a.chk G N sc p && b.chk G N sc q && c.chk G N sc r
  | _ => false
theorem sS_par3 (o1 : Bool) (i : Nat) (a : E) (o2 : Bool) (j : Nat) (b : E) (o3 : Bool) (l : Nat) (c : E) : SndS (cS_par3 o1 i a o2 j b o3 l c) (fun M F => dPar3 o1 i (a.d F) o2 j (b.d F) o3 l (c.d F)) := by
    intro C M G F gd k X Wx st Z tk h
    cases st <;> first | (exact absurd h Bool.false_ne_true) | (simp [cS_par3] at h; done) | skip
    rename_i tgs v p
    rcases tgs with _ | ⟨t, _ | ⟨t2, tgs⟩⟩ <;> first | (exact absurd h Bool.false_ne_true) | (simp [cS_par3] at h; done) | skip
    cases t <;> first | (exact absurd h Bool.false_ne_true) | (simp [cS_par3] at h; done) | skip
    rename_i els kt pt
    rcases els with _ | ⟨e1, _ | ⟨e2, _ | ⟨e3, _ | ⟨e4, els⟩⟩⟩⟩ <;> first | (exact absurd h Bool.false_ne_true) | (simp [cS_par3] at h; done) | skip
    · cases e1 <;> first | (exact absurd h Bool.false_ne_true) | (simp [cS_par3] at h; done) | skip
      cases e2 <;> first | (exact absurd h Bool.false_ne_true) | (simp [cS_par3] at h; done) | skip
      cases e3 <;> first | (exact absurd h Bool.false_ne_true) | (simp [cS_par3] at h; done) | skip
      cases v <;> first | (exact absurd h Bool.false_ne_true) | (simp [cS_par3] at h; done) | skip
      rename_i vs k2 p2
      rcases vs with _ | ⟨v1, _ | ⟨v2, _ | ⟨v3, _ | ⟨v4, vs⟩⟩⟩⟩ <;> first | (exact absurd h Bool.false_ne_true) | (simp [cS_par3] at h; done) | skip
      simp only [cS_par3, Bool.and_eq_true, decide_eq_true_eq, Bool.not_eq_true'] at h
      obtain ⟨⟨⟨⟨⟨⟨⟨⟨⟨⟨⟨⟨⟨⟨⟨⟨⟨⟨⟨⟨⟨h1, h2⟩, h3⟩, h4⟩, h5⟩, h6⟩, h7⟩, h8⟩, h9⟩, h10⟩, h11⟩, h12⟩, h13⟩, h14⟩, h15⟩, h16⟩, h17⟩, h18⟩, h19⟩, h20⟩, h21⟩, h22⟩ := h
      exact ds_par3 Z.calm Z.nd h1 h2 h3 h4 h5 h6 (lcB_ok h10) (lcB_ok h11) (lcB_ok h12) (E.snd a X Wx _ Z.toStat tk h20) (E.snd b X Wx _ Z.toStat tk h21) (E.snd c X Wx _ Z.toStat tk h22) h15 h16 h17
        (sw3 Z.blk (lcB_ok h10) (lcB_ok h11) (lcB_ok h12) h13 h14 h7 h8 h9 h15 h16 h17 h18 h19)
def S.par3 (o1 : Bool) (i : Nat) (a : E) (o2 : Bool) (j : Nat) (b : E) (o3 : Bool) (l : Nat) (c : E) : S := ⟨cS_par3 o1 i a o2 j b o3 l c, fun M F => dPar3 o1 i (a.d F) o2 j (b.d F) o3 l (c.d F), sS_par3 o1 i a o2 j b o3 l c⟩
@[simp] theorem rdS_par3 (o1 : Bool) (i : Nat) (a : E) (o2 : Bool) (j : Nat) (b : E) (o3 : Bool) (l : Nat) (c : E) {M : Xm} {F : Fns} : (S.par3 o1 i a o2 j b o3 l c).rd M F = dPar3 o1 i (a.d F) o2 j (b.d F) o3 l (c.d F) := rfl
def cS_app (i : Nat) (e : E) (M : Xm) (G : Gm) (N : List Str) (sc : Scope) (x0 : Stmt) : Bool := match x0 with
  | .Expr (.Call (.Attribute (.Name y _) m ap) [x] [] cp) _ => decide (m = "append") && decide (N[i]? = some y) && visB sc y && okN y && noStar x && (ap.endLine == cp.line) && e.chk G N sc x
  | _ => false
theorem sS_app (i : Nat) (e : E) : SndS (cS_app i e) (fun M F => dApp i (e.d F)) := by
    intro C M G F gd k X Wx st Z tk h
    cases st <;> first | (exact absurd h Bool.false_ne_true) | (simp [cS_app] at h; done) | skip
    rename_i v p
    cases v <;> first | (exact absurd h Bool.false_ne_true) | (simp [cS_app] at h; done) | skip
    rename_i fn args kws cp
    cases fn <;> first | (exact absurd h Bool.false_ne_true) | (simp [cS_app] at h; done) | skip
    rename_i o mname ap
    cases o <;> first | (exact absurd h Bool.false_ne_true) | (simp [cS_app] at h; done) | skip
    rcases args with _ | ⟨x, _ | ⟨x2, xs⟩⟩ <;> first | (exact absurd h Bool.false_ne_true) | (simp [cS_app] at h; done) | skip
    rcases kws with _ | ⟨kw, kws⟩ <;> first | (exact absurd h Bool.false_ne_true) | (simp [cS_app] at h; done) | skip
    simp only [cS_app, Bool.and_eq_true, decide_eq_true_eq] at h
    obtain ⟨⟨⟨⟨⟨⟨rfl, h2⟩, h3⟩, h4⟩, h5⟩, h6⟩, h7⟩ := h
    exact ds_app Z.hK h2 (visB_ok h3) (okN_ok h4).1 (okN_ok h4).2.1 (E.snd e X Wx _ Z.toStat tk h7) (star_ok h5) h6 (one_form h5) rfl rfl
def S.app (i : Nat) (e : E) : S := ⟨cS_app i e, fun M F => dApp i (e.d F), sS_app i e⟩
@[simp] theorem rdS_app (i : Nat) (e : E) {M : Xm} {F : Fns} : (S.app i e).rd M F = dApp i (e.d F) := rfl
def cS_six (i : Nat) (j : E) (e : E) (M : Xm) (G : Gm) (N : List Str) (sc : Scope) (x0 : Stmt) : Bool := match x0 with
  | .Assign [.Subscript (.Name y _) s _] x _ => decide (N[i]? = some y) && visB sc y && okN y && noSlice s && noLc x && true && j.chk G N sc s && e.chk G N sc x
  | _ => false
theorem sS_six (i : Nat) (j : E) (e : E) : SndS (cS_six i j e) (fun M F => dSix i (j.d F) (e.d F)) := by
    intro C M G F gd k X Wx st Z tk h
    cases st <;> first | (exact absurd h Bool.false_ne_true) | (simp [cS_six] at h; done) | skip
    rename_i tgs v p
    rcases tgs with _ | ⟨t, _ | ⟨t2, tgs⟩⟩ <;> first | (exact absurd h Bool.false_ne_true) | (simp [cS_six] at h; done) | skip
    cases t <;> first | (exact absurd h Bool.false_ne_true) | (simp [cS_six] at h; done) | skip
    rename_i o sl tp
    cases o <;> first | (exact absurd h Bool.false_ne_true) | (simp [cS_six] at h; done) | skip
    simp only [cS_six, Bool.and_eq_true, decide_eq_true_eq] at h
    obtain ⟨⟨⟨⟨⟨⟨⟨h1, h2⟩, h3⟩, h4⟩, h5⟩, h6⟩, h7⟩, h8⟩ := h
    exact ds_six h1 (visB_ok h2) (okN_ok h3).1 (okN_ok h3).2.1 (E.snd e X Wx _ Z.toStat tk h8) (E.snd j X Wx _ Z.toStat tk h7) (asg_sub h4) (sole_ok h5) swap_sub rfl
def S.six (i : Nat) (j : E) (e : E) : S := ⟨cS_six i j e, fun M F => dSix i (j.d F) (e.d F), sS_six i j e⟩
@[simp] theorem rdS_six (i : Nat) (j : E) (e : E) {M : Xm} {F : Fns} : (S.six i j e).rd M F = dSix i (j.d F) (e.d F) := rfl
def cS_setLc (_q0 : Bool) (i : Nat) (g : Tg) (src : Ic) (test : Oe) (elt : E) (own : List (Str × Nat)) (M : Xm) (G : Gm) (N : List Str) (sc : Scope) (x0 : Stmt) : Bool := match x0 with
  | .Assign [.Name y py] (.ListComp l [⟨t, it, ifs, as⟩] scope pos) _ => decide (as = 0) && decide (N[i]? = some y) && lcB sc y && (py.line == pos.line) && !(scope.names.any fun (n, k) => n == y && (k == .local || k == .cell)) && (!src.needT || tupE t) && src.chk G N sc it && noSet it && blkC N sc scope own &&
      g.chk true N (relS scope sc) t && test.chkT G.q N (relS scope sc) ifs && elt.chk G.q N (relS scope sc) l && (g.slots.all fun i => decide (i ∈ own.map (·.2)))
  | _ => false
theorem sS_setLc (o : Bool) (i : Nat) (g : Tg) (src : Ic) (test : Oe) (elt : E) (own : List (Str × Nat)) : SndS (cS_setLc o i g src test elt own) (fun M F => if o = true then dOwn i (dLc (src.d F) g (test.t F.q) (elt.d F.q) (own.map (·.2))) else dSet i (dLc (src.d F) g (test.t F.q) (elt.d F.q) (own.map (·.2)))) := by
    intro C M G F gd k X Wx st Z tk h
    cases st <;> first | (exact absurd h Bool.false_ne_true) | (simp [cS_setLc] at h; done) | skip
    rename_i tgs v p
    rcases tgs with _ | ⟨t, _ | ⟨t2, tgs⟩⟩ <;> first | (exact absurd h Bool.false_ne_true) | (simp [cS_setLc] at h; done) | skip
    cases t <;> first | (exact absurd h Bool.false_ne_true) | (simp [cS_setLc] at h; done) | skip
    rename_i y py
    cases v <;> first | (exact absurd h Bool.false_ne_true) | (simp [cS_setLc] at h; done) | skip
    rename_i l gs scope vp
    rcases gs with _ | ⟨⟨t, it, ifs, as⟩, _ | ⟨g2, gs⟩⟩ <;> first | (exact absurd h Bool.false_ne_true) | (simp [cS_setLc] at h; done) | skip
    simp only [cS_setLc] at h
    obtain ⟨h, g1⟩ := ba2 h
    obtain ⟨h, g2⟩ := ba2 h
    obtain ⟨h, g3⟩ := ba2 h
    obtain ⟨h, g4⟩ := ba2 h
    obtain ⟨h, g5⟩ := ba2 h
    obtain ⟨h, g6⟩ := ba2 h
    obtain ⟨h, g7⟩ := ba2 h
    obtain ⟨h, g12⟩ := ba2 h
    obtain ⟨h, g8⟩ := ba2 h
    obtain ⟨h, g9⟩ := ba2 h
    obtain ⟨h, g10⟩ := ba2 h
    obtain ⟨h, g11⟩ := ba2 h
    cases of_decide_eq_true h
    have hsw : swapsWith (.ListComp l [⟨t, it, ifs, 0⟩] scope vp) (some (.Name y py)) p.line X.env = pure true := by
      have hk : X.env.kindOf y = some .local := lcB_ok g10
      show (pure (X.env.blockKind == .function && X.env.kindOf y == some .local && py.line == vp.line && !(scope.names.any fun (n, k) => n == y && (k == .local || k == .cell))) : Sem Bool) = pure true
      rw [Z.blk, hk, g9, g8]
      rfl
    exact ds_setLc (own? := o) Z.calm Z.nd (of_decide_eq_true g11) (lcB_ok g10) hsw (Ic.snd src X Wx t it Z.toStat tk g12 g7) (blkOk_by g5)
      (fun s H A cl fp => Tg.snd (loc := true) (X := X.blk s H scope (compEnvC scope cl A X.env) fp) Z.hK Z.calm Z.nd (fun z => Bool.noConfusion z) g t g4)
      (fun s H A cl fp => Oe.sndT test _ ifs (Z.toStat.blk s H scope (compEnvC scope cl A X.env) fp) takesN g3)
      (fun s H A cl fp => E.snd elt _ noW l (Z.toStat.blk s H scope (compEnvC scope cl A X.env) fp) takesN g2) (fun i hi => of_decide_eq_true (List.all_eq_true.mp g1 i hi)) (noSet_ok g6)
def S.setLc (o : Bool) (i : Nat) (g : Tg) (src : Ic) (test : Oe) (elt : E) (own : List (Str × Nat)) : S := ⟨cS_setLc o i g src test elt own, fun M F => if o = true then dOwn i (dLc (src.d F) g (test.t F.q) (elt.d F.q) (own.map (·.2))) else dSet i (dLc (src.d F) g (test.t F.q) (elt.d F.q) (own.map (·.2))), sS_setLc o i g src test elt own⟩
@[simp] theorem rdS_setLc (o : Bool) (i : Nat) (g : Tg) (src : Ic) (test : Oe) (elt : E) (own : List (Str × Nat)) {M : Xm} {F : Fns} : (S.setLc o i g src test elt own).rd M F = if o = true then dOwn i (dLc (src.d F) g (test.t F.q) (elt.d F.q) (own.map (·.2))) else dSet i (dLc (src.d F) g (test.t F.q) (elt.d F.q) (own.map (·.2))) := rfl
def cS_aug (i : Nat) (e : E) (M : Xm) (G : Gm) (N : List Str) (sc : Scope) (x0 : Stmt) : Bool := match x0 with
  | .AugAssign (.Name y _) op x _ => decide (op = .Add) && decide (N[i]? = some y) && locB sc y && e.chk G N sc x
  | _ => false
theorem sS_aug (i : Nat) (e : E) : SndS (cS_aug i e) (fun M F => dAug i (e.d F)) := by
    intro C M G F gd k X Wx st Z tk h
    cases st <;> first | (exact absurd h Bool.false_ne_true) | (simp [cS_aug] at h; done) | skip
    rename_i t op v p
    cases t <;> first | (exact absurd h Bool.false_ne_true) | (simp [cS_aug] at h; done) | skip
    simp only [cS_aug, Bool.and_eq_true, decide_eq_true_eq] at h
    obtain ⟨⟨⟨rfl, h2⟩, h3⟩, h4⟩ := h
    exact ds_aug Z.nd h2 (locB_ok h3) (.inl (Z.fnA _)) (E.snd e X Wx _ Z.toStat tk h4)
def S.aug (i : Nat) (e : E) : S := ⟨cS_aug i e, fun M F => dAug i (e.d F), sS_aug i e⟩
@[simp] theorem rdS_aug (i : Nat) (e : E) {M : Xm} {F : Fns} : (S.aug i e).rd M F = dAug i (e.d F) := rfl
def cS_ext (i : Nat) (e : E) (M : Xm) (G : Gm) (N : List Str) (sc : Scope) (x0 : Stmt) : Bool := match x0 with
  | .Expr (.Call (.Attribute (.Name y _) m ap) [x] [] cp) _ => decide (m = "extend") && decide (N[i]? = some y) && visB sc y && okN y && noStar x && (ap.endLine == cp.line) && e.chk G N sc x
  | _ => false
theorem sS_ext (i : Nat) (e : E) : SndS (cS_ext i e) (fun M F => dExt i (e.d F)) := by
    intro C M G F gd k X Wx st Z tk h
    cases st <;> first | (exact absurd h Bool.false_ne_true) | (simp [cS_ext] at h; done) | skip
    rename_i v p
    cases v <;> first | (exact absurd h Bool.false_ne_true) | (simp [cS_ext] at h; done) | skip
    rename_i fn args kws cp
    cases fn <;> first | (exact absurd h Bool.false_ne_true) | (simp [cS_ext] at h; done) | skip
    rename_i o mname ap
    cases o <;> first | (exact absurd h Bool.false_ne_true) | (simp [cS_ext] at h; done) | skip
    rcases args with _ | ⟨x, _ | ⟨x2, xs⟩⟩ <;> first | (exact absurd h Bool.false_ne_true) | (simp [cS_ext] at h; done) | skip
    rcases kws with _ | ⟨kw, kws⟩ <;> first | (exact absurd h Bool.false_ne_true) | (simp [cS_ext] at h; done) | skip
    simp only [cS_ext, Bool.and_eq_true, decide_eq_true_eq] at h
    obtain ⟨⟨⟨⟨⟨⟨rfl, h2⟩, h3⟩, h4⟩, h5⟩, h6⟩, h7⟩ := h
    exact ds_ext h2 (visB_ok h3) (okN_ok h4).1 (okN_ok h4).2.1 (E.snd e X Wx _ Z.toStat tk h7) (star_ok h5) h6 (one_form h5) rfl rfl
def S.ext (i : Nat) (e : E) : S := ⟨cS_ext i e, fun M F => dExt i (e.d F), sS_ext i e⟩
@[simp] theorem rdS_ext (i : Nat) (e : E) {M : Xm} {F : Fns} : (S.ext i e).rd M F = dExt i (e.d F) := rfl
def cS_dput (o : E) (j : E) (e : E) (M : Xm) (G : Gm) (N : List Str) (sc : Scope) (x0 : Stmt) : Bool := match x0 with
  | .Assign [.Subscript y s _] x _ => noLc x && o.chk G N sc y && j.chk G N sc s && e.chk G N sc x
  | _ => false
theorem sS_dput (o : E) (j : E) (e : E) : SndS (cS_dput o j e) (fun M F => dDput (o.d F) (j.d F) (e.d F)) := by
    intro C M G F gd k X Wx st Z tk h
    cases st <;> first | (exact absurd h Bool.false_ne_true) | (simp [cS_dput] at h; done) | skip
    rename_i tgs v p
    rcases tgs with _ | ⟨t, _ | ⟨t2, tgs⟩⟩ <;> first | (exact absurd h Bool.false_ne_true) | (simp [cS_dput] at h; done) | skip
    cases t <;> first | (exact absurd h Bool.false_ne_true) | (simp [cS_dput] at h; done) | skip
    have h' := h
    simp only [cS_dput] at h'
    obtain ⟨h', h4⟩ := ba2 h'
    obtain ⟨h', h3⟩ := ba2 h'
    obtain ⟨h1, h2⟩ := ba2 h'
    exact ds_dput (Nat.lt_of_le_of_lt (by omega) Z.units) (E.snd e X Wx _ Z.toStat tk h4) (E.snd o X Wx _ Z.toStat tk h2) (E.snd j X Wx _ Z.toStat tk h3) (noLc_ok h1)
def S.dput (o : E) (j : E) (e : E) : S := ⟨cS_dput o j e, fun M F => dDput (o.d F) (j.d F) (e.d F), sS_dput o j e⟩
@[simp] theorem rdS_dput (o : E) (j : E) (e : E) {M : Xm} {F : Fns} : (S.dput o j e).rd M F = dDput (o.d F) (j.d F) (e.d F) := rfl
def cS_tryM (hl : List Hd1) (a : Ss) (M : Xm) (G : Gm) (N : List Str) (sc : Scope) (x0 : Stmt) : Bool := match x0 with
  | .Try body (h₀ :: hds) [] [] _ => hdsB M N sc hl (h₀ :: hds) && a.chk M G N sc body
  | _ => false
theorem sS_tryM (hl : List Hd1) (a : Ss) : SndS (cS_tryM hl a) (fun M F => dTryM M hl (a.d M F)) := by
    intro C M G F gd k X Wx st Z tk h
    cases st <;> first | (exact absurd h Bool.false_ne_true) | (simp [cS_tryM] at h; done) | skip
    rename_i body hs els fin p
    rcases hs with _ | ⟨h0, hs⟩ <;> first | (exact absurd h Bool.false_ne_true) | (simp [cS_tryM] at h; done) | skip
    rcases els with _ | ⟨e1, els⟩ <;> first | (exact absurd h Bool.false_ne_true) | (simp [cS_tryM] at h; done) | skip
    rcases fin with _ | ⟨e1, fin⟩ <;> first | (exact absurd h Bool.false_ne_true) | (simp [cS_tryM] at h; done) | skip
    have h' : (hdsB M X.N X.env.scope hl (h0 :: hs) && a.chk M G X.N X.env.scope body) = true := by
      simp only [cS_tryM] at h
      exact h
    obtain ⟨h1, h2⟩ := ba2 h'
    cases hl with
    | nil => simp [hdsB] at h1
    | cons y0 hl =>
      obtain ⟨hx, hc⟩ := hds_ok Z.xm Z.hK Z.nd Z.blk Z.xmg h1
      exact ds_tryM Z.xm Z.hK Z.stk Z.frm Z.nd tk hx hc (fun W pn xe tk' hp => Ss.snd a (X.tr pn xe) W body (Z.tr hp) tk' h2)
def S.tryM (hl : List Hd1) (a : Ss) : S := ⟨cS_tryM hl a, fun M F => dTryM M hl (a.d M F), sS_tryM hl a⟩
@[simp] theorem rdS_tryM (hl : List Hd1) (a : Ss) {M : Xm} {F : Fns} : (S.tryM hl a).rd M F = dTryM M hl (a.d M F) := rfl
def cS_raise (c : Nat) (m1 : Es) (M : Xm) (G : Gm) (N : List Str) (sc : Scope) (x0 : Stmt) : Bool := match m1, x0 with
  | .cons a es, .Raise (some (.Call (.Name x _) (l :: ls) [] _)) none _ => xnB M sc c x && M.rs c && noStar l && a.chk G N sc l && es.chk G N sc ls
  | _, _ => false
theorem sS_raise (c : Nat) (es : Es) : SndS (cS_raise c es) (fun M F => dRaise c (M.flds c) (es.d F)) := by
    intro C M G F gd k X Wx st Z tk h
    cases es with
    | nil => cases st <;> exact absurd h Bool.false_ne_true
    | cons a es =>
    cases st <;> first | (exact absurd h Bool.false_ne_true) | (simp [cS_raise] at h; done) | skip
    rename_i v cause p
    cases v <;> first | (exact absurd h Bool.false_ne_true) | (simp [cS_raise] at h; done) | skip
    rename_i v
    cases cause <;> first | (exact absurd h Bool.false_ne_true) | (simp [cS_raise] at h; done) | skip
    · cases v <;> first | (exact absurd h Bool.false_ne_true) | (simp [cS_raise] at h; done) | skip
      rename_i fn args kws cp
      cases fn <;> first | (exact absurd h Bool.false_ne_true) | (simp [cS_raise] at h; done) | skip
      rcases args with _ | ⟨x, xs⟩ <;> first | (exact absurd h Bool.false_ne_true) | (simp [cS_raise] at h; done) | skip
      rcases kws with _ | ⟨kw, kws⟩ <;> first | (exact absurd h Bool.false_ne_true) | (simp [cS_raise] at h; done) | skip
      simp only [cS_raise, Bool.and_eq_true] at h
      obtain ⟨⟨⟨⟨h1, h2⟩, h3⟩, h4⟩, h5⟩ := h
      obtain ⟨a1, a2, a3, a4⟩ := xnB_ok h1
      obtain ⟨⟨fI, zi⟩, hfl⟩ := Z.xmk c _ a1 h2
      exact ds_raise Z.calm tk (mkx_of zi (L2H.roomH_of (Z.room.mono Z.k1)) a3 (Z.xmg c _ a1) (okN_ok a4).1 hfl) (da_cons (E.snd a X Wx _ Z.toStat tk h4) (Es.snd es X Wx _ Z.toStat tk h5) (star_ok h3)) (star_ok h3) (any_ok h5)
def S.raise (c : Nat) (es : Es) : S := ⟨cS_raise c es, fun M F => dRaise c (M.flds c) (es.d F), sS_raise c es⟩
@[simp] theorem rdS_raise (c : Nat) (es : Es) {M : Xm} {F : Fns} : (S.raise c es).rd M F = dRaise c (M.flds c) (es.d F) := rfl
def cS_frz (_q0 : Nat) (s : S) (M : Xm) (G : Gm) (N : List Str) (sc : Scope) (x0 : Stmt) : Bool := match x0 with
  | st => s.chk M G N sc st
theorem sS_frz (i : Nat) (s : S) : SndS (cS_frz i s) (fun M F => dFrz i (s.d M F)) := by
    intro C M G F gd k X Wx st Z tk h
    refine ds_frz (S.snd s X Wx st Z tk ?_)
    simp only [cS_frz] at h
    exact h
def S.frz (i : Nat) (s : S) : S := ⟨cS_frz i s, fun M F => dFrz i (s.d M F), sS_frz i s⟩
@[simp] theorem rdS_frz (i : Nat) (s : S) {M : Xm} {F : Fns} : (S.frz i s).rd M F = dFrz i (s.d M F) := rfl
def cS_fzd (_q0 : Nat) (s : S) (M : Xm) (G : Gm) (N : List Str) (sc : Scope) (x0 : Stmt) : Bool := match x0 with
  | st => s.chk M G N sc st
theorem sS_fzd (i : Nat) (s : S) : SndS (cS_fzd i s) (fun M F => dFzd i (s.d M F)) := by
    intro C M G F gd k X Wx st Z tk h
    refine ds_fzd (S.snd s X Wx st Z tk ?_)
    simp only [cS_fzd] at h
    exact h
def S.fzd (i : Nat) (s : S) : S := ⟨cS_fzd i s, fun M F => dFzd i (s.d M F), sS_fzd i s⟩
@[simp] theorem rdS_fzd (i : Nat) (s : S) {M : Xm} {F : Fns} : (S.fzd i s).rd M F = dFzd i (s.d M F) := rfl
end DL
set_option maxHeartbeats 4000000
namespace DL
open PySem PySem.Spec PyProof.Rows L2
section
variable {X : Cx} {C : Cn} {Wx : WX}
end
end DL
set_option maxHeartbeats 8000000
namespace DL
open PySem PySem.Spec PyProof.Rows L2
section
variable {X : Cx} {C : Cn} {Wx : WX} {M : Xm}
open Classical in
end
end DL
set_option maxHeartbeats 4000000
namespace DL
open PySem PySem.Spec PyProof.Rows L2
section
variable {X : Cx} {C : Cn} {Wx : WX}
def Rg.shr (R : Rg) (a : Addr) : Rg := ⟨R.n + 1, fun i => if i = R.n then a else R.at_ i, R.fz⟩
theorem Rg.shr_lt {R : Rg} {a : Addr} {i : Nat} (h : i < R.n) : (R.shr a).at_ i = R.at_ i := if_neg (Nat.ne_of_lt h)
theorem Rg.shr_n {R : Rg} {a : Addr} : (R.shr a).at_ R.n = a := if_pos rfl
theorem Mo.shr {K : Fg} {R : Rg} {H : Hp} {a : Addr} : Mo K R H (R.shr a) H := ⟨Nat.le_succ _, fun _ hi => Rg.shr_lt hi, fun _ _ r => r, fun _ _ r => r, fun _ _ r => r, fun _ _ _ r => r⟩
theorem Env.shr {R : Rg} {ds : DSt} {σ : Sl} {H : Hp} {h : Hs} {xs : List D} {i : Nat} (e : Env C R ds σ H h) (hi : ds[i]? = some (some (.own xs))) :
    ∃ R', Env C R' (ds.set i (some (.d (.ref h.length)))) σ H (h ++ [.lst xs]) ∧ Mo C.K R H R' H := by
  obtain ⟨v, s1, a, vs, ev, q, nf, o, t⟩ := e.slot i _ hi
  subst ev
  have hl : i < ds.length := (List.getElem?_eq_some_iff.mp hi).1
  have h0 := e.own0 i xs a hi s1
  have m : Mo C.K R H (R.shr a) H := Mo.shr
  have hn := e.ok.len
  have ok : HOk' C.K C.Cl (R.shr a) H (h ++ [.lst xs]) := by
    refine ⟨by show (h ++ [O.lst xs]).length = R.n + 1; simp [hn], fun j o' hj => ?_, fun j k hj hk z => ?_, fun j hj z => ?_, e.ok.fzd, e.ok.tab⟩
    · by_cases hjl : j < h.length
      · rw [List.getElem?_append_left hjl] at hj
        obtain ⟨u, e1, r⟩ := e.ok.obj j o' hj
        exact ⟨u, by rw [Rg.shr_lt (by omega)]; exact e1, relO_mo m r⟩
      · have hb : j < (h ++ [O.lst xs]).length := (List.getElem?_eq_some_iff.mp hj).1
        have ej : j = h.length := by simp at hb; omega
        subst ej
        simp at hj
        subst hj
        refine ⟨.lst vs, by rw [hn, Rg.shr_n]; exact q, vs, rfl, relDs_mo m t⟩
    · have hj' : j < R.n + 1 := hj
      have hk' : k < R.n + 1 := hk
      by_cases ej : j = R.n
      · by_cases ek : k = R.n
        · omega
        · subst ej
          rw [Rg.shr_n, Rg.shr_lt (by omega)] at z
          exact absurd z.symm (o k (by omega))
      · by_cases ek : k = R.n
        · subst ek
          rw [Rg.shr_n, Rg.shr_lt (by omega)] at z
          exact absurd z (o j (by omega))
        · rw [Rg.shr_lt (by omega), Rg.shr_lt (by omega)] at z
          exact e.ok.inj j k (by omega) (by omega) z
    · have hj' : j < R.n + 1 := hj
      by_cases ej : j = R.n
      · subst ej
        rw [Rg.shr_n] at z
        exact nf z
      · rw [Rg.shr_lt (by omega)] at z
        exact e.ok.nfz j (by omega) z
  have ex : Ex C.R₀ C.H₀ (R.shr a) H := by
    refine ⟨Nat.le_trans e.ex.le (Nat.le_succ _), fun j hj => ?_, e.ex.fz, fun j hj hj2 => ?_, e.ex.nfz, e.ex.frm, e.ex.dom, e.ex.lk⟩
    · rw [Rg.shr_lt (Nat.lt_of_lt_of_le hj e.ex.le)]
      exact e.ex.at_ j hj
    · have hj2 : j < R.n + 1 := hj2
      by_cases ej : j = R.n
      · subst ej
        rw [Rg.shr_n]
        exact h0
      · rw [Rg.shr_lt (by omega)]
        exact e.ex.nat j hj (by omega)
  refine ⟨R.shr a, ⟨ok, ex, by simp [e.len], fun j w q1 => ?_, fun j zs q1 => ?_, fun j k zs ws b q1 t1 q2 t2 => ?_, fun j zs b q1 t1 => ?_⟩, m⟩
  · by_cases hj : j = i
    · subst hj
      rw [List.getElem?_set_self hl] at q1
      cases q1
      refine ⟨.ref a, s1, ?_⟩
      show RelD C.K (R.shr a) H (.ref h.length) (.ref a)
      unfold RelD
      exact ⟨by show h.length < R.n + 1; omega, by rw [hn, Rg.shr_n]⟩
    · rw [List.getElem?_set_ne (Ne.symm hj)] at q1
      obtain ⟨v2, s2, r2⟩ := e.slot j w q1
      refine ⟨v2, s2, ?_⟩
      cases w with
      | d y => exact relD_mo m r2
      | new zs => exact absurd q1 (e.nnew j zs)
      | fn _ => exact r2
      | own zs =>
        obtain ⟨b, ws, ev2, q2, nf2, o2, t2⟩ := r2
        subst ev2
        refine ⟨b, ws, rfl, q2, nf2, fun k hk z => ?_, relDs_mo m t2⟩
        have hk : k < R.n + 1 := hk
        by_cases ek : k = R.n
        · subst ek
          rw [Rg.shr_n] at z
          subst z
          exact hj (e.own j i zs xs a q1 s2 hi s1)
        · rw [Rg.shr_lt (by omega)] at z
          exact o2 k (by omega) z
  · by_cases hj : j = i
    · subst hj; rw [List.getElem?_set_self hl] at q1; cases q1
    · rw [List.getElem?_set_ne (Ne.symm hj)] at q1; exact e.nnew j zs q1
  · by_cases hj : j = i
    · subst hj; rw [List.getElem?_set_self hl] at q1; cases q1
    by_cases hk : k = i
    · subst hk; rw [List.getElem?_set_self hl] at q2; cases q2
    rw [List.getElem?_set_ne (Ne.symm hj)] at q1
    rw [List.getElem?_set_ne (Ne.symm hk)] at q2
    exact e.own j k zs ws b q1 t1 q2 t2
  · by_cases hj : j = i
    · subst hj; rw [List.getElem?_set_self hl] at q1; cases q1
    · rw [List.getElem?_set_ne (Ne.symm hj)] at q1; exact e.own0 j zs b q1 t1
/-- an own list becomes a shared object, ahead of a statement -/
def dShr (i : Nat) (t : TDS) : TDS := fun ds h P => ∃ xs, ds[i]? = some (some (.own xs)) ∧ t (ds.set i (some (.d (.ref h.length)))) (h ++ [.lst xs]) P
theorem ds_shr {i : Nat} {st : Stmt} {t : TDS} (hs : PS X st (liftS C Wx t)) : PS X st (liftS C Wx (dShr i t)) := hs.imD fun D σ H q => by
  obtain ⟨R, ds, h, P, e, ⟨xs, hi, p⟩, k⟩ := q
  obtain ⟨R', e', m⟩ := e.shr hi
  exact ⟨R', _, _, P, e', p, k.later m⟩
end
def cS_shr (_q0 : Nat) (s : S) (M : Xm) (G : Gm) (N : List Str) (sc : Scope) (x0 : Stmt) : Bool := match x0 with
  | st => s.chk M G N sc st
theorem sS_shr (i : Nat) (s : S) : SndS (cS_shr i s) (fun M F => dShr i (s.d M F)) := by
    intro C M G F gd k X Wx st Z tk h
    refine ds_shr (S.snd s X Wx st Z tk ?_)
    simp only [cS_shr] at h
    exact h
def S.shr (i : Nat) (s : S) : S := ⟨cS_shr i s, fun M F => dShr i (s.d M F), sS_shr i s⟩
@[simp] theorem rdS_shr (i : Nat) (s : S) {M : Xm} {F : Fns} : (S.shr i s).rd M F = dShr i (s.d M F) := rfl
section
variable {X : Cx} {C : Cn} {Wx : WX}
end
end DL
set_option maxHeartbeats 4000000
namespace DL
open PySem PySem.Spec PyProof.Rows L2
section
variable {X : Cx} {C : Cn} {Wx : WX}
end
end DL
set_option maxHeartbeats 4000000
namespace L2
open PySem PySem.Spec PyProof.Rows
def mergeT (acc : List (List Key × V)) (kvs : List (List Key × V)) : List (List Key × V) := kvs.foldl (fun acc p => putK acc p.1 p.2) acc
section
variable {X : Cx}
theorem KT.all {H : Hp} : ∀ {kvs : List (List Key × V)} {xs : List (List Key × Addr × Value)} {acc : List (List Key × V)} {acs : List (List Key × Addr × Value)}, KT H kvs xs → KT H acc acs → KT H (mergeT acc kvs) (storedAllH acs xs)
  | _, _, _, _, .nil, r => r
  | _, _, acc, acs, .cons (a := p) (b := q) h t, r => by
    obtain ⟨e, hb, rv⟩ := h
    have := KT.all t (r.put p.1 hb rv)
    show KT H (mergeT (putK acc p.1 p.2) _) (storedAllH (storedH acs q.1 q.2.1 q.2.2) _)
    rw [← e]
    exact this
end
end L2
namespace DL
open PySem PySem.Spec PyProof.Rows L2
section
variable {K : Fg} {R : Rg} {H : Hp}
end
section
variable {X : Cx} {C : Cn} {Wx : WX}
end
end DL
set_option maxHeartbeats 4000000
namespace DL
open PySem PySem.Spec PyProof.Rows L2
section
variable {X : Cx} {C : Cn} {Wx : WX}
/-- a.split(b) -/
def dSpl (ta tb : TDE) : TDE := fun ds h P Z => ta ds h (fun x h1 => (∃ a, x = .d (.str a)) ∧ tb ds h1 (fun y h2 => ∃ a b, x = .d (.str a) ∧ y = .d (.str b) ∧ (b.length == 0) = false ∧ a.length + 2 ≤ sizeLine ∧ P (.new ((Txt.split a b).map D.str)) h2) Z) Z
theorem de_spl {o b : Expr} {ta tb : TDE} {apos pos : Pos} (ha : PE X o (lift C Wx ta)) (hb : PE X b (lift C Wx tb)) (hs : starEach [b] X.env = [(false, eval b X.env)]) (hbase : attributeBase o "split" X.env (eval o X.env) = eval o X.env) (hline : (apos.endLine == pos.line) = true) :
    PE X (.Call (.Attribute o "split" apos) [b] [] pos) (lift C Wx (dSpl ta tb)) :=
  (pe_split ha hb hs hbase hline).imD fun σ H Q q => by
    obtain ⟨R, ds, h, P, Z, e, p, kk, z⟩ := q
    refine ⟨R, ds, h, _, Z, e, p, fun R1 H1 h1 w1 v1 ⟨⟨a, ex⟩, p1⟩ x1 e1 r1 => ?_, z⟩
    subst ex
    cases rw_str r1
    refine ⟨⟨_, rfl⟩, R1, ds, h1, _, Z, e1, p1, fun R2 H2 h2 w2 v2 ⟨a', y, ea, ey, b1, b2, p2⟩ x2 e2 r2 => ?_, fun R' H' h' x cls dd a b c d => z R' H' h' x cls dd a (x1.trans b) c d⟩
    cases ea
    subst ey
    cases rw_str r2
    exact ⟨_, _, rfl, rfl, b1, b2, fun l nl => kk R2 _ h2 _ _ p2 ((x1.trans x2).trans (Ex.fresh nl)) (e2.fresh nl) (m_new e2 (x1.trans x2) nl (relDs_mkstrs id _))⟩
/-- x.insert(a, b) as a statement, x an own list -/
def dIns (i : Nat) (ta tb : TDE) : TDS := fun ds h P => ∃ xs, ds[i]? = some (some (.own xs)) ∧ xs.length < sizeLine ∧ dD ta ds h (fun w h1 => ∃ k : Nat, w = .int k ∧ (k : Int) < 2 ^ 63 ∧ dD tb ds h1 (fun d h2 => P.nx (ds.set i (some (.own (xs.take k ++ [d] ++ xs.drop k)))) h2) (fun x h' => P.ex x ds h')) (fun x h' => P.ex x ds h')
theorem ds_ins {i : Nat} {x : Str} {e f : Expr} {t u : TDE} {p1 apos cpos pos : Pos} (hN : X.N[i]? = some x) (hv : Vis X.env.scope x) (hd : (x == ("__debug__" : Str)) = false) (hcd : (x == ("__classdict__" : Str)) = false) (he : PE X e (lift C Wx t)) (hf : PE X f (lift C Wx u))
    (hs : starEach (e :: [f]) X.env = (false, eval e X.env) :: starEach [f] X.env) (hs2 : starEach [f] X.env = (false, eval f X.env) :: starEach [] X.env) (hline : (apos.endLine == cpos.line) = true) (hpl : (((backTo cpos (starEach (e :: [f]) X.env)).all (fun x => !x.1) && (backToKw cpos (keywordEach [] X.env)).all fun x => x.1.isSome) && decide (((e :: [f]).length + ([] : List Keyword).length + if ([] : List Keyword).isEmpty = true then 0 else 1) < 30)) = true)
    (hpl2 : (backTo cpos (starEach [f] X.env)).any (·.1) = false)
    (hb : attributeBase (.Name x p1) "insert" X.env (eval (.Name x p1) X.env) = eval (.Name x p1) X.env)
    (hsw : swapsWith (.Call (.Attribute (.Name x p1) "insert" apos) [e, f] [] cpos) none pos.line X.env = pure false) :
    PS X (.Expr (.Call (.Attribute (.Name x p1) "insert" apos) [e, f] [] cpos) pos) (liftS C Wx (dIns i t u)) :=
  (ps_expr (pe_bm PySem.F.plainAttrs_list PySem.F.slot_list_insert PySem.F.type_list_insert mt_insert (pe_var hN hv hd hcd) (pa_cons (pe_D he) (pa_cons (pe_D hf) pa_nil hs2) hs) hb hpl hline hs hpl2) hsw).imD fun D σ H q => by
    obtain ⟨R, ds, h, P, e, ⟨xs, hi, hl, p⟩, k⟩ := q
    obtain ⟨v, hv, a, vs, rfl, q, nf, o, tt⟩ := e.slot i _ hi
    refine ⟨.ref a, hv, .inl ⟨rfl, vs, .inl (.inl q)⟩, R, ds, h, _, _, e, p, fun R1 H1 h1 w u ⟨n, hw, hn, p'⟩ x1 e1 r1 => ?_, k.exE e⟩
    subst hw
    cases r_int r1
    refine ⟨R1, ds, h1, _, _, e1, p', fun R2 H2 h2 d u2 p2 x2 e2 r2 => ?_, (k.later (x1.mo e.ok)).exE e1⟩
    have rs := e2.relW hi hv
    obtain ⟨a', vs', ea, q', nf', o', tt'⟩ := rs
    cases ea
    obtain ⟨e3, m3⟩ := e2.wr hi hv (relDs_append (relDs_append (relDs_take n tt') (relDs_one r2)) (relDs_drop n tt'))
    exact ⟨a, vs', (n : Int), u2, rfl, rfl, q', by rw [← relDs_len tt']; exact hl, Int.natCast_nonneg n, hn, k.nx R2 _ σ _ h2 e3 (((x1.trans x2).mo e.ok).trans m3) p2⟩
end
end DL
namespace L2
open PySem PySem.Spec PyProof.Rows
section
variable {X : Cx}
end
end L2
namespace DL
open PySem PySem.Spec PyProof.Rows L2
section
variable {X : Cx} {C : Cn} {Wx : WX}
end
end DL
namespace DL
open PySem PySem.Spec PyProof.Rows L2
def cE_spl (a : E) (b : E) (G : Gm) (N : List Str) (sc : Scope) (x0 : Expr) : Bool := match x0 with
  | .Call (.Attribute l m ap) [r] [] cp => decide (m = "split") && (ap.endLine == cp.line) && noC0 l && noStar r && a.chk G N sc l && b.chk G N sc r
  | _ => false
theorem sE_spl (a : E) (b : E) : SndE (cE_spl a b) (fun F => dSpl (a.d F) (b.d F)) := by
    intro C G F gd kq X Wx e S tk h
    cases e <;> first | (exact absurd h Bool.false_ne_true) | skip
    rename_i f ls kw p
    cases f <;> rcases ls with _ | ⟨r, _ | ⟨r2, ls⟩⟩ <;> rcases kw with _ | ⟨k1, kw⟩ <;> first | (exact absurd h Bool.false_ne_true) | skip
    simp only [cE_spl] at h
    obtain ⟨h, g1⟩ := ba2 h
    obtain ⟨h, g2⟩ := ba2 h
    obtain ⟨h, g3⟩ := ba2 h
    obtain ⟨h, g4⟩ := ba2 h
    obtain ⟨g6, g5⟩ := ba2 h
    cases of_decide_eq_true g6
    exact de_spl (E.snd a X Wx _ S tk g2) (E.snd b X Wx r S tk g1) (star_ok g3) (base_ok g4) g5
def E.spl (a : E) (b : E) : E := ⟨cE_spl a b, fun F => dSpl (a.d F) (b.d F), fun _ _ _ _ _ => False, sE_spl a b, noT⟩
@[simp] theorem rdE_spl (a : E) (b : E) {F : Fns} : (E.spl a b).rd F = dSpl (a.d F) (b.d F) := rfl
@[simp] theorem rtE_spl (a : E) (b : E) {F : Fns} : (E.spl a b).rt F = (fun _ _ _ _ => False) := rfl
end DL
namespace DL
open PySem PySem.Spec PyProof.Rows L2
theorem two_form {e f : Expr} {cp : Pos} {env : PySem.Env} (h : noStar e = true) (h2 : noStar f = true) : (((backTo cp (starEach (e :: [f]) env)).all (fun x => !x.1) && (backToKw cp (keywordEach [] env)).all fun x => x.1.isSome) && decide (((e :: [f]).length + ([] : List Keyword).length + if ([] : List Keyword).isEmpty = true then 0 else 1) < 30)) = true := by
  rw [star_ok h, star_ok h2]; rfl
theorem one_any {f : Expr} {cp : Pos} {env : PySem.Env} (h2 : noStar f = true) : (backTo cp (starEach [f] env)).any (·.1) = false := by
  rw [star_ok h2]; rfl
def cS_ins (i : Nat) (a b : E) (M : Xm) (G : Gm) (N : List Str) (sc : Scope) (x0 : Stmt) : Bool := match x0 with
  | .Expr (.Call (.Attribute (.Name y _) m ap) [x, z] [] cp) _ => decide (m = "insert") && decide (N[i]? = some y) && visB sc y && okN y && noStar x && noStar z && (ap.endLine == cp.line) && a.chk G N sc x && b.chk G N sc z
  | _ => false
theorem sS_ins (i : Nat) (a b : E) : SndS (cS_ins i a b) (fun M F => dIns i (a.d F) (b.d F)) := by
    intro C M G F gd k X Wx st Z tk h
    cases st <;> first | (exact absurd h Bool.false_ne_true) | (simp [cS_ins] at h; done) | skip
    rename_i v p
    cases v <;> first | (exact absurd h Bool.false_ne_true) | (simp [cS_ins] at h; done) | skip
    rename_i fn args kws cp
    cases fn <;> first | (exact absurd h Bool.false_ne_true) | (simp [cS_ins] at h; done) | skip
    rename_i o mname ap
    cases o <;> first | (exact absurd h Bool.false_ne_true) | (simp [cS_ins] at h; done) | skip
    rcases args with _ | ⟨x, _ | ⟨z, _ | ⟨x3, xs⟩⟩⟩ <;> first | (exact absurd h Bool.false_ne_true) | (simp [cS_ins] at h; done) | skip
    rcases kws with _ | ⟨kw, kws⟩ <;> first | (exact absurd h Bool.false_ne_true) | (simp [cS_ins] at h; done) | skip
    simp only [cS_ins, Bool.and_eq_true, decide_eq_true_eq] at h
    obtain ⟨⟨⟨⟨⟨⟨⟨⟨rfl, h2⟩, h3⟩, h4⟩, h5⟩, h6⟩, h7⟩, h8⟩, h9⟩ := h
    exact ds_ins h2 (visB_ok h3) (okN_ok h4).1 (okN_ok h4).2.1 (E.snd a X Wx _ Z.toStat tk h8) (E.snd b X Wx _ Z.toStat tk h9) (star_ok h5) (star_ok h6) h7 (two_form h5 h6) (one_any h6) rfl rfl
def S.ins (i : Nat) (a b : E) : S := ⟨cS_ins i a b, fun M F => dIns i (a.d F) (b.d F), sS_ins i a b⟩
@[simp] theorem rdS_ins (i : Nat) (a b : E) {M : Xm} {F : Fns} : (S.ins i a b).rd M F = dIns i (a.d F) (b.d F) := rfl
end DL
set_option maxHeartbeats 8000000
namespace DL
open PySem PySem.Spec PyProof.Rows L2
section
variable {X : Cx} {C : Cn} {Wx : WX}
end
end DL
set_option maxHeartbeats 8000000
namespace DL
open PySem PySem.Spec PyProof.Rows L2
section
variable {prog : Program} {w : World} {A : Around} {E : Value → Shared → Prop} {s : Shared}
end
section
variable {X : Cx} {C : Cn} {Wx : WX}
end
section
variable {X : Cx} {C : Cn} {Wx : WX}
end
section
variable {X : Cx} {C : Cn} {Wx : WX}
end
end DL
set_option maxHeartbeats 8000000
namespace DL
open PySem PySem.Spec PyProof.Rows L2
/-- isinstance(n, c), n the exception that the suite holds, with its dict -/
def rIsX (K : Fg) (D a : Addr) (d : Option Addr) : List V → Hp → VK → Prop := fun xs H Q => ∃ (c : V) (cv : Value) (b : Bool) (dd : Addr) (ks : List (Str × V)), xs = [.ref a, c] ∧ (∀ u, RelV c u → u = cv) ∧ d = some dd ∧ H dd = some (.xd ks) ∧ PySem.W.kitOne K (.ref D) cv = some b ∧ Q (.bl b) H
section
variable {X : Cx} {C : Cn} {Wx : WX} {M : Xm}
open Classical in
end
end DL
set_option maxHeartbeats 8000000
namespace DL
open PySem PySem.Spec PyProof.Rows L2
/-- the different ones, in order -/
def hasK (l : List Key) (k : Key) : Bool := l.any fun x => decide (x = k)
def ddS (acc : List Key) (k : Key) : List Key := if hasK acc k then acc else acc ++ [k]
def dd (l : List Key) : List Key := l.foldl ddS []
section
variable {prog : Program} {w : World} {A : Around} {R : Result → Shared → Prop} {I : Addr} {fp wr : List Addr} {G : Array GenState → Array GenState → Prop} {n : Nat} {P : Nat → Value → Prop} {St : Nat → Shared → Prop}
end
section
variable {prog : Program} {w : World} {A : Around} {E : Value → Shared → Prop} {s : Shared}
end
end DL
set_option maxHeartbeats 8000000
namespace DL
open PySem PySem.Spec PyProof.Rows L2
section
variable {X : Cx} {C : Cn} {Wx : WX}
end
section
variable {X : Cx} {C : Cn} {Wx : WX}
end
end DL
set_option maxHeartbeats 8000000
namespace DL
open PySem PySem.Spec PyProof.Rows L2
section
variable {X : Cx} {C : Cn} {Wx : WX}
end
section
variable {X : Cx} {C : Cn} {Wx : WX}
end
section
variable {X : Cx} {C : Cn} {Wx : WX}
end
section
variable {X : Cx} {C : Cn} {Wx : WX}
end
section
variable {X : Cx} {C : Cn} {Wx : WX}
end
end DL
set_option maxHeartbeats 8000000
namespace DL
open PySem PySem.Spec PyProof.Rows L2
section
variable {K : Fg} {R R' : Rg} {H H' H₁ : Hp}
/-- what is let go: no list that begins with a text is leaned on -/
structure Ungo (R : Rg) (R' : Rg) (H : Hp) : Prop where
  n : R'.n = R.n
  at_ : R'.at_ = R.at_
  fz : ∀ a vs, R.fz a → H a = some (.lst vs) → (∀ s r, vs ≠ V.str s :: r) → R'.fz a
end
section
variable {X : Cx} {C : Cn} {Wx : WX}
end
end DL
set_option maxHeartbeats 8000000
namespace DL
open PySem PySem.Spec PyProof.Rows L2
/-- the reading: what f hands out is a new list; only the first gx classes of exceptions -/
def dLgen (n nk gx : Nat) (pi : List Nat) (f : GnD) (u : TDA) : TDE := fun ds h P Z => u ds h (fun ys h1 => ys.length = nk ∧ (pick pi ys).length = n ∧ f (pick pi ys) h1 (fun out h2 => P (.new out) h2) (fun x h' => x.c < gx ∧ Z x h')) Z
section
variable {X : Cx} {C : Cn} {Wx : WX}
theorem de_lgen {G : Gm} {nm x : Str} {p p1 p2 pos : Pos} {kws : List Keyword} {u : TDA} {f : GnD} {k : Nat} {fa : Addr} {fd : FuncData} {ps ks : List Str} {pi : List Nat} (hK : C.K = X.K) (hgx : ∀ c, c < G.gx → cold X.K (.ref (C.Cl c)) = false ∧ PySem.W.subIn X.K (.ref (C.Cl c)) (.type "StopIteration") = some false)
    (Fg0 : (∀ xs h Q Z, ¬ f xs h Q Z) ∨ ∃ kg, kg + 3 ≤ k ∧ GFn X.prog X.w X.K X.mg X.base kg fa fd ps (liftGn X.K C.Cl ps.length f)) (bk : BK fd ps) (hr : Room k X.A) (tk : Takes X Wx) (hg : Gl X x) (hm : X.mg x = some (.ref fa)) (hk : PySem.W.keepIn X.K (.ref fa) = true) (hdb : (x == ("__debug__" : Str)) = false)
    (hkw : PK X kws (liftA C Wx u)) (hb : kwB ps 0 ks pi = true) (hks : kws.map (·.arg) = ks.map some) (hgl : Gl X nm) (hmg : X.mg nm = none) (hv : bootBuiltins nm = some (.type "list")) (hnm : nm ≠ "__name__") (hdl : (nm == ("__debug__" : Str)) = false) :
    PE X (.Call (.Name nm p) [.Call (.Name x p1) [] kws p2] [] pos) (lift C Wx (dLgen ps.length ks.length G.gx pi f u)) := by
  refine ⟨fun pins s σ H Q I q => ?_⟩
  obtain ⟨R, ds, h, P, Zd, e, pd, kk, zz⟩ := q
  have star : starEach [Expr.Call (.Name x p1) [] kws p2] X.env = (false, eval (.Call (.Name x p1) [] kws p2) X.env) :: starEach [] X.env := rfl
  obtain ⟨a1, a2, a3⟩ := kw_all (env := X.env) (pos := p2) hks
  let EX : XK := fun cls dd G' => (∃ c, c < G.gx ∧ cls = .ref (C.Cl c)) ∧ Wx cls dd σ G'
  have args : ∀ (B : Value → Shared → Prop), (∀ (s2 : Shared) (ws : List Value) (zs : List V) (H2 : Hp) (R2 : Rg) (h2 : Hs) (ys : List D), Inv X pins σ H2 s2 → Vals zs ws → RelDs C.K R2 H2 ys zs → Ex R H R2 H2 → Env C R2 ds σ H2 h2 → ys.length = ks.length → (pick pi ys).length = ps.length → f (pick pi ys) h2 (fun out h3 => P (.new out) h3) (fun x h' => x.c < G.gx ∧ Zd x h') → wpAny (model X.prog X.w) X.A (call (.ref fa) [] (ks.zip ws)) B X.xe s2) →
      wpAny (model X.prog X.w) X.A (eval (.Call (.Name x p1) [] kws p2) X.env) B X.xe s := fun B hB => by
    refine wpAny_Call_Name_kw (ld_glob (X := X) I hg hm ?_ hdb)
    refine PySem.W.callWith_KW0 (h₀ := X.base) I.ok.mod.kin hk a1 ?_ (by rw [a3]; rfl)
    refine thn (hkw.run p2 pins s σ H (fun zs H2 => ∃ R2 h2 ys, RelDs C.K R2 H2 ys zs ∧ Ex R H R2 H2 ∧ Env C R2 ds σ H2 h2 ∧ ys.length = ks.length ∧ (pick pi ys).length = ps.length ∧ f (pick pi ys) h2 (fun out h3 => P (.new out) h3) fun x h' => x.c < G.gx ∧ Zd x h') I
      ⟨R, ds, h, _, Zd, e, pd, fun R2 H2 h2 ys zs p2 x2 e2 r2 => ⟨R2, h2, ys, r2, x2, e2, p2⟩, zz⟩) fun ws s2 ⟨zs, H2, I2, rz, R2, h2, ys, r2, x2, e2, hl2, hl3, pf⟩ => ⟨I2.kIn, ?_⟩
    rw [a2, List.nil_append]
    exact hB s2 ws zs H2 R2 h2 ys I2 rz r2 x2 e2 hl2 hl3 pf
  refine wpAny_Call_Name_kw (ld_blt I hgl hmg hv ?_ hnm hdl)
  refine PyProof.Rows.callWith_type1 ?_ star rfl
  rw [star]
  rcases Fg0 with no | ⟨kg, hkg, Fg⟩
  · exact Calls.spliced_cons (args _ fun _ _ _ _ _ _ _ _ _ _ _ _ _ _ pf => absurd pf (no _ _ _ _))
  have made : wpAny (model X.prog X.w) X.A (eval (.Call (.Name x p1) [] kws p2) X.env) (fun v s' => ∃ H1 sc R1 h1, Inv X pins σ H1 sc ∧ Ex R H R1 H1 ∧ Env C R1 ds σ H1 h1 ∧
      GMade X.prog X.w kg X.stack H1 sc [] (fun ws G' => ∃ R2 h2 out, P (.new out) h2 ∧ Ex R1 H1 R2 G' ∧ HOk' C.K C.Cl R2 G' h2 ∧ RelDs C.K R2 G' out ws) EX v s') X.xe s := by
    refine args _ fun s2 ws zs H2 R2 h2 ys I2 rz r2 x2 e2 hl2 hl3 pf => ?_
    have lw : ws.length = ks.length := by rw [← rz.length, ← relDs_len r2]; exact hl2
    have rp : Vals (pick pi zs) (pick pi ([] ++ ws)) := vals_pick rz pi
    refine wpAny_call (codeAny_mono (Fg.run X.A X.stack s2 H2 ⟨[], ks.zip ws⟩ (pick pi ([] ++ ws)) (pick pi zs) (fun ws G' => ∃ R3 h3 out, P (.new out) h3 ∧ Ex R2 H2 R3 G' ∧ HOk' C.K C.Cl R3 G' h3 ∧ RelDs C.K R3 G' out ws) EX (hr.mono (by omega)) I2.env0 (.of_eq (bk ks pi [] ws hb lw)) rp ?_) fun res s' z => ?_)
    · rw [← hK] at hgx ⊢
      exact ⟨R2, pick pi ys, h2, _, _, e2.ok, relDs_pick r2 pi, hl3, pf, fun R3 H3 h3 out vs p3 x3 ok3 r3 => ⟨R3, h3, out, p3, x3, ok3, r3⟩,
        fun R3 H3 h3 y cls dd ⟨hlt, pz⟩ x3 ok3 r3 => ⟨by rw [show cls = _ from r3.1]; exact (hgx _ hlt).1, ⟨y.c, hlt, r3.1⟩, zz R3 H3 h3 y cls dd pz (x2.trans x3) (e2.step x3 ok3) r3⟩⟩
    · cases res with
      | error e => exact False.elim z
      | ok fl =>
        cases fl with
        | ret v => exact ⟨H2, s2, R2, h2, I2, x2, e2, z⟩
        | next => exact False.elim z
        | brk => exact False.elim z
        | cont => exact False.elim z
  refine Calls.spliced_cons (thn made fun v s1 ⟨H1, sc, R1, h1, I1, x1, e1, hG⟩ => Calls.spliced_nil ?_)
  have hsz : sc.heap.objs.size ≤ s1.heap.objs.size := by
    obtain ⟨_, _, _, _, z1, z2, _⟩ := hG
    exact Nat.le_of_lt (Nat.lt_of_le_of_lt z1 z2)
  refine call_list_new (hr.mono hkg) I1.ok.frames hG (fun S s' acc cn H' ys q0 q1 q2 hl q3 q4 q5 q6 q7 q8 => ?_) fun y s' g hc => ?_
  · obtain ⟨R2, h2, out, p2, x2, ok2, r2⟩ := q8
    have e2 := e1.step x2 ok2
    refine ⟨.ref S, _, I1.drained (Nat.le_trans hsz q0) hl q1 q2 (.nil) q3 q4 q5 q6 q7, rfl, ?_⟩
    exact kk R2 _ h2 (.new out) (.ref S) p2 ((x1.trans x2).trans (Ex.fresh q7)) (e2.fresh q7) (m_new e2 (x1.trans x2) q7 r2)
  · have hns : NoStop X.K EX := fun cls d H' z => by
      obtain ⟨⟨c, hc, rfl⟩, _⟩ := z
      exact (hgx c hc).2
    have kin : X.K.In s'.heap := by
      obtain ⟨_, _, _, _, _, _, fl, _, ub, _⟩ := id hc
      refine I1.ok.mod.kin.keeps fun b o e0 => fl.1 b o (ub.keep b o (I1.bs b o e0).1 (I1.bs b o e0).2 fun hm => ?_)
      have lt := Heap.lt_size e0
      have ab := Nat.le_trans I1.ok.bsz I1.ok.above
      rcases List.mem_cons.mp (I1.stkSub b hm) with z | z
      · rw [z] at lt
        exact (Nat.lt_irrefl _ (Nat.lt_of_lt_of_le lt ab)).elim
      · exact I1.ok.nofr e0 z
    have hc2 : L2.CX X.prog X.w X.stack H1 sc EX y (s'.setGen g .finished) := by
      obtain ⟨b, B, G', cls, dd, z1, fl, z2, ub, z3, z4, z5, z6⟩ := hc
      exact ⟨b, B, G', cls, dd, z1, fl, z2, ub, z3, z4, allBare_setGen z5 rfl, z6⟩
    refine ⟨notStop_of hns kin hc, tk _ _ (.inl (L2.XE.of_call (E := EX) I1 (fun cls d H' z => ?_) hc2))⟩
    obtain ⟨⟨c, hc, rfl⟩, z2⟩ := z
    exact ⟨(hgx c hc).1, z2⟩
end
def cE_lgen (f : Nat) (ks : List Str) (pi : List Nat) (es : Es) (gx : Nat) (G : Gm) (N : List Str) (sc : Scope) (x0 : Expr) : Bool := match x0 with
  | .Call (.Name nm _) [.Call (.Name x _) [] kws _] [] _ => (match G.gn[f]? with
    | some q => decide (q.1 = x) && (kwB q.2 0 ks pi && decide (q.2.length = pi.length))
    | none => false) && (decide (nm = "list") && glB sc nm && decide (nm ∈ G.free)) && glB sc x && okN x && decide (G.gx = gx) && decide (kws.map (·.arg) = ks.map some) && es.chkK G N sc kws
  | _ => false
theorem sE_lgen (f : Nat) (ks : List Str) (pi : List Nat) (es : Es) (gx : Nat) : SndE (cE_lgen f ks pi es gx) (fun F => dLgen pi.length ks.length gx pi (F.e f) (es.d F)) := by
    intro C G F gd k X Wx e S tk h
    unfold cE_lgen at h
    split at h
    · rename_i nm p x p1 kws p2 pos
      obtain ⟨ha, g1⟩ := ba2 h
      obtain ⟨hb, g2⟩ := ba2 ha
      obtain ⟨hc, g3⟩ := ba2 hb
      obtain ⟨hd, g4⟩ := ba2 hc
      obtain ⟨he, g5⟩ := ba2 hd
      obtain ⟨hf, g6⟩ := ba2 he
      obtain ⟨g6, g8⟩ := ba2 g6
      obtain ⟨g6, g7⟩ := ba2 g6
      have e6 := of_decide_eq_true g6
      have e3 := of_decide_eq_true g3
      clear h ha hb hc hd he g6 g3
      subst e6
      subst e3
      split at hf
      · rename_i q hq
        obtain ⟨n1, hf⟩ := ba2 hf
        obtain ⟨n2, n3⟩ := ba2 hf
        have n1 := of_decide_eq_true n1
        subst n1
        have n3 := of_decide_eq_true n3
        obtain ⟨fa, fd, hm, hk, bk, Fg⟩ := S.gn.2 f q hq
        rw [← n3]
        exact de_lgen S.hK S.gn.1 Fg bk S.room tk (glB_ok g5) hm hk (okN_ok g4).1 (Es.sndK es X Wx kws S tk g1) n2 (of_decide_eq_true g2) (glB_ok g7) (S.free _ (of_decide_eq_true g8)) rfl (by decide) (by decide)
      · cases hf
    · cases h
def E.lgen (f : Nat) (ks : List Str) (pi : List Nat) (es : Es) (gx : Nat) : E := ⟨cE_lgen f ks pi es gx, fun F => dLgen pi.length ks.length gx pi (F.e f) (es.d F), fun _ _ _ _ _ => False, sE_lgen f ks pi es gx, noT⟩
@[simp] theorem rdE_lgen (f : Nat) (ks : List Str) (pi : List Nat) (es : Es) (gx : Nat) {F : Fns} : (E.lgen f ks pi es gx).rd F = dLgen pi.length ks.length gx pi (F.e f) (es.d F) := rfl
@[simp] theorem rtE_lgen (f : Nat) (ks : List Str) (pi : List Nat) (es : Es) (gx : Nat) {F : Fns} : (E.lgen f ks pi es gx).rt F = (fun _ _ _ _ => False) := rfl
end DL
set_option maxHeartbeats 8000000
namespace DL
open PySem PySem.Spec PyProof.Rows L2
/-- what the module gives, apart from any frame -/
structure ModD (M : Xm) (G : Gm) (F : Fns) (Cl : Cm) (gd : Bool) (k : Nat) (P : Program) (w : World) (K : Fg) (mg : Str → Option Value) (base : Heap) : Prop where
  sh : G.sh = true → gd = true
  k1 : 1 ≤ k
  free : ∀ x ∈ G.free, mg x = none
  con : ∀ j x, G.con[j]? = some x → ∃ v u, mg x = some u ∧ RelV v u ∧ ∀ R H, RelD K R H (F.c j) v
  fn : ∀ C : Cn, C.K = K → C.Cl = Cl → FnAll G F C gd k P w K mg base
  ho : ∀ C : Cn, C.K = K → C.Cl = Cl → ∀ k2, k ≤ k2 → HoAll G F C gd k2 P w K mg base
  xm : XmOk M K Cl
  xmg : ∀ c x, M.names[c]? = some x → mg x = some (.ref (Cl c))
  xmk : ∀ c x, M.names[c]? = some x → M.rs c = true → (∃ fI, XiC P K mg (Cl c) fI (M.flds c)) ∧ (M.flds c).length ≤ 1000
  gn : GnAll G F Cl k P w K mg base
theorem FnAll.mono {G : Gm} {F : Fns} {C : Cn} {gd : Bool} {j k : Nat} {P : Program} {w : World} {K : Fg} {mg : Str → Option Value} {base : Heap} (h : FnAll G F C gd j P w K mg base) (l : j ≤ k) : FnAll G F C gd k P w K mg base := fun i p e => by
  obtain ⟨fa, fd, ps, a1, a2, a3, a4, a5, a6⟩ := h i p e
  exact ⟨fa, fd, ps, a1, a2, a3, a4, a5.mono l, a6⟩
theorem ModD.mono {M : Xm} {G : Gm} {F : Fns} {Cl : Cm} {gd : Bool} {j k : Nat} {P : Program} {w : World} {K : Fg} {mg : Str → Option Value} {base : Heap} (m : ModD M G F Cl gd j P w K mg base) (l : j ≤ k) : ModD M G F Cl gd k P w K mg base :=
  ⟨m.sh, Nat.le_trans m.k1 l, m.free, m.con, fun C a b => (m.fn C a b).mono l, fun C a b k2 h => m.ho C a b k2 (Nat.le_trans l h), m.xm, m.xmg, m.xmk, m.gn.mono l⟩
/-- the table of a def that makes lambdas, of a def called x, its code object the value cdv -/
def TabX (Cl : Cm) (base : Heap) (mg : Str → Option Value) (cdv : Value) (q : Str) : Prop := ∃ c Pt, LamX.TabB base mg c Pt ∧ cdv = .ref c ∧ (Pt, q) ∈ Cl.T ∧ ∀ p ∈ Cl.T, p.1 = Pt → p.2 = q
def scB (N ps : List Str) (sc : Scope) : Bool := decide (sc.kind = .function) && !sc.isCoroutine && !sc.isGenerator && decide N.Nodup && decide (N.take ps.length = ps) && (ps.all fun x => locB sc x) && (sc.names.all fun y => decide (y.2 ≠ .free))
theorem scB_ok {N ps : List Str} {sc : Scope} (h : scB N ps sc = true) : FnScope N ps sc := by
  unfold scB at h
  simp only [Bool.and_eq_true, decide_eq_true_eq, Bool.not_eq_true', List.all_eq_true] at h
  obtain ⟨⟨⟨⟨⟨⟨h1, h2⟩, h3⟩, h4⟩, h5⟩, h6⟩, h7⟩ := h
  exact ⟨h1, h2, h3, h4, h5, fun x hx => locB_ok (h6 x hx), h7⟩
/-- the whole check of a def -/
def parB (ko : Option (Nat × List (Str × Kq))) (ps : List Str) (a : Arguments) : Bool := match ko with
  | none => decide (posA a = some ps)
  | some (np, dfl) => decide (koA a = some (ps, np)) && decide (dfl.map (·.1)).Nodup
def defB (M : Xm) (G : Gm) (N ps : List Str) (m : Ss) (st : Stmt) (ko : Option (Nat × List (Str × Kq))) : Bool := scB N ps (defScope st) && m.chk M G N (defScope st) (defBody st) && parB ko ps (defArgs st)
theorem funD_binds {K : Fg} {x qual : Str} {st : Stmt} {ps : List Str} {f : Addr} {fd : FuncData} {kws : List (Str × V)} (Fu : FunD K x qual (defArgs st) (defBody st) (defScope st) [] kws f fd) (h : posA (defArgs st) = some ps) : Binds K fd ps [] := by
  obtain ⟨oc, od, dV, kV, doc, pm, an, cdv, ct, osl, rfl, lk, hcd, hdv, hkw⟩ := Fu.ex
  have hd : dV = .none := by
    rcases hdv with ⟨_, z⟩ | ⟨z, _⟩
    · exact z
    · exact absurd rfl z
  subst hd
  exact .all fun us hl => posA_bind (fd := PySem.W.fnOf x qual (defArgs st) (defBody st) (defScope st) .none kV doc pm an cdv ct) h rfl us hl
theorem fun_of {K : Fg} {x qual : Str} {st : Stmt} {f : Addr} {fd : FuncData} {kws : List (Str × V)} (Fu : FunD K x qual (defArgs st) (defBody st) (defScope st) [] kws f fd) : Fun K x qual st f fd := by
  obtain ⟨oc, od, dV, kV, doc, pm, an, cdv, ct, osl, e, lk, hcd, hdv, hkw⟩ := Fu.ex
  have hd : dV = .none := by
    rcases hdv with ⟨_, z⟩ | ⟨z, _⟩
    · exact z
    · exact absurd rfl z
  subst hd
  exact ⟨⟨oc, od, kV, doc, pm, an, cdv, ct, osl, e, lk, hcd⟩, Fu.kp⟩
section
variable {M : Xm} {G : Gm} {F : Fns} {Cl : Cm} {gd : Bool} {k : Nat} {P : Program} {w : World} {K : Fg} {mg : Str → Option Value} {base : Heap}
theorem ModD.stat (md : ModD M G F Cl gd k P w K mg base) {C : Cn} (hK : C.K = K) (hC : C.Cl = Cl) {N ps : List Str} {qual : Str} {scope : Scope} (S : FnScope N ps scope) {f : Addr} {cdv : Value} {A : Around} {outer : List PySem.Env} {s : Shared} {H : Hp} {E : XK} (hr : Room k (A.deeper (envOfC qual scope s.heap.objs.size f cdv))) (hg : Gd gd A)
    (hlm : G.lm = true → ∃ k', k' + 2 ≤ k ∧ ModD M G F Cl gd k' P w K mg base ∧ TabX Cl base mg cdv ((envOfC qual scope s.heap.objs.size f cdv).qual ++ "<lambda>")) (ha : F.a = noA) :
    StatS M G F C gd k (cxOf (CX K P w) P w K mg base N qual scope f cdv A outer s H E) := by
  subst hC
  subst hK
  exact { toStat := ⟨rfl, rfl, S.nd, (room65 hr), hr, fun z => hg z, md.sh, md.free, md.con, md.fn C rfl rfl, fun _ _ _ _ _ _ _ _ _ _ _ => by rw [ha]; exact de_noact, fun z => by
            obtain ⟨k', l, md', c, Pt, t1, t2, t3, t4⟩ := hlm z
            exact ⟨k', l, ⟨md'.fn C rfl rfl, md'.gn⟩, md'.ho C rfl rfl _ (by omega), c, Pt, t1, t2, t3, t4⟩, md.gn⟩, k1 := md.k1, pass := passes_of rfl, stk := rfl, frm := rfl, blk := by
            show (if scope.kind.isAnnotationScope then ScopeKind.function else scope.kind) = .function
            rw [S.kind]; rfl
          , fnA := fun _ => rfl, xm := md.xm, xmg := md.xmg, xmk := md.xmk }
/-- a def keeps its promise over trees -/
theorem def_ok {x qual : Str} {st : Stmt} {f : Addr} {fd : FuncData} {N ps : List Str} {m : Ss} {sp : FnD} {kws : List (Str × V)} (md : ModD M G F Cl gd k P w K mg base) (Fu : FunD K x qual (defArgs st) (defBody st) (defScope st) [] kws f fd) {ko : Option (Nat × List (Str × Kq))} (hc : defB M G N ps m st ko = true)
    (hsp : ∀ xs h Q Z, xs.length = ps.length → sp xs h Q Z → m.d M F (startD N.length xs) h ⟨fun _ h' => Q .non h', Q, fun y _ h' => Z y h', fun _ _ => False, fun _ _ => False⟩) (hlm : G.lm = false) (ha : F.a = noA) :
    FnG P w K mg base gd (k + 1) f fd ps (liftF K Cl ps.length sp) ∧ (ko = none → Binds K fd ps []) := by
  unfold defB at hc
  obtain ⟨hc, h3⟩ := ba2 hc
  obtain ⟨h1, h2⟩ := ba2 hc
  refine ⟨fnG_body (fun_of Fu) (scB_ok h1) (t := m.d M F) (fun C cdv A outer s H E lk hK hC hr hg => ?_) hsp, fun z => by subst z; exact funD_binds Fu (of_decide_eq_true h3)⟩
  exact Ss.snd m _ _ _ (md.stat hK hC (scB_ok h1) hr hg (fun z => by rw [hlm] at z; cases z) ha) (takes_of rfl rfl rfl rfl) h2
/-- one that makes lambdas -/
theorem def_okL {x qual : Str} {st : Stmt} {f : Addr} {fd : FuncData} {N ps : List Str} {m : Ss} {sp : FnD} {kws : List (Str × V)} (md : ModD M G F Cl gd k P w K mg base) (Fu : FunD K x qual (defArgs st) (defBody st) (defScope st) [] kws f fd) {ko : Option (Nat × List (Str × Kq))} (hc : defB M G N ps m st ko = true)
    (hsp : ∀ xs h Q Z, xs.length = ps.length → sp xs h Q Z → m.d M F (startD N.length xs) h ⟨fun _ h' => Q .non h', Q, fun y _ h' => Z y h', fun _ _ => False, fun _ _ => False⟩) (ha : F.a = noA)
    (htab : ∀ cdv, (∃ oc od osl fd0, K.lookup f = some ⟨oc, od, .func fd0, osl⟩ ∧ fd0.code = cdv ∧ PySem.W.codeIn K cdv qual = true) → TabX Cl base mg cdv (qual ++ ".<locals>." ++ "<lambda>")) :
    FnG P w K mg base gd (k + 3) f fd ps (liftF K Cl ps.length sp) ∧ (ko = none → Binds K fd ps []) := by
  unfold defB at hc
  obtain ⟨hc, h3⟩ := ba2 hc
  obtain ⟨h1, h2⟩ := ba2 hc
  refine ⟨fnG_body (k := k + 2) (fun_of Fu) (scB_ok h1) (t := m.d M F) (fun C cdv A outer s H E lk hK hC hr hg => ?_) hsp, fun z => by subst z; exact funD_binds Fu (of_decide_eq_true h3)⟩
  exact Ss.snd m _ _ _ ((md.mono (by omega)).stat hK hC (scB_ok h1) hr hg (fun z => ⟨k, Nat.le_refl _, md, htab cdv lk⟩) ha) (takes_of rfl rfl rfl rfl) h2
/-- one that calls what it is handed -/
theorem def_okH {x qual a : Str} {st : Stmt} {g : Addr} {fd : FuncData} {N : List Str} {m : Ss} {sp : HFn} {kws : List (Str × V)} (md : ModD M G F Cl gd k P w K mg base) (Fu : FunD K x qual (defArgs st) (defBody st) (defScope st) [] kws g fd) (hc : defB M G N [a] m st none = true)
    (hsp : ∀ f act h Q Z, sp act h Q Z → m.d M { F with a := onlyA f act } (startF N.length f) h ⟨fun _ h' => Q .non h', Q, fun y _ h' => Z y h', fun _ _ => False, fun _ _ => False⟩) (hlm : G.lm = false) :
    (∀ k2, k ≤ k2 → HoG P w K mg base gd k2 g fd a Cl sp) ∧ Binds K fd [a] [] := by
  unfold defB at hc
  obtain ⟨hc, h3⟩ := ba2 hc
  obtain ⟨h1, h2⟩ := ba2 hc
  refine ⟨fun k2 hk2 => ⟨fun A outer s H R h f o act Pd Zd Q E hr hg e0 hb hfo hfd hfn hff hact ok hq p1 p2 => ?_⟩, funD_binds Fu (of_decide_eq_true h3)⟩
  have S := scB_ok h1
  have Fu' := fun_of Fu
  obtain ⟨oc, od, kV, doc, pm, an, cdv, ct, osl, rfl, lk, hcd⟩ := Fu'.ex
  have hN : 0 < N.length := by
    have := S.pre
    cases N with
    | nil => simp at this
    | cons a b => simp
  refine LamX.run_ofS (CX := CX K P w) (N := N) (ps := [a]) (us := [.ref f]) (vs := [.ref f]) lk hcd S hr e0 hb (.cons rfl .nil) rfl fun hr' => ?_
  have md2 := md.mono hk2
  have Z : StatS M G { F with a := onlyA f act } ⟨K, Cl, R, H⟩ gd k2 (cxOf (CX K P w) P w K mg base N qual (defScope st) g cdv A outer s H E) :=
    { toStat := ⟨rfl, rfl, S.nd, (room65 hr'), hr', fun z => hg z, md2.sh, md2.free, md2.con, md2.fn ⟨K, Cl, R, H⟩ rfl rfl, fun pn xe Wx i y q1 q2 tk hi hv hn => de_act (Z := (cxOf (CX K P w) P w K mg base N qual (defScope st) g cdv A outer s H E).tr pn xe) (C := ⟨K, Cl, R, H⟩) (k := k2) (gd := gd) rfl rfl hact rfl hr' (fun z => hg z) tk hfo hfd hfn hff hi hv (okN_ok hn).1 (okN_ok hn).2.1, fun z => (by rw [hlm] at z; cases z), md2.gn⟩
      k1 := md2.k1, pass := passes_of rfl, stk := rfl, frm := rfl
      blk := by
        show (if (defScope st).kind.isAnnotationScope then ScopeKind.function else (defScope st).kind) = .function
        rw [S.kind]; rfl
      fnA := fun _ => rfl, xm := md2.xm, xmg := md2.xmg, xmk := md2.xmk }
  refine ⟨_, Ss.snd m _ _ _ Z (takes_of rfl rfl rfl rfl) h2, R, _, h, _, env_startF hN ok, hsp f act h Pd Zd hq, ?_⟩
  exact ⟨fun R' ds σ H' h' e _ p => p1 R' H' h' .non .non p e.ex e.ok m_non, fun _ _ _ _ _ _ _ p => p.elim, fun _ _ _ _ _ _ _ p => p.elim, fun R' H' h' d v ok' x' r' p => p1 R' H' h' d v p x' ok' r',
    fun R' ds σ H' h' y cls dd e _ r' p => p2 R' H' h' y cls dd p e.ex e.ok r'⟩
end
theorem rel0 {K : Fg} {Cl : Cm} {H : Hp} (hT : LamX.Tabs Cl.T H) : HOk' K Cl ⟨0, fun _ => 0, fun _ => False⟩ H [] :=
  ⟨rfl, fun i o z => by simp at z, fun i j z => absurd z (Nat.not_lt_zero _), fun i z => absurd z (Nat.not_lt_zero _), fun a z => z.elim, hT⟩
theorem end_sp {K : Fg} {Cl : Cm} {H : Hp} {f : FnD} {a : Addr} {ns : List Int} (hT : LamX.Tabs Cl.T H) (hf : FoL K H a (ns.map V.int)) (spec : f [.fro (ns.map D.int)] [] (fun d _ => d = .bl true) fun _ _ => False) : liftF K Cl 1 f [.ref a] H (fun v _ => v = .bl true) fun _ _ _ => False := by
  refine ⟨⟨0, fun _ => 0, fun _ => False⟩, [.fro (ns.map D.int)], [], _, _, rel0 hT, ?_, rfl, spec, fun R' H' h' d v hd _ _ r => ?_, fun _ _ _ _ _ _ z => z.elim⟩
  · exact m_cons (by unfold RelD; exact ⟨a, ns.map V.int, rfl, hf, relDs_mkints ns⟩) m_nil
  · subst hd; exact r_bl r
abbrev emptyT : Obj := { cls := .none, data := .fields #[] }
theorem end_call {P : Program} {w : World} {K : Fg} {Cl : Cm} {mg mb : Str → Option Value} {gd : Bool} {k : Nat} {fa a : Addr} {fd : FuncData} {x : Str} {f : FnD} {st : Shared} {us : List Value} {ns : List Int} {cs : List (Addr × Addr)}
    (kin : K.In st.heap) (gl : st.heap.Ns mainGlobals mg) (bl : st.heap.Ns builtinsNs mb) (bb : ∀ y : Str, y ≠ "__name__" → mb y = bootBuiltins y) (nl : st.heap.NoLimit) (ge : st.gens = #[])
    (hT : ∀ p ∈ cs, st.heap.get? p.2 = some emptyT) (nT : ∀ p ∈ cs, K.lookup p.2 = none) (hC : ∀ p ∈ cs, PySem.W.CodeHd st.heap p.1 p.2) (hTl : ∀ q ∈ Cl.T, ∃ p ∈ cs, p.2 = q.1)
    (hbm : ∃ (bm : Addr) (ob : Obj), mg "__builtins__" = some (.ref bm) ∧ bm ≠ builtinsNs ∧ st.heap.get? bm = some ob ∧ ob.cls = .type "module" ∧ ob.dict = some builtinsNs ∧ ob.data = .plain)
    (oa : st.heap.get? a = some { cls := .type "list", data := .seq us.toArray }) (ia : IntsAre us ns) (sz : ns.length ≤ sizeLine) (rm : Room k callerA)
    (Fg : ∀ base : Heap, K.In base → base.Ns mainGlobals mg → (∀ p ∈ cs, LamX.TabB base mg p.1 p.2) → FnG P w K mg base gd k fa fd [x] (liftF K Cl 1 f)) (bd : ∀ (s : Shared) (u : Value), BindsTo s fd ⟨[u], []⟩ [(x, u)])
    (spec : f [.fro (ns.map D.int)] [] (fun d _ => d = .bl true) fun _ _ => False) :
    codeAny (model P w) callerA (.call (.ref fa) ⟨[.ref a], []⟩) (fun r s' => r = .ok (.ret (.bool true)) ∧ OldK st.heap s'.heap ∧ s'.os = st.os ∧ AllBare s'.gens) st := by
  have rv := vals_ints ia
  have tob : ∀ b, b ∈ cs.map (·.2) → st.heap.get? b = some emptyT := fun b hb => by
    obtain ⟨p, hp, rfl⟩ := List.mem_map.mp hb
    exact hT p hp
  have na : a ∉ cs.map (·.2) := fun z => by
    have q := tob a z
    rw [oa] at q
    cases q
  have main : ∀ H : Hp, (∀ b u, H b = some u → (b = a ∧ K.lookup a = none ∧ u = .frz { cls := .type "list", data := .seq us.toArray } (.lst (ns.map V.int))) ∨ (b ∈ cs.map (·.2) ∧ u = .tbl #[])) → (∀ b ∈ cs.map (·.2), H b = some (.tbl #[])) → FoL K H a (ns.map V.int) → HOk P w H st.heap →
      codeAny (model P w) callerA (.call (.ref fa) ⟨[.ref a], []⟩) (fun r s' => r = .ok (.ret (.bool true)) ∧ OldK st.heap s'.heap ∧ s'.os = st.os ∧ AllBare s'.gens) st := by
    intro H only tabs fo hok
    have up : ∀ {b : Addr} {o : Obj}, st.heap.get? b = some o → H b = none → (hidT st.heap H).get? b = some o := fun z n => hidT_get z n
    have free : ∀ {b : Addr} {o : Obj}, st.heap.get? b = some o → (∀ us n, o.data ≠ .seq us n) → o.data ≠ .fields #[] → H b = none := fun {b o} z n1 n2 => by
      cases q : H b with
      | none => rfl
      | some u =>
        rcases only b u q with ⟨rfl, _⟩ | ⟨m, _⟩
        · rw [oa] at z; cases z; exact absurd rfl (n1 _ _)
        · rw [tob b m] at z; cases z; exact absurd rfl n2
    have nsU : ∀ {b : Addr} {m : Str → Option Value}, st.heap.Ns b m → (hidT st.heap H).Ns b m := fun {b m} z => by
      obtain ⟨o, es, ep, e1, e2, r⟩ := z
      refine ⟨o, es, ep, up e1 (free e1 (fun _ _ y => ?_) fun y => ?_), e2, r⟩
      · rw [e2] at y; cases y
      · rw [e2] at y; cases y
    have kinU : K.In (hidT st.heap H) := fun b o z => up (kin b o z) (by
      cases q : H b with
      | none => rfl
      | some u =>
        rcases only b u q with ⟨rfl, kn, _⟩ | ⟨m, _⟩
        · rw [kn] at z; cases z
        · obtain ⟨p, hp, rfl⟩ := List.mem_map.mp m
          rw [nT p hp] at z; cases z)
    have limU : (hidT st.heap H).NoLimit := by
      obtain ⟨mc, z1, z2⟩ := nl
      exact ⟨mc, nsU z1, z2⟩
    have tabU : ∀ p ∈ cs, LamX.TabB (hidT st.heap H) mg p.1 p.2 := fun p hp => by
      have tp := hT p hp
      refine ⟨?_, ?_, fun z => ?_⟩
      · obtain ⟨o, vs, file, tf, flags, tg, inF, text, tt, e1, r1, r2, r3, r4⟩ := hC p hp
        refine ⟨o, vs, file, tf, flags, tg, inF, text, tt, up e1 (free e1 (fun _ _ y => ?_) fun y => ?_), r1, r2, r3, r4⟩
        · rw [r2] at y; cases y
        · rw [r2] at y; cases y; simp at r3
      · obtain ⟨bm, ob, b1, b2, b3, b4, b5, b6⟩ := hbm
        refine ⟨bm, ob, b1, b2, fun y => ?_, fun y => ?_, up b3 (free b3 (fun _ _ y => ?_) fun y => ?_), b4, b5, b6⟩
        · obtain ⟨o, es, ep, e1, e2, _⟩ := gl
          rw [y, e1] at b3; cases b3; rw [e2] at b6; cases b6
        · rw [y, tp] at b3; cases b3; cases b6
        · rw [b6] at y; cases y
        · rw [b6] at y; cases y
      · obtain ⟨o, es, ep, e1, e2, _⟩ := gl
        rw [z, tp] at e1; cases e1; cases e2
    have tabs0 : LamX.Tabs Cl.T H := fun q hq => by
      obtain ⟨p, hp, e⟩ := hTl q hq
      exact LamX.TabS.nil (tabs q.1 (List.mem_map.mpr ⟨p, hp, e⟩))
    have env : Env0 P w K mg (hidT st.heap H) callerA [] st H := ⟨rfl, ⟨kinU, nsU gl, ⟨mb, nsU bl, bb⟩, limU⟩, fun _ _ z => of_hidT z, Nat.le_of_eq (hidT_size _ _), trivial, fun b z => (by simp [frs] at z), hok, .of_eq ge⟩
    have go := (Fg _ kinU (nsU gl) tabU).run callerA [] st H ⟨[.ref a], []⟩ [.ref a] [.ref a] _ _ rm (fun _ => rfl) env (bd st (.ref a)) (.cons rfl .nil) (end_sp (Cl := Cl) tabs0 fo spec)
    refine codeAny_mono go fun r s' z => ?_
    cases r with
    | error er =>
      rcases z with z | z
      · obtain ⟨_, _, _, _, _, _, _, _, _, _, _, _, q⟩ := z
        exact q.2.elim
      · obtain ⟨_, _, _, _, _, _, _, _, _, _, _, _, q⟩ := z
        exact q.2.elim
    | ok fl =>
      cases fl with
      | next => exact False.elim z
      | brk => exact False.elim z
      | cont => exact False.elim z
      | ret u =>
        obtain ⟨v, H', eo, ba, un, hok', rl, q⟩ := z
        have q' : v = .bl true := q
        subst q'
        cases (show u = Value.bool true from rl)
        have same : ∀ b o, b ∉ cs.map (·.2) → st.heap.get? b = some o → s'.heap.get? b = some o := fun b o nb e => by
          cases qb : H b with
          | none => exact un.keep b o e qb (by simp [frs]) (by simp)
          | some y =>
            rcases only b y qb with ⟨_, _, rfl⟩ | ⟨m, _⟩
            · obtain ⟨w1, _⟩ := hok b _ qb
              obtain ⟨w2, _⟩ := hok' b _ (un.frzs b _ _ qb)
              rw [e] at w1
              cases w1
              exact w2
            · exact absurd m nb
        have grow : ∀ p ∈ cs, ∃ more : Array Value, s'.heap.get? p.2 = some { cls := .none, data := .fields more } := fun p hp => by
          obtain ⟨more, y⟩ := un.tbls p.2 #[] (tabs p.2 (List.mem_map.mpr ⟨p, hp, rfl⟩))
          exact ⟨_, hok' p.2 _ y⟩
        refine ⟨rfl, ⟨fun b o e => ?_, fun b o e => ?_⟩, eo, ba⟩
        · by_cases hb : b ∈ cs.map (·.2)
          · obtain ⟨p, hp, rfl⟩ := List.mem_map.mp hb
            obtain ⟨more, hm⟩ := grow p hp
            rw [hT p hp] at e
            cases e
            exact .inr (.inl ⟨((hC p hp).tab (hT p hp)).isCodeTable, rfl, #[], more, rfl, by rw [Array.empty_append]; exact hm⟩)
          · exact .inl (same b o hb e)
        · by_cases hb : b ∈ cs.map (·.2)
          · obtain ⟨p, hp, rfl⟩ := List.mem_map.mp hb
            obtain ⟨more, hm⟩ := grow p hp
            exact ⟨_, hm⟩
          · exact ⟨o, same b o hb e⟩
  cases hk : K.lookup a with
  | some o =>
    have z := kin a o hk
    rw [oa] at z
    cases z
    refine main (fun b => if b ∈ cs.map (·.2) then some (.tbl #[]) else none) (fun b u y => ?_) (fun b hb => if_pos hb) (.inr ⟨_, us.toArray, _, hk, rfl, rfl, rfl, by rw [List.size_toArray, ia.length]; exact sz, by simpa using rv⟩) (fun b u y => ?_)
    · by_cases hb : b ∈ cs.map (·.2)
      · have y' := (if_pos hb).symm.trans y; cases y'; exact .inr ⟨hb, rfl⟩
      · have y' := (if_neg hb).symm.trans y; cases y'
    · by_cases hb : b ∈ cs.map (·.2)
      · have y' := (if_pos hb).symm.trans y; cases y'; exact tob b hb
      · have y' := (if_neg hb).symm.trans y; cases y'
  | none =>
    refine main (fun b => if b = a then some (.frz { cls := .type "list", data := .seq us.toArray } (.lst (ns.map V.int))) else if b ∈ cs.map (·.2) then some (.tbl #[]) else none) (fun b u y => ?_) (fun b hb => ?_) (.inl ⟨_, if_pos rfl⟩) (fun b u y => ?_)
    · by_cases hb : b = a
      · have y' := (if_pos hb).symm.trans y; cases y'; exact .inl ⟨hb, hk, rfl⟩
      · have y1 := (if_neg hb).symm.trans y
        by_cases hb2 : b ∈ cs.map (·.2)
        · have y' := (if_pos hb2).symm.trans y1; cases y'; exact .inr ⟨hb2, rfl⟩
        · have y' := (if_neg hb2).symm.trans y1; cases y'
    · have hba : ¬ b = a := fun z => na (z ▸ hb)
      exact (if_neg hba).trans (if_pos hb)
    · by_cases hb : b = a
      · have y' := (if_pos hb).symm.trans y
        cases y'
        subst hb
        exact ⟨oa, by rw [List.length_map]; exact sz, us, _, rv, oa⟩
      · have y1 := (if_neg hb).symm.trans y
        by_cases hb2 : b ∈ cs.map (·.2)
        · have y' := (if_pos hb2).symm.trans y1; cases y'; exact tob b hb2
        · have y' := (if_neg hb2).symm.trans y1; cases y'
/-- a law by its own def's promise over trees -/
theorem walk_D {l : PySem.W.OpenLaw} {n k : Nat} {q : Program} {loose : List Str} {XP : (Str → Option Value) → Heap → Prop} {YP : World → Heap → Prop} {d : DefRec} {x : Str} {gd : Bool} {f : FnD}
    (hn : l.most = some n) (hn2 : n ≤ sizeLine) (hdf : d.params.defaults = []) (rm : Room k callerA)
    (spec : ∀ ns : List Int, ns.length ≤ n → f [.fro (ns.map D.int)] [] (fun d _ => d = .bl true) fun _ _ => False)
    (F : ∀ (w : World) (mg : Str → Option Value) (fa : Addr) (h : Heap), YP w h → h.Ns mainGlobals mg → mg d.name = some (.ref fa) → ∃ (K : Fg) (fd : FuncData) (Cl : Cm) (cs : List (Addr × Addr)), K.In h ∧ (∀ (s : Shared) (u : Value), BindsTo s fd ⟨[u], []⟩ [(x, u)]) ∧
      (∀ p ∈ cs, h.get? p.2 = some emptyT) ∧ (∀ p ∈ cs, K.lookup p.2 = none) ∧ (∀ p ∈ cs, PySem.W.codeHdIn K p.1 p.2 = true) ∧ (∀ q ∈ Cl.T, ∃ p ∈ cs, p.2 = q.1) ∧
      ∀ base : Heap, K.In base → base.Ns mainGlobals mg → (∀ p ∈ cs, LamX.TabB base mg p.1 p.2) → FnG l.prog w K mg base gd k fa fd [x] (liftF K Cl 1 f)) :
    PySem.W.WalkO q loose XP YP l.row.toRowW d [] (fun f vs => PySem.call f vs) := by
  refine Att.attach_call hn hdf fun w t₀ t₁ mg mb fa o pm cd doc a us ns Gr Y ho hd hcd hm hobj hints hlen hgn => ?_
  obtain ⟨K, fd, Cl, cs, kx, hb, c1, c2, c3, c4, hF⟩ := F w mg fa _ Y Gr.T.g hm
  exact end_call kx Gr.T.g Gr.T.b Gr.T.builtins Gr.T.nolimit hgn c1 c2 (fun p hp => PySem.W.codeHd_of_K kx (c3 p hp)) c4 Gr.T.bmain hobj hints (Nat.le_trans hlen hn2) rm hF hb (spec ns hlen)
end DL
set_option maxHeartbeats 1000000
namespace L2
open GenW PySem PySem.Spec PyProof.Rows
section
variable {M : Model} {A : Around} {R : GenEnd} {Y : Protocol} {n : Nat} {s₀ : Shared} {c : Code} {fs : List Frame} {s : Shared} {env : Env} {K : Flow → Sem PySem.Fin} {H : Value → Sem PySem.Fin} {gd : Bool → Bool} {lv : List Value → List Value}
theorem seg_runOwn {c' : Code} (h : ∀ p, Seg M A R Y n s₀ c' (M.den c') (.ret (fun r => ((match r with | .ok f => (.pure f : Sem Flow) | .error e => .raise e).onRaise (cameBack env)).wrap K H gd lv) none (gd false) (lv []) c p [] :: fs) s) :
    Seg M A R Y n s₀ c ((runOwn c' env).wrap K H gd lv) fs s := seg_call h
end
section
variable {prog : Program} {w : World} {R : GenEnd} {A : Around} {Y : Protocol} {n : Nat} {s₀ : Shared} {fs : List Frame} {s : Shared} {env : Env}
abbrev NoteW (env : Env) (x : Value) : Sem PySem.Fin := (do noteFrame x env; theTreesLotGoes x : Sem Unit).wrap (fun _ => .raise x) .raise id id
theorem noteW_eq (e : Value) : ((do noteFrame e env; theTreesLotGoes e : Sem Unit).bind fun _ => (.raise e : Sem PySem.Fin)) = NoteW env e := Sem.bind_eq_wrap _ _
theorem seg_forLoop {target : Expr} {it : Value} {body : List Stmt}
    (h : wpAny (model prog w) (A.over (.forLoop target it body [] env) fs) (pyNext it) (fun r s1 => match r with
      | none => Seg (model prog w) A R Y n s₀ (.block [] env) ((model prog w).den (.block [] env)) fs s1
      | some v => wpAny (model prog w) (A.over (.forLoop target it body [] env) fs) (letOwnedTupleGo target it v) (fun _ s2 => wpAny (model prog w) (A.over (.forLoop target it body [] env) fs) (assign target env v) (fun _ s3 =>
          Seg (model prog w) A R Y n s₀ (.forLoop target it body [] env) ((execs body env).wrap (fun f => match f with
            | .next | .cont => .pure (.again (.forLoop target it body [] env))
            | .brk => .pure (.done .next)
            | .ret v => .pure (.done (.ret v))) (NoteW env) id id) fs s3)
          (fun x s' => Seg (model prog w) A R Y n s₀ (.forLoop target it body [] env) (NoteW env x) fs s') s2) (fun x s' => Seg (model prog w) A R Y n s₀ (.forLoop target it body [] env) (NoteW env x) fs s') s1)
      (fun x s' => Seg (model prog w) A R Y n s₀ (.forLoop target it body [] env) (NoteW env x) fs s') s) :
    Seg (model prog w) A R Y n s₀ (.forLoop target it body [] env) ((model prog w).den (.forLoop target it body [] env)) fs s := by
  show Seg _ A R Y n s₀ _ ((forTurn target it body [] env).onRaise (fun x => do noteFrame x env; theTreesLotGoes x)) fs s
  unfold forTurn
  rw [Sem.onRaise_eq_wrap]
  refine seg_bind_wrap (wpAny_standAt ?_)
  refine seg_bind_wrap (wpAny_onRaise (wpAny_mono h (fun r s1 h1 => ?_) fun x s' hx => wpAny_standAt ?_))
  · cases r with
    | none =>
      show Seg _ A R Y n s₀ _ (.pure (.again (.block [] env))) fs s1
      exact seg_again rfl h1
    | some v =>
      refine seg_bind_wrap (wpAny_mono h1 (fun _ s2 h2 => ?_) fun x s' hx => ?_)
      · refine seg_bind_wrap (wpAny_mono h2 (fun _ s3 h3 => ?_) fun x s' hx => ?_)
        · rw [Sem.bind_eq_wrap', Sem.wrap_wrap]
          refine Eq.mpr (congrArg (fun t => Seg (model prog w) A R Y n s₀ (.forLoop target it body [] env) t fs s3) (Sem.wrap_congr (K' := fun f => match f with
            | .next | .cont => .pure (.again (.forLoop target it body [] env))
            | .brk => .pure (.done .next)
            | .ret v => .pure (.done (.ret v))) (H' := NoteW env) (execs body env) _ _ (fun f => ?_) (fun e => ?_))) h3
          · cases f <;> rfl
          · exact noteW_eq e
        · rw [noteW_eq]; exact hx
      · rw [noteW_eq]; exact hx
  · rw [noteW_eq]; exact hx
theorem seg_block0 (h : ∀ k : Unit, Seg (model prog w) A R Y n s₀ (.block [] env) (leafOf (.ok .next)) fs s) :
    Seg (model prog w) A R Y n s₀ (.block [] env) ((model prog w).den (.block [] env)) fs s := h ()
end
section
variable {X : Cx} {body : List Stmt}
def tGFor (wi : TI) (g : TG) (tb : TGn) : TGn := fun D ys σ H => wi σ H fun J H1 => ∃ W : Nat → Nat → List V → St → Hp → Prop, (∃ m, W 0 m ys σ H1) ∧ ∀ i m ys σ H, W i m ys σ H →
  (J.stop i H ∧ D.nx ys σ H) ∨ (J.go i H ∧ ∃ N : List V → St → Hp → Prop, (∀ ys' σ' H', N ys' σ' H' → ∃ m', m' < m ∧ W (i + 1) m' ys' σ' H') ∧ ∀ x H', J.yld i H x H' → g x σ H' fun σ2 H2 => tb { D with nx := N, ct := N, bk := D.nx } ys σ2 H2)
theorem gs_for {tg iter : Expr} {wi : TI} {g : TG} {tb : TGn} {pos : Pos} (hp : PassesOwn (model X.prog X.w) X.A X.env X.xe) (hc : X.calm = true) (hi : PI X tg iter wi) (hg : PG X tg g) (hb : GSs X body tb)
    (hs : ∀ x, foldedSetIterable iter X.env x = pure x := by intro _; rfl) : GS X (.For tg iter body [] pos) (tGFor wi g tb) := by
  refine ⟨fun A S ip R n ys s₀ c fs K J gd lv s σ H D g0 hn k hI ht => ?_⟩
  obtain ⟨acc, cc, r, I⟩ := hI
  rw [exec_For]
  refine seg_bind_wrap (wpAny_standAt ?_)
  refine seg_bind_wrap ?_
  rw [g0.over]
  refine wpAny_mono (hi.run _ s σ H _ I ht) (fun v s1 hv => ?_) fun x s' hx => k.exc n s₀ x s' hx
  refine seg_bind_wrap (wpAny_of_eq (hs v) ?_)
  refine seg_bind_wrap (wpAny_standAt ?_)
  refine seg_bind_wrap (wpAny_holding ?_)
  rw [g0.over]
  refine wpAny_mono hv (fun itv s2 h2 => ?_) fun x s' hx => k.exc n s₀ x s' hx
  obtain ⟨it, fp, tn, J0, H2, rfl, I2, T, st2, f2, W, ⟨m0, w0⟩, turn⟩ := h2
  have fpS : ∀ b ∈ fp, b ≠ S := fun b hb z => (f2 b hb).2.2.2.2.2 (S, lstObj acc cc) (List.mem_append_right _ List.mem_cons_self) z.symm
  have stat : ∀ {H' : Hp} {acc : Array Value} {cc : Nat}, (∀ b ∈ fp, H' b = none) → ∀ b ∈ fp, FpOk X ((S, lstObj acc cc) :: ip) H' b := fun {H' acc cc} hn b hb => by
    obtain ⟨_, a1, a2, a3, a4, a5⟩ := f2 b hb
    refine ⟨hn b hb, a1, a2, a3, a4, fun p hp => ?_⟩
    rcases List.mem_append.mp hp with hp | hp
    · exact a5 p (List.mem_append_left _ hp)
    · rcases List.mem_cons.mp hp with hp | hp
      · rw [hp]; exact (fpS b hb).symm
      · exact a5 p (List.mem_append_right _ (List.mem_cons_of_mem _ hp))
  refine seg_runOwn fun p => ?_
  have gl := fun (kk : Result → Sem PySem.Fin) => gc_loop (k := kk) (c' := .forLoop tg (.ref it) body [] X.env) (l := lv []) (kp := []) (p := p) g0 rfl rfl
  have glb := fun (kk : Result → Sem PySem.Fin) => gc_loop (k := kk) (c' := .block [] X.env) (l := lv []) (kp := []) (p := p) g0 rfl rfl
  have loop : ∀ (m i n : Nat) (ys : List V) (s₀ s : Shared) (σ : St) (H : Hp), n + ys.length = sizeLine → W i m ys σ H → GI X S ip ys σ H s → tn i s.heap → (∀ b ∈ fp, H b = none) →
      Seg (model X.prog X.w) A R (GY X S) n s₀ (.forLoop tg (.ref it) body [] X.env) ((model X.prog X.w).den (.forLoop tg (.ref it) body [] X.env)) (.ret (fun r => ((match r with | .ok f => (.pure f : Sem Flow) | .error e => .raise e).onRaise (cameBack X.env)).wrap K J gd lv) none (gd false) (lv []) c p [] :: fs) s := by
    intro m
    induction m using Nat.strongRecOn with
    | ind m ih =>
      intro i n ys s₀ s3 σ3 H3 hn w3 hI st3 fr3
      have ee : ∀ (n : Nat) (s₀ : Shared) (x : Value) (s' : Shared), X.xe x s' → Seg (model X.prog X.w) A R (GY X S) n s₀ (.forLoop tg (.ref it) body [] X.env) (NoteW X.env x) (.ret (fun r => ((match r with | .ok f => (.pure f : Sem Flow) | .error e => .raise e).onRaise (cameBack X.env)).wrap K J gd lv) none (gd false) (lv []) c p [] :: fs) s' := fun n s₀ x s' hx => by
        refine seg_wrap ?_
        rw [(gl _).over]
        refine wpAny_bind (wpAny_mono (hp x s' hx) (fun _ s9 hcb => wpAny_theTreesLotGoes ?_) fun y s9 hcb => ?_)
        · exact seg_leaf (.error x) (seg_cameBack g0 k hcb)
        · exact seg_leaf (.error y) (seg_cameBack g0 k hcb)
      obtain ⟨acc, cc, r, I3⟩ := hI
      refine seg_forLoop ?_
      rw [(gl _).over]
      rcases turn i m ys σ3 H3 w3 with ⟨stop, qn⟩ | ⟨go, N, hN, step⟩
      · refine wpAny_mono (T.done X rfl rfl rfl hc i _ s3 σ3 H3 X.xe I3 (stat fr3) st3 stop) (fun r s4 ⟨hr, I4⟩ => ?_) fun x s' hx => ee n s₀ x s' hx
        subst hr
        refine seg_block0 fun _ => ?_
        exact seg_leaf (.ok .next) (k.ok n ys s₀ s4 .next hn ⟨σ3, H3, ⟨acc, cc, by assumption, I4⟩, qn⟩)
      · refine wpAny_mono (T.item X rfl rfl rfl hc i _ s3 σ3 H3 X.xe I3 (stat fr3) st3 go) (fun r s4 ⟨u, hr, h4⟩ => ?_) fun x s' hx => ee n s₀ x s' hx
        subst hr
        refine wpAny_mono h4 (fun _ s5 ⟨x, H5, I5, r5, y5, st5, fr5⟩ => ?_) fun x s' hx => ee n s₀ x s' hx
        have I5b := I5.pinned (stat fr5) (T.obj _ _ st5)
        refine wpAny_mono (hg.run _ s5 σ3 H5 x u _ I5b r5 (step x H5 y5)) (fun _ s6 ⟨σ6, H6, I6, q6⟩ => ?_) fun x s' hx => ee n s₀ x s' hx
        have g2 : GC X S (ip ++ pinsAt fp s5.heap) A (.forLoop tg (.ref it) body [] X.env) _ id := { gl (fun r => ((match r with | .ok f => (.pure f : Sem Flow) | .error e => .raise e).onRaise (cameBack X.env)).wrap K J gd lv) with
          ip := fun q hq => by
            rcases List.mem_append.mp hq with hq | hq
            · exact g0.ip q hq
            · exact fpS _ (of_pinsAt hq).1 }
        refine hb.run A S (ip ++ pinsAt fp s5.heap) R n ys s₀ _ _ _ _ id id s6 σ6 H6 { D with nx := N, ct := N, bk := D.nx } g2 hn ⟨fun n' ys' s₀' s7 f hn' hs => ?_, fun n' s₀' x s7 hx => ee n' s₀' x s7 hx⟩ ⟨acc, cc, by assumption, I6⟩ q6
        have drop : ∀ {ys7 : List V} {σ7 : St} {H7 : Hp}, GI X S (ip ++ pinsAt fp s5.heap) ys7 σ7 H7 s7 → GI X S ip ys7 σ7 H7 s7 ∧ tn (i + 1) s7.heap ∧ ∀ b ∈ fp, H7 b = none := fun {ys7 σ7 H7} hg => by
          obtain ⟨acc7, cc7, r7, I7⟩ := hg
          have pin : ∀ b ∈ fp, ∀ o, s5.heap.get? b = some o → s7.heap.get? b = some o ∧ H7 b = none := fun b hb o e => by
            have := I7.pin (b, o) (List.mem_append_right _ (List.mem_cons_of_mem _ (List.mem_append_right _ (mem_pinsAt hb e))))
            exact ⟨this.1, this.2.1⟩
          refine ⟨⟨acc7, cc7, r7, I7.pins_of fun q hq => I7.pin q ?_⟩, T.keep _ _ _ st5 fun b hb o e => (pin b hb o e).1, fun b hb => ?_⟩
          · rcases List.mem_cons.mp hq with hq | hq
            · rw [hq]; exact List.mem_append_right _ List.mem_cons_self
            · exact List.mem_append_right _ (List.mem_cons_of_mem _ (List.mem_append_left _ hq))
          · obtain ⟨o, e, d⟩ := T.obj _ _ st5 b hb
            exact (pin b hb o e).2
        have again : ∀ {σ7 : St} {H7 : Hp}, GI X S (ip ++ pinsAt fp s5.heap) ys' σ7 H7 s7 → N ys' σ7 H7 → Seg (model X.prog X.w) A R (GY X S) n' s₀' (.forLoop tg (.ref it) body [] X.env) (.pure (.again (.forLoop tg (.ref it) body [] X.env))) (.ret (fun r => ((match r with | .ok f => (.pure f : Sem Flow) | .error e => .raise e).onRaise (cameBack X.env)).wrap K J gd lv) none (gd false) (lv []) c p [] :: fs) s7 := fun {σ7 H7} hg n7 => by
          obtain ⟨d1, d2, d3⟩ := drop hg
          obtain ⟨m', hm, w7⟩ := hN ys' σ7 H7 n7
          exact seg_again rfl (ih m' hm (i + 1) n' ys' s₀' s7 σ7 H7 hn' w7 d1 d2 d3)
        cases f with
        | next => obtain ⟨σ7, H7, I7, n7⟩ := hs; exact again I7 n7
        | cont => obtain ⟨σ7, H7, I7, n7⟩ := hs; exact again I7 n7
        | brk =>
          obtain ⟨σ7, H7, I7, n7⟩ := hs
          exact seg_leaf (.ok .next) (k.ok n' ys' s₀' s7 .next hn' ⟨σ7, H7, (drop I7).1, n7⟩)
        | ret v =>
          obtain ⟨v7, σ7, H7, I7, r7, n7⟩ := hs
          exact seg_leaf (.ok (.ret v)) (k.ok n' ys' s₀' s7 (.ret v) hn' ⟨v7, σ7, H7, (drop I7).1, r7, n7⟩)
  exact loop m0 0 n ys s₀ s2 σ H2 hn w0 ⟨acc, cc, r, I2⟩ st2 fun b hb => (f2 b hb).1
end
end L2
set_option maxHeartbeats 8000000
namespace DL
open PySem PySem.Spec PyProof.Rows L2
/-- what such a loop hands out: acc is out -/
def yldD (g : Tg) (te : TDE) (P : List D → Hs → Prop) (Z : XD) : List D → List D → DSt → Hs → Prop
  | [], acc, _, h => P acc h
  | x :: xs, acc, ds, h => acc.length < sizeLine ∧ g.put x ds fun ds2 => dD te ds2 h (fun d h2 => yldD g te P Z xs (acc ++ [d]) ds2 h2) Z
structure Dg where
  name : Str
  st : Stmt
  N : List Str
  ps : List Str
  pre : S
  it : Ic
  g : Tg
  y : E
/-- the def's reading -/
def Dg.d (M : Xm) (F : Fns) (m : Dg) : DSt → Hs → (List D → Hs → Prop) → XD → Prop := fun ds h P Z =>
  m.pre.d M F ds h ⟨fun ds1 h1 => m.it.d F ds1 h1 (fun xs h2 => yldD m.g (m.y.d F) P Z xs [] ds1 h2) Z, fun _ _ => False, fun x _ h' => Z x h', fun _ _ => False, fun _ _ => False⟩
def scGB (N ps : List Str) (sc : Scope) : Bool := decide (sc.kind = .function) && !sc.isCoroutine && sc.isGenerator && decide N.Nodup && decide (N.take ps.length = ps) && (ps.all fun x => locB sc x) && (sc.names.all fun y => decide (y.2 ≠ .free))
theorem scGB_ok {N ps : List Str} {sc : Scope} (h : scGB N ps sc = true) : GScope N ps sc := by
  unfold scGB at h
  simp only [Bool.and_eq_true, decide_eq_true_eq, Bool.not_eq_true', List.all_eq_true] at h
  obtain ⟨⟨⟨⟨⟨⟨h1, h2⟩, h3⟩, h4⟩, h5⟩, h6⟩, h7⟩ := h
  exact ⟨h1, h2, h3, h4, h5, fun x hx => locB_ok (h6 x hx), h7⟩
def bodyB (M : Xm) (G : Gm) (m : Dg) (sc : Scope) : List Stmt → Bool
  | [s0, .For t x [.Expr (.Yield (some e) _) _] [] _] => m.pre.chk M G m.N sc s0 && ((!m.it.needT || tupE t) && m.it.chk G m.N sc x && noSet x && m.g.chk false m.N sc t) && m.y.chk G m.N sc e
  | _ => false
def genB (M : Xm) (G : Gm) (m : Dg) : Bool := scGB m.N m.ps (defScope m.st) && bodyB M G m (defScope m.st) (defBody m.st) && decide (posA (defArgs m.st) = some m.ps)
theorem bodyB_ok {M : Xm} {G : Gm} {m : Dg} {sc : Scope} {b : List Stmt} (h : bodyB M G m sc b = true) : ∃ s0 t x e p1 p2 p3, b = [s0, .For t x [.Expr (.Yield (some e) p1) p2] [] p3] ∧ m.pre.chk M G m.N sc s0 = true ∧ (!m.it.needT || tupE t) = true ∧ m.it.chk G m.N sc x = true ∧ noSet x = true ∧ m.g.chk false m.N sc t = true ∧ m.y.chk G m.N sc e = true := by
  unfold bodyB at h
  split at h
  · obtain ⟨h, h6⟩ := ba2 h
    obtain ⟨h1, h⟩ := ba2 h
    obtain ⟨h, h5⟩ := ba2 h
    obtain ⟨h, h4⟩ := ba2 h
    obtain ⟨h2, h3⟩ := ba2 h
    exact ⟨_, _, _, _, _, _, _, rfl, h1, h2, h3, h4, h5, h6⟩
  · cases h
theorem relDs_snoc {K : Fg} {R : Rg} {H : Hp} {xs : List D} {vs : List V} {d : D} {v : V} (r : RelDs K R H xs vs) (r1 : RelD K R H d v) : RelDs K R H (xs ++ [d]) (vs ++ [v]) := relDs_append r (m_cons r1 m_nil)
section
variable {C : Cn} {Wx : WX}
/-- the loop -/
theorem yld_walk {ti : TDI} {g : Tg} {te : TDE} {Pd : List D → Hs → Prop} {Zd : XD} {D : GEnds} {R : Rg} {ds : DSt} {σ : Sl} {H : Hp} {h : Hs} (e : Env C R ds σ H h) (p : ti ds h (fun xs h2 => yldD g te Pd Zd xs [] ds h2) Zd)
    (kn : ∀ R' ds' σ' H' h' acc ys, Pd acc h' → Env C R' ds' σ' H' h' → RelDs C.K R' H' acc ys → D.nx ys σ' H') (kz : ∀ R' ds' σ' H' h' x cls dd, Zd x h' → Env C R' ds' σ' H' h' → RelX C R' H' x cls dd → Wx cls dd σ' H') :
    tGFor (liftI C Wx ti) (liftG C g) (tGThen (tGYield (liftV C Wx (dD te))) tG0) D [] σ H := by
  refine ⟨R, ds, h, _, Zd, e, p, fun R1 H1 h1 xs J p1 x1 e1 src => ?_, fun R' H' h' x cls dd z _ e' r => kz R' ds σ H' h' x cls dd z e' r⟩
  refine ⟨fun i m ys σ' H' => m = xs.length - i ∧ i ≤ xs.length ∧ ∃ R' ds' h' acc, Env C R' ds' σ' H' h' ∧ Mo C.K R1 H1 R' H' ∧ RelDs C.K R' H' acc ys ∧ yldD g te Pd Zd (xs.drop i) acc ds' h', ⟨xs.length, by simp, Nat.zero_le _, R1, ds, h1, [], e1, Mo.refl _ _ _, m_nil, by simpa using p1⟩, ?_⟩
  rintro i m ys σ2 H2 ⟨rfl, hle, R2, ds2, h2, acc, e2, m2, ra, p2⟩
  by_cases hlt : i < xs.length
  · right
    rw [List.drop_eq_getElem_cons hlt] at p2
    refine ⟨src.go i R2 H2 m2 hlt, fun ys' σ' H' => ∃ R' ds' h' acc', Env C R' ds' σ' H' h' ∧ Mo C.K R1 H1 R' H' ∧ RelDs C.K R' H' acc' ys' ∧ yldD g te Pd Zd (xs.drop (i + 1)) acc' ds' h', fun ys' σ' H' ⟨R', ds', h', acc', e', mm, ra', p'⟩ => ⟨xs.length - (i + 1), by omega, rfl, hlt, R', ds', h', acc', e', mm, ra', p'⟩, fun v H3 y => ?_⟩
    obtain ⟨x3, e3, r3⟩ := src.yld i R2 H2 v H3 xs[i] ds2 σ2 h2 m2 e2 (List.getElem?_eq_getElem hlt) y
    have m3 := m2.trans (x3.mo e2.ok)
    unfold yldD at p2
    obtain ⟨hl, p2⟩ := p2
    refine ⟨R2, ds2, h2, _, _, e3, r3, p2, fun ds4 σ4 e4 _ p4 => ⟨by rw [← relDs_len ra]; exact hl, R2, ds4, h2, _, Zd, e4, p4, fun R5 H5 h5 d u p5 x5 e5 r5 => ?_, fun R' H' h' x cls dd z _ e' r => kz R' ds4 σ4 H' h' x cls dd z e' r⟩⟩
    exact ⟨R5, ds4, h5, acc ++ [d], e5, m3.trans (x5.mo e4.ok), relDs_snoc (relDs_mo ((x3.mo e2.ok).trans (x5.mo e4.ok)) ra) r5, p5⟩
  · left
    have ei : i = xs.length := by omega
    subst ei
    rw [List.drop_length] at p2
    exact ⟨src.stop R2 H2 m2, kn R2 ds2 σ2 H2 h2 acc ys p2 e2 ra⟩
end
section
variable {M : Xm} {G : Gm} {F : Fns} {Cl : Cm} {k : Nat} {P : Program} {w : World} {K : Fg} {mg : Str → Option Value} {base : Heap}
/-- a generator def keeps its promise over trees -/
theorem gen_ok {x qual : Str} {f : Addr} {fd : FuncData} {m : Dg} {sp : GnD} {kws : List (Str × V)} (md : ModD M G F Cl false k P w K mg base) (Fu : FunD K x qual (defArgs m.st) (defBody m.st) (defScope m.st) [] kws f fd) (hc : genB M G m = true)
    (hsp : ∀ xs h Q Z, sp xs h Q Z → m.d M F (startD m.N.length xs) h Q Z) (hlm : G.lm = false) (ha : F.a = noA) :
    GFn P w K mg base (k + 1) f fd m.ps (liftGn K Cl m.ps.length sp) := by
  unfold genB at hc
  obtain ⟨hc, _⟩ := ba2 hc
  obtain ⟨hS, hB⟩ := ba2 hc
  have S := scGB_ok hS
  obtain ⟨s0, tg, it, ye, p1, p2, p3, eb, h1, h2, h3, h4, h5, h6⟩ := bodyB_ok hB
  obtain ⟨oc, od, kV, doc, pm, an, cdv, ct, osl, rfl, lk, hcd⟩ := (fun_of Fu).ex
  refine gfn_of lk hcd S (fun vs H Q E z => ?_) fun A outer s H vs Q E pn hr z => ?_
  · obtain ⟨R, xs, h, Pd, Z, ok, r, hl, _⟩ := z
    rw [← relDs_len r]; exact hl
  obtain ⟨R, xs, h, Pd, Zd, ok, r, hl, q, k1, k2⟩ := z
  have tk : Takes (gcxOf P w K mg base m.N qual (defScope m.st) f cdv A outer s H E pn) (fun cls d _ H' => cold K cls = false ∧ E cls d H') := fun u s' y => by
    rcases y with y | y
    · exact (takes_gcx.imp (W' := onlyB K false fun cls d _ H' => cold K cls = false ∧ E cls d H') fun c d σ H q => q.2.2) u s' y
    · obtain ⟨_, _, _, _, _, _, _, _, _, _, _, _, _, _, _, _, z⟩ := y
      obtain ⟨z1, z2, _⟩ := z
      exact Bool.noConfusion (z1.symm.trans z2)
  have Z : StatS M G F ⟨K, Cl, R, H⟩ false k (gcxOf P w K mg base m.N qual (defScope m.st) f cdv A outer s H E pn) :=
    { toStat := ⟨rfl, rfl, S.nd, (room65 hr), hr, fun z => Bool.noConfusion z, md.sh, md.free, md.con, md.fn ⟨K, Cl, R, H⟩ rfl rfl, fun _ _ _ _ _ _ _ _ _ _ _ => (by rw [ha]; exact de_noact), fun z => (by rw [hlm] at z; cases z), md.gn⟩
      k1 := md.k1, pass := owns_gcx, stk := rfl, frm := rfl
      blk := by
        show (if (defScope m.st).kind.isAnnotationScope then ScopeKind.function else (defScope m.st).kind) = .function
        rw [S.kind]; rfl
      fnA := fun _ => rfl, xm := md.xm, xmg := md.xmg, xmk := md.xmk }
  have hin : interactive (gcxOf P w K mg base m.N qual (defScope m.st) f cdv A outer s H E pn).env = false := by
    show ((defScope m.st).kind == .module && _) = false
    rw [S.kind]
    rfl
  rw [eb]
  refine ⟨_, gss_cons (gs_ps (m.pre.snd _ _ s0 Z tk h1)) (gss_cons (gs_for Z.pass Z.calm (m.it.snd _ _ tg it Z.toStat tk h2 h3) (Tg.snd Z.hK Z.calm Z.nd (fun _ => Z.fnA) m.g tg h5) (gss_cons (gs_yield (pe_D (m.y.snd _ _ ye Z.toStat tk h6)) S.co hin) gss_nil) (noSet_ok h4)) gss_nil), ?_⟩
  refine ⟨R, _, h, _, env_start ok r, hsp xs h _ _ q, ⟨fun R' ds σ H' h' e _ p => ?_, fun _ _ _ _ _ _ _ p => p.elim, fun _ _ _ _ _ _ _ p => p.elim, fun _ _ _ _ _ _ _ _ p => p.elim, fun R' ds σ H' h' y cls dd e _ r' p => k2 R' H' h' y cls dd p e.ex e.ok r'⟩⟩
  exact yld_walk e p (fun R2 ds2 σ2 H2 h2 acc ys p2 e2 r2 => k1 R2 H2 h2 acc ys p2 e2.ex e2.ok r2) fun R2 ds2 σ2 H2 h2 y cls dd z e2 r2 => k2 R2 H2 h2 y cls dd z e2.ex e2.ok r2
end
end DL
set_option maxHeartbeats 8000000
namespace DL
open PySem PySem.Spec PyProof.Rows L2
def frX (n : Nat) (g : Addr → Option Obj) : Fg := He.frT g (He.asD g n ++ [PySem.cStatics])
def obsX (n : Nat) (fa : List He.Fa) (fn : List He.DefD) (xt : Fg → Bool) (tf : List He.Defn) (g : Addr → Option Obj) : He.AlD := ((He.obsD fa fn (frX n g)).1 && (xt (frX n g) && He.tabsB g tf (frX n g)), (He.obsD fa fn (frX n g)).2)
structure SaysX (fa : List He.Fa) (fn : List He.DefD) (xt : Fg → Bool) (tf : List He.Defn) (h : Heap) (K : Fg) : Prop where
  d : He.SaysD fa fn K
  x : xt K = true
  hd : ∀ p ∈ tf, PySem.W.codeHdIn K (He.cT K p).1 (He.cT K p).2 = true
  out : ∀ p ∈ tf, K.lookup (He.cT K p).2 = none
  emp : ∀ p ∈ tf, h.get? (He.cT K p).2 = some { cls := .none, data := .fields #[] }
def hookX (n : Nat) (fa : List He.Fa) (fn : List He.DefD) (xt : Fg → Bool) (tf : List He.Defn) : PySem.W.Hook where
  α := He.AlD
  obs := fun s => obsX n fa fn xt tf s.heap.get?
  val := fun _ => He.valD fn
  says := fun _ h => ∃ K : Fg, K.In h ∧ SaysX fa fn xt tf h K
  of := fun _ s e => by
    refine ⟨frX n s.heap.get?, He.frT_in, ?_⟩
    have e0 : (((He.obsD fa fn (frX n s.heap.get?)).1 && (xt (frX n s.heap.get?) && He.tabsB s.heap.get? tf (frX n s.heap.get?)), (He.obsD fa fn (frX n s.heap.get?)).2) : He.AlD) = He.valD fn := e
    have e1 : ((He.obsD fa fn (frX n s.heap.get?)).1 && (xt (frX n s.heap.get?) && He.tabsB s.heap.get? tf (frX n s.heap.get?))) = true := (Prod.mk.inj e0).1
    have e2 : (He.obsD fa fn (frX n s.heap.get?)).2 = (He.valD fn).2 := (Prod.mk.inj e0).2
    obtain ⟨a, b⟩ := ba2 e1
    obtain ⟨b, c⟩ := ba2 b
    have key : ∀ p ∈ tf, PySem.W.codeHdIn (frX n s.heap.get?) (He.cT (frX n s.heap.get?) p).1 (He.cT (frX n s.heap.get?) p).2 = true ∧ ∃ o, s.heap.get? (He.cT (frX n s.heap.get?) p).2 = some o ∧ He.emptyTab o = true := fun p hp => by
      obtain ⟨k1, k2⟩ := ba2 (List.all_eq_true.mp c p hp)
      refine ⟨k1, ?_⟩
      split at k2
      · rename_i o ho; exact ⟨o, ho, k2⟩
      · cases k2
    exact ⟨Prod.ext a e2, b, fun p hp => (key p hp).1, fun p hp => by obtain ⟨_, o, q, z⟩ := key p hp; exact He.frT_none q z, fun p hp => by obtain ⟨_, o, q, z⟩ := key p hp; rw [q, He.emptyTab_eq z]⟩
  keeps := fun _ _ _ ⟨K, hK, c⟩ k => ⟨K, PySem.W.Frag.In.keeps hK k, ⟨c.d, c.x, c.hd, c.out, fun p hp => k _ _ (c.emp p hp)⟩⟩
theorem obsX_eq {n : Nat} {fa : List He.Fa} {fn : List He.DefD} {xt : Fg → Bool} {tf : List He.Defn} {g : Addr → Option Obj} {s : Shared} (h : ∀ a, g a = s.heap.get? a) : obsX n fa fn xt tf g = (hookX n fa fn xt tf).obs s := by
  have e : g = s.heap.get? := funext h
  rw [e]; rfl
end DL
set_option maxHeartbeats 4000000
namespace DL
open PySem PySem.Spec PyProof.Rows L2
section
variable {ds : DSt} {h : Hs} {P : W → Hs → Prop} {Pv : D → Hs → Prop} {Pa : List D → Hs → Prop} {Pt : Bool → Hs → Prop} {Z : XD} {Q : DEnds} {t u : TDE} {i : Nat}
@[simp] theorem x_dD : dD t ds h Pv Z = t ds h (fun w h' => ∃ d, toD w = some d ∧ Pv d h') Z := rfl
@[simp] theorem x_var : dVar i ds h P Z = ∃ w, ds[i]? = some (some w) ∧ P w h := rfl
@[simp] theorem x_c {d : D} : dC d ds h P Z = P (.d d) h := rfl
@[simp] theorem x_op2 {r : W → W → (W → Prop) → Prop} : dOp2 r t u ds h P Z = t ds h (fun x h1 => u ds h1 (fun y h2 => r x y fun z => P z h2) Z) Z := rfl
@[simp] theorem x_op1 {r : W → (W → Prop) → Prop} : dOp1 r t ds h P Z = t ds h (fun x h1 => r x fun z => P z h1) Z := rfl
@[simp] theorem x_and : dAnd t u ds h P Z = t ds h (fun x h1 => ∃ b, truW x = some b ∧ if b = true then u ds h1 P Z else P x h1) Z := rfl
@[simp] theorem x_or : dOr t u ds h P Z = t ds h (fun x h1 => ∃ b, truW x = some b ∧ if b = true then P x h1 else u ds h1 P Z) Z := rfl
@[simp] theorem x_notV : dNotV t ds h P Z = t ds h (fun x h1 => ∃ b, truW x = some b ∧ P (.d (.bl (!b))) h1) Z := rfl
@[simp] theorem x_if {c : TDT} : dIf c t u ds h P Z = c ds h (fun b h1 => if b = true then t ds h1 P Z else u ds h1 P Z) Z := rfl
@[simp] theorem x_ifT {c a b : TDT} : dIfT c a b ds h Pt Z = c ds h (fun x h1 => if x = true then a ds h1 Pt Z else b ds h1 Pt Z) Z := rfl
@[simp] theorem x_tru : dTru t ds h Pt Z = t ds h (fun w h' => ∃ b, truW w = some b ∧ Pt b h') Z := rfl
@[simp] theorem x_andT {a b : TDT} : dAndT a b ds h Pt Z = a ds h (fun x h1 => if x = true then b ds h1 Pt Z else Pt false h1) Z := rfl
@[simp] theorem x_orT {a b : TDT} : dOrT a b ds h Pt Z = a ds h (fun x h1 => if x = true then Pt true h1 else b ds h1 Pt Z) Z := rfl
@[simp] theorem x_notT {a : TDT} : dNotT a ds h Pt Z = a ds h (fun b h1 => Pt (!b) h1) Z := rfl
@[simp] theorem x_cmpT {op : Cop} : dCmpT op t u ds h Pt Z = t ds h (fun x h1 => u ds h1 (fun y h2 => wCmp op x y fun z => ∃ b, z = .d (.bl b) ∧ Pt b h2) Z) Z := rfl
@[simp] theorem x_isT {n : Bool} : dIsT n t ds h Pt Z = t ds h (fun x h1 => Pt (xor n (isNon x)) h1) Z := rfl
@[simp] theorem x_nil : dNil ds h Pa Z = Pa [] h := rfl
@[simp] theorem x_cons {a : TDA} : dCons t a ds h Pa Z = dD t ds h (fun x h1 => a ds h1 (fun xs h2 => Pa (x :: xs) h2) Z) Z := rfl
@[simp] theorem x_tup {a : TDA} : dTup a ds h P Z = a ds h (fun xs h1 => xs.length ≤ sizeLine ∧ P (.d (.tup xs)) h1) Z := rfl
@[simp] theorem x_lst {a : TDA} : dLst a ds h P Z = a ds h (fun xs h1 => xs.length ≤ sizeLine ∧ P (.new xs) h1) Z := rfl
@[simp] theorem x_call {n : Nat} {f : FnD} {a : TDA} : dCall n f a ds h P Z = a ds h (fun xs h1 => xs.length = n ∧ f xs h1 (fun d h2 => P (.d d) h2) Z) Z := rfl
@[simp] theorem x_mm {mx : Bool} : dMM mx t u ds h P Z = dCons t (dCons u dNil) ds h (fun xs h' => ∃ i j, xs = [.int i, .int j] ∧ P (.d (.int (mmI mx i j))) h') Z := rfl
@[simp] theorem x_join : dJoin t u ds h P Z = t ds h (fun x h1 => (∃ a, x = .d (.str a)) ∧ u ds h1 (fun y h2 => wJoin x y fun z => P z h2) Z) Z := rfl
@[simp] theorem x_act {a : Addr → ActD} : dAct i a ds h P Z = ∃ f, ds[i]? = some (some (.fn f)) ∧ a f h (fun d h' => P (.d d) h') Z := rfl
@[simp] theorem x_only {f g : Addr} {act : ActD} : onlyA f act g h Pv Z = (g = f ∧ act h Pv Z) := rfl
@[simp] theorem x_lam {sp : HFn} : dLam sp t ds h P Z = sp (fun h' P' Z' => dD t ds h' P' Z') h (fun d h' => P (.d d) h') Z := rfl
@[simp] theorem x_dget : dDget t u ds h P Z = t ds h (fun x h1 => u ds h1 (fun y h2 => ∃ n kvs k d, x = .d (.ref n) ∧ h2[n]? = some (.dic kvs) ∧ keyW y = some k ∧ valD kvs k = some d ∧ P (.d d) h2) Z) Z := rfl
@[simp] theorem x_dic {ks : List Str} {a : TDA} : dDic ks a ds h P Z = a ds h (fun xs h1 => xs.length = ks.length ∧ P (.d (.ref h1.length)) (h1 ++ [.dic ((ks.map Sum.inr).zip xs)])) Z := rfl
@[simp] theorem x_callK {n np nk : Nat} {pi : List Nat} {f : FnD} {a b : TDA} : dCallK n np nk pi f a b ds h P Z = a ds h (fun xs h1 => xs.length = np ∧ b ds h1 (fun ys h2 => ys.length = nk ∧ (pick pi (xs ++ ys)).length = n ∧ f (pick pi (xs ++ ys)) h2 (fun d h3 => P (.d d) h3) Z) Z) Z := rfl
@[simp] theorem keyW_i {n : Int} : keyW (.d (.int n)) = some (.inl n) := rfl
@[simp] theorem keyW_s {x : Str} : keyW (.d (.str x)) = some (.inr x) := rfl
@[simp] theorem x_next : dNext ds h Q = Q.nx ds h := rfl
@[simp] theorem x_seq {a b : TDS} : dSeq a b ds h Q = a ds h { Q with nx := fun ds' h' => b ds' h' Q } := rfl
@[simp] theorem x_ret : dRet t ds h Q = dD t ds h (fun d h' => Q.rt d h') (fun x h' => Q.ex x ds h') := rfl
@[simp] theorem x_set : dSet i t ds h Q = dD t ds h (fun d h' => Q.nx (ds.set i (some (.d d))) h') (fun x h' => Q.ex x ds h') := rfl
@[simp] theorem x_own : dOwn i t ds h Q = t ds h (fun w h' => ∃ xs, w = .new xs ∧ Q.nx (ds.set i (some (.own xs))) h') (fun x h' => Q.ex x ds h') := rfl
@[simp] theorem x_ite {c : TDT} {a b : TDS} : dIte c a b ds h Q = c ds h (fun b' h' => if b' = true then a ds h' Q else b ds h' Q) (fun x h' => Q.ex x ds h') := rfl
@[simp] theorem x_asg {g : Tg} : dAsg g t ds h Q = dD t ds h (fun d h' => g.put d ds fun ds' => Q.nx ds' h') (fun x h' => Q.ex x ds h') := rfl
@[simp] theorem x_for {it : TDI} {g : Tg} {b : TDS} : dFor it g b ds h Q = it ds h (fun xs h' => forD g b Q xs ds h') (fun x h' => Q.ex x ds h') := rfl
@[simp] theorem toD_d {x : D} : toD (.d x) = some x := rfl
@[simp] theorem toD_new {xs : List D} : toD (.new xs) = some (.lst xs) := rfl
@[simp] theorem tru_non : truW (.d .non) = some false := rfl
@[simp] theorem tru_bl {b : Bool} : truW (.d (.bl b)) = some b := rfl
@[simp] theorem tru_int {i : Int} : truW (.d (.int i)) = some (i != 0) := rfl
@[simp] theorem isNon_d {x : D} : isNon (.d x) = (match x with | .non => true | _ => false) := by cases x <;> rfl
@[simp] theorem wIs_d {n : Bool} {x : W} {Qw : W → Prop} : wIs n x Qw = Qw (.d (.bl (xor n (isNon x)))) := rfl
@[simp] theorem put_nm {j : Nat} {d : D} {Pp : DSt → Prop} : (Tg.nm j).put d ds Pp = Pp (ds.set j (some (.d d))) := by unfold Tg.put; rfl
@[simp] theorem put_tp {ts : Tgs} {d : D} {Pp : DSt → Prop} : (Tg.tp ts).put d ds Pp = ∃ xs, d = .tup xs ∧ xs.length = ts.len ∧ ts.put xs ds Pp := by rw [Tg.put]
@[simp] theorem puts_nil {xs : List D} {Pp : DSt → Prop} : Tgs.nil.put xs ds Pp = (xs = [] ∧ Pp ds) := by rw [Tgs.put]
@[simp] theorem puts_cons {a : Tg} {ts : Tgs} {x : D} {xs : List D} {Pp : DSt → Prop} : (Tgs.cons a ts).put (x :: xs) ds Pp = a.put x ds fun ds' => ts.put xs ds' Pp := by
  rw [Tgs.put]
  apply propext
  constructor
  · rintro ⟨y, r, e, p⟩; cases e; exact p
  · intro p; exact ⟨x, xs, rfl, p⟩
end
end DL
set_option maxHeartbeats 4000000
namespace DL
open PySem PySem.Spec PyProof.Rows L2
mutual
/-- at least as long as the text of it -/
def szD : D → Nat
  | .non => 4
  | .bl _ => 5
  | .int i => i.natAbs.log2 + 3
  | .str s => 10 * s.cps.size + 2
  | .ty _ => 0
  | .ref _ => 0
  | .tup xs => szDs xs + 3
  | .lst xs => szDs xs + 3
  | .fro xs => szDs xs + 3
  | .wtp xs => szDs xs + 3
def szDs : List D → Nat
  | [] => 0
  | x :: xs => szD x + 2 + szDs xs
end
mutual
def dpD : D → Nat
  | .tup xs => dpDs xs + 1
  | .lst xs => dpDs xs + 1
  | .fro xs => dpDs xs + 1
  | .wtp xs => dpDs xs + 1
  | _ => 0
def dpDs : List D → Nat
  | [] => 0
  | x :: xs => max (dpD x) (dpDs xs)
end
mutual
/-- plain data: what can be shown and compared -/
def plD : D → Bool
  | .non => true
  | .bl _ => true
  | .int i => decide (i.natAbs.log2 < 1920)
  | .str s => PyData.strOk s
  | .ty _ => false
  | .ref _ => false
  | .tup xs => plDs xs
  | .lst xs => plDs xs
  | .fro xs => plDs xs
  | .wtp xs => plDs xs
def plDs : List D → Bool
  | [] => true
  | x :: xs => plD x && plDs xs
end
mutual
def pyD : D → PyData
  | .non => .none
  | .bl b => .bool b
  | .int i => .int i
  | .str s => .str s
  | .ty _ => .none
  | .ref _ => .none
  | .tup xs => .tuple (pyDs xs)
  | .lst xs => .list (pyDs xs)
  | .fro xs => .list (pyDs xs)
  | .wtp xs => .tuple (pyDs xs)
def pyDs : List D → List PyData
  | [] => []
  | x :: xs => pyD x :: pyDs xs
end
mutual
theorem toPy_pl : ∀ {x : D}, plD x = true → toPy x = some (pyD x)
  | .non, _ => by simp [toPy, pyD]
  | .bl _, _ => by simp [toPy, pyD]
  | .int _, _ => by simp [toPy, pyD]
  | .str _, _ => by simp [toPy, pyD]
  | .ty _, h => by simp [plD] at h
  | .ref _, h => by simp [plD] at h
  | .tup xs, h => by simp [toPy, pyD, toPys_pl (xs := xs) (by simpa [plD] using h)]
  | .lst xs, h => by simp [toPy, pyD, toPys_pl (xs := xs) (by simpa [plD] using h)]
  | .fro xs, h => by simp [toPy, pyD, toPys_pl (xs := xs) (by simpa [plD] using h)]
  | .wtp xs, h => by simp [toPy, pyD, toPys_pl (xs := xs) (by simpa [plD] using h)]
theorem toPys_pl : ∀ {xs : List D}, plDs xs = true → toPys xs = some (pyDs xs)
  | [], _ => by simp [toPys, pyDs]
  | x :: xs, h => by
    simp [plDs] at h
    simp [toPys, pyDs, toPy_pl h.1, toPys_pl h.2]
end
mutual
theorem shw_pl : ∀ {x : D}, plD x = true → (pyD x).showable = true
  | .non, _ => by simp [pyD, PyData.showable]
  | .bl _, _ => by simp [pyD, PyData.showable]
  | .int _, h => by simpa [pyD, PyData.showable, plD] using h
  | .str _, _ => by simp [pyD, PyData.showable]
  | .ty _, h => by simp [plD] at h
  | .ref _, h => by simp [plD] at h
  | .tup xs, h => by simpa [pyD, PyData.showable] using shws_pl (xs := xs) (by simpa [plD] using h)
  | .lst xs, h => by simpa [pyD, PyData.showable] using shws_pl (xs := xs) (by simpa [plD] using h)
  | .fro xs, h => by simpa [pyD, PyData.showable] using shws_pl (xs := xs) (by simpa [plD] using h)
  | .wtp xs, h => by simpa [pyD, PyData.showable] using shws_pl (xs := xs) (by simpa [plD] using h)
theorem shws_pl : ∀ {xs : List D}, plDs xs = true → PyData.showableAll (pyDs xs) = true
  | [], _ => by simp [PyData.showableAll, pyDs]
  | x :: xs, h => by
    simp [plDs] at h
    simp [PyData.showableAll, pyDs, shw_pl h.1, shws_pl h.2]
end
mutual
theorem dep_pl : ∀ (x : D), (pyD x).depth = dpD x
  | .non => by simp [pyD, PyData.depth, dpD]
  | .bl _ => by simp [pyD, PyData.depth, dpD]
  | .int _ => by simp [pyD, PyData.depth, dpD]
  | .str _ => by simp [pyD, PyData.depth, dpD]
  | .ty _ => by simp [pyD, PyData.depth, dpD]
  | .ref _ => by simp [pyD, PyData.depth, dpD]
  | .tup xs => by simp [pyD, PyData.depth, dpD, deps_pl xs]
  | .lst xs => by simp [pyD, PyData.depth, dpD, deps_pl xs]
  | .fro xs => by simp [pyD, PyData.depth, dpD, deps_pl xs]
  | .wtp xs => by simp [pyD, PyData.depth, dpD, deps_pl xs]
theorem deps_pl : ∀ (xs : List D), PyData.depthAll (pyDs xs) = dpDs xs
  | [] => by simp [PyData.depthAll, pyDs, dpDs]
  | x :: xs => by simp [PyData.depthAll, pyDs, dpDs, dep_pl x, deps_pl xs]
end
mutual
theorem lay_pl : ∀ {x : D}, plD x = true → (pyD x).canLay0 = true
  | .non, _ => by simp [pyD, PyData.canLay0]
  | .bl _, _ => by simp [pyD, PyData.canLay0]
  | .int _, h => by simp [pyD, PyData.canLay0]
  | .str _, h => by simpa [pyD, PyData.canLay0, plD] using h
  | .ty _, h => by simp [plD] at h
  | .ref _, h => by simp [plD] at h
  | .tup xs, h => by simpa [pyD, PyData.canLay0] using lays_pl (xs := xs) (by simpa [plD] using h)
  | .lst xs, h => by simpa [pyD, PyData.canLay0] using lays_pl (xs := xs) (by simpa [plD] using h)
  | .fro xs, h => by simpa [pyD, PyData.canLay0] using lays_pl (xs := xs) (by simpa [plD] using h)
  | .wtp xs, h => by simpa [pyD, PyData.canLay0] using lays_pl (xs := xs) (by simpa [plD] using h)
theorem lays_pl : ∀ {xs : List D}, plDs xs = true → PyData.canLayAll0 (pyDs xs) = true
  | [], _ => by simp [PyData.canLayAll0, pyDs]
  | x :: xs, h => by
    simp [plDs] at h
    simp [PyData.canLayAll0, pyDs, lay_pl h.1, lays_pl h.2]
end
theorem sAll_len : ∀ (xs : List D), (PyData.shownAll (pyDs xs)).length = xs.length
  | [] => by simp [pyDs, PyData.shownAll]
  | x :: xs => by simp [pyDs, PyData.shownAll, sAll_len xs]
mutual
theorem len_pl : ∀ {x : D}, plD x = true → (pyD x).shown.length ≤ szD x
  | .non, _ => by simp only [pyD, szD]; decide
  | .bl b, _ => by simp only [pyD, szD]; cases b <;> decide
  | .int i, h => by
    simp only [pyD, szD, PyData.shown]
    have := int_text_length_le (a := i) (k := i.natAbs.log2 + 1) (by omega) (by omega)
    rw [PySem.ofString_length]
    omega
  | .str s, h => by
    simp only [pyD, szD, PyData.shown]
    refine StrLaws.reprText_len s fun c hc => ?_
    have h0 : s.cps.all (· < 0x110000) = true := by simpa only [plD, PyData.strOk] using h
    have := (Array.all_eq_true_iff_forall_mem.mp h0) c (Array.mem_toList_iff.mp hc)
    have e : (16 : Nat) ^ 8 = 4294967296 := by decide
    have : c < 0x110000 := by simpa using this
    omega
  | .ty _, h => by simp [plD] at h
  | .ref _, h => by simp [plD] at h
  | .tup xs, h => by
    have h1 := lens_pl (xs := xs) (by simpa [plD] using h)
    have h2 := tupleText_len_le (PyData.shownAll (pyDs xs))
    have h3 := sAll_len xs
    simp only [pyD, szD, PyData.shown]
    omega
  | .lst xs, h => by
    have h1 := lens_pl (xs := xs) (by simpa [plD] using h)
    have h2 := listText_len_le (PyData.shownAll (pyDs xs))
    have h3 := sAll_len xs
    simp only [pyD, szD, PyData.shown]
    omega
  | .wtp xs, h => by
    have h1 := lens_pl (xs := xs) (by simpa [plD] using h)
    have h2 := tupleText_len_le (PyData.shownAll (pyDs xs))
    have h3 := sAll_len xs
    simp only [pyD, szD, PyData.shown]
    omega
  | .fro xs, h => by
    have h1 := lens_pl (xs := xs) (by simpa [plD] using h)
    have h2 := listText_len_le (PyData.shownAll (pyDs xs))
    have h3 := sAll_len xs
    simp only [pyD, szD, PyData.shown]
    omega
theorem lens_pl : ∀ {xs : List D}, plDs xs = true → ((PyData.shownAll (pyDs xs)).map (·.length)).sum + 2 * xs.length ≤ szDs xs
  | [], _ => by simp [pyDs, PyData.shownAll, szDs]
  | x :: xs, h => by
    simp [plDs] at h
    have h1 := len_pl h.1
    have h2 := lens_pl h.2
    simp only [pyDs, PyData.shownAll, szDs, List.map_cons, List.sum_cons, List.length_cons]
    omega
end
/-- plain, not longer than n, not deeper than d -/
structure Bd (n d : Nat) (x : D) : Prop where
  pl : plD x = true
  sz : szD x ≤ n
  dp : dpD x ≤ d
structure Bds (n d : Nat) (xs : List D) : Prop where
  pl : plDs xs = true
  sz : szDs xs ≤ n
  dp : dpDs xs ≤ d
theorem Bd.mono {n d n' d' : Nat} {x : D} (h : Bd n d x) (hn : n ≤ n' := by omega) (hd : d ≤ d' := by omega) : Bd n' d' x := ⟨h.pl, Nat.le_trans h.sz hn, Nat.le_trans h.dp hd⟩
theorem Bds.mono {n d n' d' : Nat} {x : List D} (h : Bds n d x) (hn : n ≤ n' := by omega) (hd : d ≤ d' := by omega) : Bds n' d' x := ⟨h.pl, Nat.le_trans h.sz hn, Nat.le_trans h.dp hd⟩
theorem Bds.nil {d : Nat} : Bds 0 d [] := ⟨by simp [plDs], by simp [szDs], by simp [dpDs]⟩
theorem Bds.cons {n m d e : Nat} {x : D} {xs : List D} (h : Bd n d x) (hs : Bds m e xs) : Bds (n + 2 + m) (max d e) (x :: xs) :=
  ⟨by simp [plDs, h.pl, hs.pl], by have := h.sz; have := hs.sz; simp only [szDs]; omega, by have := h.dp; have := hs.dp; simp only [dpDs]; omega⟩
theorem Bds.tup {n d : Nat} {xs : List D} (h : Bds n d xs) : Bd (n + 3) (d + 1) (.tup xs) := ⟨by simpa [plD] using h.pl, by simp only [szD]; have := h.sz; omega, by simp only [dpD]; have := h.dp; omega⟩
theorem Bds.lst {n d : Nat} {xs : List D} (h : Bds n d xs) : Bd (n + 3) (d + 1) (.lst xs) := ⟨by simpa [plD] using h.pl, by simp only [szD]; have := h.sz; omega, by simp only [dpD]; have := h.dp; omega⟩
theorem Bds.head {n d : Nat} {x : D} {xs : List D} (h : Bds n d (x :: xs)) : Bd n d x := by
  have a := h.pl; have b := h.sz; have c := h.dp
  simp only [plDs, Bool.and_eq_true] at a; simp only [szDs] at b; simp only [dpDs] at c
  exact ⟨a.1, by omega, by omega⟩
theorem Bds.tail {n d : Nat} {x : D} {xs : List D} (h : Bds n d (x :: xs)) : Bds n d xs := by
  have a := h.pl; have b := h.sz; have c := h.dp
  simp only [plDs, Bool.and_eq_true] at a; simp only [szDs] at b; simp only [dpDs] at c
  exact ⟨a.2, by omega, by omega⟩
theorem Bds.get {n d : Nat} : ∀ {xs : List D} {x : D}, Bds n d xs → x ∈ xs → Bd n d x
  | [], x, _, h => by simp at h
  | y :: xs, x, b, h => by
    rcases List.mem_cons.mp h with rfl | h
    · exact b.head
    · exact b.tail.get h
theorem plDs_app : ∀ {xs ys : List D}, plDs (xs ++ ys) = (plDs xs && plDs ys)
  | [], ys => by simp [plDs]
  | x :: xs, ys => by simp [plDs, plDs_app (xs := xs), Bool.and_assoc]
theorem szDs_app : ∀ {xs ys : List D}, szDs (xs ++ ys) = szDs xs + szDs ys
  | [], ys => by simp [szDs]
  | x :: xs, ys => by simp only [List.cons_append, szDs, szDs_app (xs := xs)]; omega
theorem dpDs_app : ∀ {xs ys : List D}, dpDs (xs ++ ys) = max (dpDs xs) (dpDs ys)
  | [], ys => by simp [dpDs]
  | x :: xs, ys => by simp only [List.cons_append, dpDs, dpDs_app (xs := xs)]; omega
theorem Bds.app {n m d e : Nat} {xs ys : List D} (h : Bds n d xs) (g : Bds m e ys) : Bds (n + m) (max d e) (xs ++ ys) :=
  ⟨by simp [plDs_app, h.pl, g.pl], by rw [szDs_app]; have := h.sz; have := g.sz; omega, by rw [dpDs_app]; have := h.dp; have := g.dp; omega⟩
theorem Bds.appL {n d : Nat} {xs ys : List D} (h : Bds n d (xs ++ ys)) : Bds n d xs := by
  have a := h.pl; have b := h.sz; have c := h.dp
  rw [plDs_app, Bool.and_eq_true] at a; rw [szDs_app] at b; rw [dpDs_app] at c
  exact ⟨a.1, by omega, by omega⟩
theorem Bds.appR {n d : Nat} {xs ys : List D} (h : Bds n d (xs ++ ys)) : Bds n d ys := by
  have a := h.pl; have b := h.sz; have c := h.dp
  rw [plDs_app, Bool.and_eq_true] at a; rw [szDs_app] at b; rw [dpDs_app] at c
  exact ⟨a.2, by omega, by omega⟩
theorem Bds.take {n d : Nat} {xs : List D} (k : Nat) (h : Bds n d xs) : Bds n d (xs.take k) := Bds.appL (ys := xs.drop k) (by rw [List.take_append_drop]; exact h)
theorem Bds.drop {n d : Nat} {xs : List D} (k : Nat) (h : Bds n d xs) : Bds n d (xs.drop k) := Bds.appR (xs := xs.take k) (by rw [List.take_append_drop]; exact h)
theorem Bds.reverse {n d : Nat} : ∀ {xs : List D}, Bds n d xs → Bds n d xs.reverse := by
  intro xs
  have e1 : ∀ l : List D, plDs l.reverse = plDs l := by intro l; induction l with | nil => rfl | cons x l ih => rw [List.reverse_cons, plDs_app, ih]; simp [plDs, Bool.and_comm]
  have e2 : ∀ l : List D, szDs l.reverse = szDs l := by intro l; induction l with | nil => rfl | cons x l ih => rw [List.reverse_cons, szDs_app, ih]; simp [szDs]; omega
  have e3 : ∀ l : List D, dpDs l.reverse = dpDs l := by intro l; induction l with | nil => rfl | cons x l ih => rw [List.reverse_cons, dpDs_app, ih]; simp [dpDs]; omega
  intro h
  exact ⟨by rw [e1]; exact h.pl, by rw [e2]; exact h.sz, by rw [e3]; exact h.dp⟩
theorem Bds.len {n d : Nat} : ∀ {xs : List D}, Bds n d xs → 2 * xs.length ≤ n := by
  have : ∀ xs : List D, 2 * xs.length ≤ szDs xs := by
    intro xs; induction xs with
    | nil => simp
    | cons x xs ih => simp only [szDs, List.length_cons]; omega
  intro xs h
  exact Nat.le_trans (this xs) h.sz
theorem Bds.all {n d : Nat} : ∀ {xs : List D}, (∀ x ∈ xs, Bd n d x) → Bds (xs.length * (n + 2)) d xs
  | [], _ => by simpa using Bds.nil
  | x :: xs, h => by
    have := Bds.cons (h x (by simp)) (Bds.all (fun y hy => h y (List.mem_cons_of_mem _ hy)))
    refine this.mono ?_ (by omega)
    rw [List.length_cons, Nat.add_mul]; omega
theorem bd_non : Bd 4 0 .non := ⟨rfl, by simp [szD], by simp [dpD]⟩
theorem bd_bl {b : Bool} : Bd 5 0 (.bl b) := ⟨rfl, by simp [szD], by simp [dpD]⟩
theorem bd_int {i : Int} {k : Nat} (hk : k < 1920) (h : i.natAbs.log2 ≤ k) : Bd (k + 3) 0 (.int i) := ⟨by simp [plD]; omega, by simp [szD]; omega, by simp [dpD]⟩
theorem bd_int64 {i : Int} (h0 : -(2 ^ 64) < i) (h1 : i < 2 ^ 64) : Bd 67 0 (.int i) := bd_int (k := 64) (by decide) (by
  by_cases hz : i.natAbs = 0
  · rw [hz]; decide
  · have : i.natAbs.log2 < 64 := (Nat.log2_lt hz).mpr (by omega)
    omega)
/-- repr -/
theorem repr_bd {n d : Nat} {x : D} {Q : W → Prop} (h : Bd n d x) (hn : n ≤ sizeLine) (hd : d ≤ 40) (q : Q (.d (.str (pyD x).shown))) : wB1 .repr (.d x) Q :=
  ⟨pyD x, toPy_pl h.pl, shw_pl h.pl, by rw [dep_pl]; have := h.dp; omega, by have := len_pl h.pl; have := h.sz; omega, q⟩
/-- == of data -/
theorem shp_pl {x : D} (h : plD x = true) (hd : dpD x ≤ 64) : SeqAt.shaped (pyD x) = true := by
  unfold SeqAt.shaped
  simp only [lay_pl h, dep_pl, Bool.true_and, decide_eq_true_eq]
  exact hd
end DL
set_option maxHeartbeats 8000000
namespace DL
open PySem PySem.Spec PyProof.Rows L2
def fin (Q : D → Hs → Prop) (Z : XD) : DEnds := ⟨fun _ h' => Q .non h', Q, fun y _ h' => Z y h', fun _ _ => False, fun _ _ => False⟩
/-- a def keeps its promise, over trees -/
def Kp (M : Xm) (F : Fns) (m : Ss) (n : Nat) (sp : FnD) : Prop := ∀ xs h Q Z, sp xs h Q Z → m.d M F (startD n xs) h (fin Q Z)
def never : FnD := fun _ _ _ _ => False
def Fns.up (F : Fns) (i : Nat) (sp : FnD) : Fns := { F with f := fun j => if j = i then sp else F.f j }
def Fns.upH (F : Fns) (i : Nat) (sp : HFn) : Fns := { F with g := fun j => if j = i then sp else F.g j }
def Fns.upG (F : Fns) (i : Nat) (sp : GnD) : Fns := { F with e := fun j => if j = i then sp else F.e j }
/-- a generator def keeps its promise, over trees -/
def KpG (M : Xm) (F : Fns) (m : Dg) (sp : GnD) : Prop := ∀ xs h Q Z, sp xs h Q Z → m.d M F (startD m.N.length xs) h Q Z
/-- a def that calls what it is handed keeps its promise -/
def KpH (M : Xm) (F : Fns) (m : Ss) (n : Nat) (sp : HFn) : Prop := ∀ f act h Q Z, sp act h Q Z → m.d M { F with a := onlyA f act } (startF n f) h (fin Q Z)
structure Df where
  name : Str
  st : Stmt
  N : List Str
  ps : List Str
  m : Ss
structure Lw where
  M : Xm
  defs : List Df
  free : List Str
  con : List (Str × D)
  hos : List Df := []
  lam : List Str := []
  ko : List (Str × Nat × List (Str × Kq)) := []
  gens : List Dg := []
  gx : Nat := 0
  sh : Bool := true
def Lw.koN (L : Lw) (x : Str) : Option (Nat × List (Str × Kq)) := (L.ko.find? fun p => decide (p.1 = x)).map (·.2)
def Lw.G (L : Lw) : Gm := ⟨L.sh, L.defs.map fun d => (d.name, d.ps.length, L.sh), L.free, L.con.map (·.1), L.hos.map (·.name), L.defs.map (·.ps), false, L.defs.map fun d => L.koN d.name, L.gens.map fun d => (d.name, d.ps), L.gx⟩
def Lw.GL (L : Lw) (d : Df) : Gm := if d.name ∈ L.lam then { L.G with lm := true } else L.G
def Lw.chk (L : Lw) : Bool := ((List.range L.gx).all fun c => decide (c < L.M.n) && hotN.contains (L.M.names.getD c "")) && ((L.gens.all fun d => decide (posA (defArgs d.st) = some d.ps)) && (L.defs.all fun d => defB L.M (L.GL d) d.N d.ps d.m d.st (L.koN d.name)) && L.hos.all fun d => defB L.M L.G d.N d.ps d.m d.st none && decide (d.ps.length = 1))
def Df.he (d : Df) : He.DefD := ⟨(d.name, none), d.name, d.name, defArgs d.st, defBody d.st, defScope d.st, [], []⟩
def Dg.he (d : Dg) : He.DefD := ⟨(d.name, none), d.name, d.name, defArgs d.st, defBody d.st, defScope d.st, [], []⟩
def kqL : Option (Nat × List (Str × Kq)) → List (Str × Kq)
  | some p => p.2
  | none => []
def Lw.he (L : Lw) (d : Df) : He.DefD := ⟨(d.name, none), d.name, d.name, defArgs d.st, defBody d.st, defScope d.st, [], (kqL (L.koN d.name)).map fun p => (p.1, p.2.dv)⟩
def Lw.kv (L : Lw) (d : Df) : List (Str × V) := (kqL (L.koN d.name)).map fun p => (p.1, p.2.v)
theorem Lw.he_kws (L : Lw) (d : Df) (K : Fg) : (L.he d).kws K = L.kv d := by
  unfold Lw.he Lw.kv He.DefD.kws
  rw [List.map_map]
  exact List.map_congr_left fun p _ => by simp [Kq.dv_v]
def Lw.fn (L : Lw) : List He.DefD := L.defs.map L.he ++ L.hos.map Df.he ++ L.gens.map Dg.he
def Lw.tf (L : Lw) : List He.Defn := L.lam.map fun x => (x, none)
def Lw.cs (L : Lw) (K : Fg) : List (Addr × Addr) := L.lam.map fun x => He.cT K (x, none)
def lamQ (x : Str) : Str := x ++ ".<locals>." ++ "<lambda>"
def Lw.fa (L : Lw) : List He.Fa := (L.defs.map fun d => .glo d.name) ++ (L.M.names.map .glo) ++ L.free.map .free ++ (L.hos.map fun d => .glo d.name) ++ L.gens.map fun d => .glo d.name
def Lw.F0 (L : Lw) : Fns := { f := fun _ => never, c := fun j => ((L.con[j]?).map (·.2)).getD .non }
mutual
def rdB (K : Fg) : D → Value → Bool
  | .non, .none => true
  | .bl b, .bool c => b == c
  | .int i, .int j _ => decide (i = j)
  | .str x, .str y _ => decide (x = y)
  | .wtp ds, .ref a => (match K.lookup a with
    | some ⟨.type c, _, .seq its _, _⟩ => decide (c = "tuple") && (decide (its.size ≤ sizeLine) && rdBs K ds its.toList)
    | _ => false)
  | .fro ds, .ref a => (match K.lookup a with
    | some ⟨.type c, none, .seq its _, _⟩ => decide (c = "list") && (decide (its.size ≤ sizeLine) && rdBs K ds its.toList)
    | _ => false)
  | _, _ => false
def rdBs (K : Fg) : List D → List Value → Bool
  | [], [] => true
  | d :: ds, u :: us => rdB K d u && rdBs K ds us
  | _, _ => false
end
mutual
theorem rdB_ok {K : Fg} : ∀ {d : D} {u : Value}, rdB K d u = true → ∃ v, RelV v u ∧ ∀ R H, RelD K R H d v
  | .non, u, h => by cases u <;> first | (simp [rdB] at h; done) | exact ⟨.non, rfl, fun _ _ => m_non⟩
  | .bl b, u, h => by
    cases u <;> first | (simp [rdB] at h; done) | skip
    simp [rdB] at h; subst h
    exact ⟨.bl b, rfl, fun _ _ => m_bl⟩
  | .int b, u, h => by
    cases u <;> first | (simp [rdB] at h; done) | skip
    simp [rdB] at h; subst h
    exact ⟨.int b, ⟨_, rfl⟩, fun _ _ => m_int⟩
  | .str b, u, h => by
    cases u <;> first | (simp [rdB] at h; done) | skip
    simp [rdB] at h; subst h
    exact ⟨.str b, ⟨_, rfl⟩, fun _ _ => m_str⟩
  | .ty _, u, h => by cases u <;> simp [rdB] at h
  | .ref _, u, h => by cases u <;> simp [rdB] at h
  | .lst _, u, h => by cases u <;> simp [rdB] at h
  | .tup _, u, h => by cases u <;> simp [rdB] at h
  | .wtp ds, u, h => by
    cases u <;> first | (simp [rdB] at h; done) | skip
    rename_i a
    unfold rdB at h
    split at h
    · rename_i c dd its n sl e
      obtain ⟨h1, h⟩ := ba2 h
      obtain ⟨h2, h3⟩ := ba2 h
      cases of_decide_eq_true h1
      obtain ⟨vs, r, t⟩ := rdBs_ok h3
      exact ⟨.ref a, rfl, fun R H => m_wtp (fun _ => .inr ⟨_, its, n, e, rfl, rfl, of_decide_eq_true h2, r⟩) (t R H)⟩
    · cases h
  | .fro ds, u, h => by
    cases u <;> first | (simp [rdB] at h; done) | skip
    rename_i a
    unfold rdB at h
    split at h
    · rename_i c its n sl e
      obtain ⟨h1, h⟩ := ba2 h
      obtain ⟨h2, h3⟩ := ba2 h
      cases of_decide_eq_true h1
      obtain ⟨vs, r, t⟩ := rdBs_ok h3
      refine ⟨.ref a, rfl, fun R H => ?_⟩
      unfold RelD
      exact ⟨a, vs, rfl, .inr ⟨_, its, n, e, rfl, rfl, rfl, of_decide_eq_true h2, r⟩, t R H⟩
    · cases h
theorem rdBs_ok {K : Fg} : ∀ {ds : List D} {us : List Value}, rdBs K ds us = true → ∃ vs, Vals vs us ∧ ∀ R H, RelDs K R H ds vs
  | [], [], _ => ⟨[], .nil, fun _ _ => m_nil⟩
  | [], _ :: _, h => by simp [rdBs] at h
  | _ :: _, [], h => by simp [rdBs] at h
  | d :: ds, u :: us, h => by
    unfold rdBs at h
    obtain ⟨h1, h2⟩ := ba2 h
    obtain ⟨v, r1, t1⟩ := rdB_ok h1
    obtain ⟨vs, r2, t2⟩ := rdBs_ok h2
    exact ⟨v :: vs, .cons r1 r2, fun R H => m_cons (t1 R H) (t2 R H)⟩
end
/-- the module's name x is the constant d -/
def conB (K : Fg) (x : Str) (d : D) : Bool := match PySem.W.nsIn K mainGlobals x with
  | some (some u) => rdB K d u
  | _ => false
def xmB (prog : Program) (M : Xm) (K : Fg) : Bool := decide (M.names.length = M.n) && (List.range M.n).all fun c => xfB K (He.ga K (M.names.getD c "")) && ((List.range M.n).all fun c' =>
    ((M.flds c').all fun f => He.eqO (PySem.W.findIn K (.ref (He.ga K (M.names.getD c ""))) f) (some none)) && decide (PySem.W.exmOne K (.ref (He.ga K (M.names.getD c ""))) (.ref (He.ga K (M.names.getD c' ""))) = some (M.sub c c')) && (decide (c = c') || decide (He.ga K (M.names.getD c "") ≠ He.ga K (M.names.getD c' "")))) &&
  (!M.rs c || (xiB prog K (M.names.getD c "") (M.flds c) && decide ((M.flds c).length ≤ 1000))) && (decide (cold K (.ref (He.ga K (M.names.getD c ""))) = !hotN.contains (M.names.getD c "")) && excB K (He.ga K (M.names.getD c "")))
def Lw.xt (L : Lw) (prog : Program) (K : Fg) : Bool := ((List.range L.gx).all fun c => decide (PySem.W.subIn K (.ref (He.ga K (L.M.names.getD c ""))) (.type "StopIteration") = some false)) && (xmB prog L.M K && ((L.con.all fun p => conB K p.1 p.2) && L.lam.all fun x => L.lam.all fun y => decide (x = y) || decide ((He.cT K (x, none)).2 ≠ (He.cT K (y, none)).2)))
def Lw.Cl (L : Lw) (K : Fg) : Cm := ⟨fun c => He.ga K (L.M.names.getD c ""), L.lam.map fun x => ((He.cT K (x, none)).2, lamQ x)⟩
/-- what the head says -/
structure Hd (L : Lw) (P : Program) (K : Fg) (mg : Str → Option Value) : Prop where
  def_ : ∀ (i : Nat) (d : Df), L.defs[i]? = some d → ∃ fd, FunD K d.name d.name (defArgs d.st) (defBody d.st) (defScope d.st) [] (L.kv d) (He.ga K d.name) fd ∧ mg d.name = some (.ref (He.ga K d.name))
  hdef : ∀ (i : Nat) (d : Df), L.hos[i]? = some d → ∃ fd, FunD K d.name d.name (defArgs d.st) (defBody d.st) (defScope d.st) [] [] (He.ga K d.name) fd ∧ mg d.name = some (.ref (He.ga K d.name))
  one : ∀ x ∈ L.lam, ∀ y ∈ L.lam, (He.cT K (x, none)).2 = (He.cT K (y, none)).2 → x = y
  free : ∀ x ∈ L.free, mg x = none
  con : ∀ (j : Nat) (x : Str), (L.con.map (·.1))[j]? = some x → ∃ v u, mg x = some u ∧ RelV v u ∧ ∀ R H, RelD K R H (L.F0.c j) v
  xm : XmOk L.M K (L.Cl K)
  xmg : ∀ (c : Nat) (x : Str), L.M.names[c]? = some x → mg x = some (.ref (L.Cl K c))
  xmk : ∀ (c : Nat) (x : Str), L.M.names[c]? = some x → L.M.rs c = true → (∃ fI, XiC P K mg (L.Cl K c) fI (L.M.flds c)) ∧ (L.M.flds c).length ≤ 1000
  gdef : ∀ (i : Nat) (d : Dg), L.gens[i]? = some d → ∃ fd, FunD K d.name d.name (defArgs d.st) (defBody d.st) (defScope d.st) [] [] (He.ga K d.name) fd ∧ mg d.name = some (.ref (He.ga K d.name))
  gsub : ∀ c, c < L.gx → PySem.W.subIn K (.ref (L.Cl K c)) (.type "StopIteration") = some false
theorem Hd.of {L : Lw} {P : Program} {K : Fg} {mg : Str → Option Value} {h : Heap} (kin : K.In h) (ns : h.Ns mainGlobals mg) (hsup : ("super" : Str) ∈ L.free) (c : SaysX L.fa L.fn (L.xt P) L.tf h K) : Hd L P K mg := by
  obtain ⟨c, x, _, _, _⟩ := c
  obtain ⟨x0, x⟩ := ba2 x
  obtain ⟨x1, x2⟩ := ba2 x
  obtain ⟨x2, x3⟩ := ba2 x2
  have hfr : ∀ y ∈ L.free, mg y = none := fun y hy => by
    have hm : He.Fa.free y ∈ L.fa := by unfold Lw.fa; simp [hy]
    obtain ⟨i, hi⟩ := List.getElem?_of_mem hm
    exact He.free_ok kin ns (c.fact i hi)
  unfold xmB at x1
  obtain ⟨y1, y2⟩ := ba2 x1
  have hn : L.M.names.length = L.M.n := of_decide_eq_true y1
  have y3 : ∀ c, c < L.M.n → (xfB K (He.ga K (L.M.names.getD c "")) && ((List.range L.M.n).all fun c' =>
    ((L.M.flds c').all fun f => He.eqO (PySem.W.findIn K (.ref (He.ga K (L.M.names.getD c ""))) f) (some none)) && decide (PySem.W.exmOne K (.ref (He.ga K (L.M.names.getD c ""))) (.ref (He.ga K (L.M.names.getD c' ""))) = some (L.M.sub c c')) && (decide (c = c') || decide (He.ga K (L.M.names.getD c "") ≠ He.ga K (L.M.names.getD c' "")))) &&
  (!L.M.rs c || (xiB P K (L.M.names.getD c "") (L.M.flds c) && decide ((L.M.flds c).length ≤ 1000)))) = true := fun c hc => (ba2 (List.all_eq_true.mp y2 c (List.mem_range.mpr hc))).1
  have y4 : ∀ c, c < L.M.n → cold K (.ref (He.ga K (L.M.names.getD c ""))) = !hotN.contains (L.M.names.getD c "") := fun c hc => of_decide_eq_true (ba2 (ba2 (List.all_eq_true.mp y2 c (List.mem_range.mpr hc))).2).1
  have y5 : ∀ c, c < L.M.n → excB K (He.ga K (L.M.names.getD c "")) = true := fun c hc => (ba2 (ba2 (List.all_eq_true.mp y2 c (List.mem_range.mpr hc))).2).2
  have gd : ∀ (c : Nat) (x : Str), L.M.names[c]? = some x → L.M.names.getD c "" = x := fun c x e => by simp [List.getD, e]
  refine ⟨fun i d e => ?_, fun i d e => ?_, fun x hx y hy e => ?_, hfr, fun j y e => ?_, ⟨fun c hc => ?_, fun c c' f hc hc' hf => ?_, fun c c' hc hc' => ?_, fun c c' hc hc' he => ?_, fun c hc => y4 c hc, fun c hc => excB_ok (xfB_ok (ba2 (ba2 (y3 c hc)).1).1) (y5 c hc)⟩, fun cc y e => ?_, fun cc y e hr => ?_, fun i d e => ?_, fun c hc => of_decide_eq_true (List.all_eq_true.mp x0 c (List.mem_range.mpr hc))⟩
  · have hm : He.Fa.glo d.name ∈ L.fa := by
      unfold Lw.fa
      simp only [List.mem_append, List.mem_map]
      exact .inl (.inl (.inl (.inl ⟨d, List.mem_of_getElem? e, rfl⟩)))
    obtain ⟨j, hj⟩ := List.getElem?_of_mem hm
    obtain ⟨fd, F⟩ := c.defs (d := L.he d) (by unfold Lw.fn; exact List.mem_append_left _ (List.mem_append_left _ (List.mem_map.mpr ⟨d, List.mem_of_getElem? e, rfl⟩)))
    rw [L.he_kws] at F
    exact ⟨fd, F, He.glo_ok kin ns (c.fact j hj)⟩
  · have hm : He.Fa.glo d.name ∈ L.fa := by
      unfold Lw.fa
      simp only [List.mem_append, List.mem_map]
      exact .inl (.inr ⟨d, List.mem_of_getElem? e, rfl⟩)
    obtain ⟨j, hj⟩ := List.getElem?_of_mem hm
    obtain ⟨fd, F⟩ := c.defs (d := d.he) (by unfold Lw.fn; exact List.mem_append_left _ (List.mem_append_right _ (List.mem_map.mpr ⟨d, List.mem_of_getElem? e, rfl⟩)))
    exact ⟨fd, F, He.glo_ok kin ns (c.fact j hj)⟩
  · have z := List.all_eq_true.mp (List.all_eq_true.mp x3 x hx) y hy
    simp only [Bool.or_eq_true, decide_eq_true_eq] at z
    rcases z with z | z
    · exact z
    · exact absurd e z
  · rw [List.getElem?_map] at e
    obtain ⟨p, e1, rfl⟩ := Option.map_eq_some_iff.mp e
    have q := List.all_eq_true.mp x2 p (List.mem_of_getElem? e1)
    unfold conB at q
    split at q
    · rename_i u hu
      obtain ⟨v, r, t⟩ := rdB_ok q
      refine ⟨v, u, PySem.W.mg_of kin ns hu, r, fun R H => ?_⟩
      have : L.F0.c j = p.2 := by unfold Lw.F0; simp [e1]
      rw [this]
      exact t R H
    · cases q
  · exact xfB_ok (ba2 (ba2 (y3 c hc)).1).1
  · have z := List.all_eq_true.mp (ba2 (ba2 (y3 c hc)).1).2 c' (List.mem_range.mpr hc')
    exact He.eqO_ok (List.all_eq_true.mp (ba2 (ba2 z).1).1 f hf)
  · have z := List.all_eq_true.mp (ba2 (ba2 (y3 c hc)).1).2 c' (List.mem_range.mpr hc')
    exact of_decide_eq_true (ba2 (ba2 z).1).2
  · have z := List.all_eq_true.mp (ba2 (ba2 (y3 c hc)).1).2 c' (List.mem_range.mpr hc')
    have z2 := (ba2 z).2
    simp only [Bool.or_eq_true, decide_eq_true_eq] at z2
    rcases z2 with z2 | z2
    · exact z2
    · exact absurd he z2
  · have hm : He.Fa.glo y ∈ L.fa := by
      unfold Lw.fa
      simp only [List.mem_append, List.mem_map]
      exact .inl (.inl (.inl (.inr ⟨y, List.mem_of_getElem? e, rfl⟩)))
    obtain ⟨j, hj⟩ := List.getElem?_of_mem hm
    show mg y = some (.ref (He.ga K (L.M.names.getD cc "")))
    rw [gd cc y e]
    exact He.glo_ok kin ns (c.fact j hj)
  · have hc : cc < L.M.n := by rw [← hn]; exact (List.getElem?_eq_some_iff.mp e).1
    have z := (ba2 (y3 cc hc)).2
    rw [hr] at z
    simp only [Bool.not_true, Bool.false_or] at z
    obtain ⟨z1, z2⟩ := ba2 z
    exact ⟨⟨_, xiB_ok z1 (hfr _ hsup)⟩, of_decide_eq_true z2⟩
  · have hm : He.Fa.glo d.name ∈ L.fa := by
      unfold Lw.fa
      simp only [List.mem_append, List.mem_map]
      exact .inr ⟨d, List.mem_of_getElem? e, rfl⟩
    obtain ⟨j, hj⟩ := List.getElem?_of_mem hm
    obtain ⟨fd, F⟩ := c.defs (d := d.he) (by unfold Lw.fn; exact List.mem_append_right _ (List.mem_map.mpr ⟨d, List.mem_of_getElem? e, rfl⟩))
    exact ⟨fd, F, He.glo_ok kin ns (c.fact j hj)⟩
section
variable {L : Lw} {P : Program} {w : World} {K : Fg} {mg : Str → Option Value} {base : Heap} {F : Fns} {k : Nat}
theorem Lw.cs_emp {h : Heap} (c : SaysX L.fa L.fn (L.xt P) L.tf h K) : ∀ p ∈ L.cs K, h.get? p.2 = some emptyT := fun p hp => by
  obtain ⟨x, hx, rfl⟩ := List.mem_map.mp hp
  exact c.emp _ (List.mem_map.mpr ⟨x, hx, rfl⟩)
theorem Lw.cs_out {h : Heap} (c : SaysX L.fa L.fn (L.xt P) L.tf h K) : ∀ p ∈ L.cs K, K.lookup p.2 = none := fun p hp => by
  obtain ⟨x, hx, rfl⟩ := List.mem_map.mp hp
  exact c.out _ (List.mem_map.mpr ⟨x, hx, rfl⟩)
theorem Lw.cs_hd {h : Heap} (c : SaysX L.fa L.fn (L.xt P) L.tf h K) : ∀ p ∈ L.cs K, PySem.W.codeHdIn K p.1 p.2 = true := fun p hp => by
  obtain ⟨x, hx, rfl⟩ := List.mem_map.mp hp
  exact c.hd _ (List.mem_map.mpr ⟨x, hx, rfl⟩)
theorem Lw.cs_T : ∀ q ∈ (L.Cl K).T, ∃ p ∈ L.cs K, p.2 = q.1 := fun q hq => by
  obtain ⟨x, hx, rfl⟩ := List.mem_map.mp hq
  exact ⟨_, List.mem_map.mpr ⟨x, hx, rfl⟩, rfl⟩
theorem Lw.g_fn {i : Nat} {p : Str × Nat × Bool} (h : L.G.fn[i]? = some p) : ∃ d, L.defs[i]? = some d ∧ p = (d.name, d.ps.length, L.sh) := by
  unfold Lw.G at h
  rw [List.getElem?_map] at h
  obtain ⟨d, e, rfl⟩ := Option.map_eq_some_iff.mp h
  exact ⟨d, e, rfl⟩
theorem Lw.g_hn {i : Nat} {x : Str} (h : L.G.hn[i]? = some x) : ∃ d, L.hos[i]? = some d ∧ x = d.name := by
  unfold Lw.G at h
  rw [List.getElem?_map] at h
  obtain ⟨d, e, rfl⟩ := Option.map_eq_some_iff.mp h
  exact ⟨d, e, rfl⟩
theorem Lw.g_ps {i : Nat} {qs : List Str} {d : Df} (h : L.G.ps[i]? = some qs) (e : L.defs[i]? = some d) : qs = d.ps := by
  unfold Lw.G at h
  rw [List.getElem?_map, e] at h
  cases h; rfl
theorem Lw.chk_at (h : L.chk = true) {i : Nat} {d : Df} (e : L.defs[i]? = some d) : defB L.M (L.GL d) d.N d.ps d.m d.st (L.koN d.name) = true := List.all_eq_true.mp (ba2 (ba2 (ba2 h).2).1).2 d (List.mem_of_getElem? e)
theorem Lw.chk_h (h : L.chk = true) {i : Nat} {d : Df} (e : L.hos[i]? = some d) : defB L.M L.G d.N d.ps d.m d.st none = true ∧ d.ps.length = 1 := by
  obtain ⟨a, b⟩ := ba2 (List.all_eq_true.mp (ba2 (ba2 h).2).2 d (List.mem_of_getElem? e))
  exact ⟨a, of_decide_eq_true b⟩
theorem chk_pos {M : Xm} {G : Gm} {N ps : List Str} {m : Ss} {st : Stmt} {ko : Option (Nat × List (Str × Kq))} (h : defB M G N ps m st ko = true) (hk : ko = none) : posA (defArgs st) = some ps := by
  subst hk
  unfold defB at h
  exact of_decide_eq_true (ba2 h).2
theorem chk_ko {M : Xm} {G : Gm} {N ps : List Str} {m : Ss} {st : Stmt} {np : Nat} {dfl : List (Str × Kq)} {K : Fg} {x qual : Str} {f : Addr} {fd : FuncData} (h : defB M G N ps m st (some (np, dfl)) = true) (Fu : FunD K x qual (defArgs st) (defBody st) (defScope st) [] (dfl.map fun p => (p.1, p.2.v)) f fd) : KoB K fd ps np dfl := by
  unfold defB at h
  obtain ⟨h1, h2⟩ := ba2 (ba2 h).2
  exact koB_of Fu (of_decide_eq_true h1) (of_decide_eq_true h2) fun p hp => List.mem_map.mpr ⟨p, hp, rfl⟩
theorem Lw.g_ko {L : Lw} {i : Nat} {d : Df} (e : L.defs[i]? = some d) : L.G.koA i = L.koN d.name := by
  unfold Lw.G Gm.koA
  rw [List.getElem?_map, e] <;> rfl
theorem Lw.kvs {L : Lw} {d : Df} {np : Nat} {dfl : List (Str × Kq)} (h : L.koN d.name = some (np, dfl)) : L.kv d = dfl.map fun p => (p.1, p.2.v) := by
  unfold Lw.kv
  rw [h] <;> rfl
theorem posA_bindsTo {K : Fg} {x qual y : Str} {st : Stmt} {f : Addr} {fd : FuncData} {kws : List (Str × V)} (Fu : FunD K x qual (defArgs st) (defBody st) (defScope st) [] kws f fd) (h : posA (defArgs st) = some [y]) (s : Shared) (u : Value) : BindsTo s fd ⟨[u], []⟩ [(y, u)] := by
  obtain ⟨oc, od, dV, kV, doc, pm, an, cdv, ct, osl, rfl, lk, hcd, hdv, hkw⟩ := Fu.ex
  have hd : dV = .none := by
    rcases hdv with ⟨_, z⟩ | ⟨z, _⟩
    · exact z
    · exact absurd rfl z
  subst hd
  exact .of_eq (posA_bind (fd := PySem.W.fnOf x qual (defArgs st) (defBody st) (defScope st) .none kV doc pm an cdv ct) h rfl [u] rfl)
theorem funD_bk {K : Fg} {x qual : Str} {st : Stmt} {ps : List Str} {f : Addr} {fd : FuncData} {kws : List (Str × V)} (Fu : FunD K x qual (defArgs st) (defBody st) (defScope st) [] kws f fd) (h : posA (defArgs st) = some ps) : BK fd ps := by
  obtain ⟨oc, od, dV, kV, doc, pm, an, cdv, ct, osl, rfl, lk, hcd, hdv, hkw⟩ := Fu.ex
  have hd : dV = .none := by
    rcases hdv with ⟨_, z⟩ | ⟨z, _⟩
    · exact z
    · exact absurd rfl z
  subst hd
  exact fun ks pi us ws h1 h2 => bind_kw (fd := PySem.W.fnOf x qual (defArgs st) (defBody st) (defScope st) .none kV doc pm an cdv ct) h rfl h1 h2
theorem Lw.g_gn {i : Nat} {p : Str × List Str} (h : L.G.gn[i]? = some p) : ∃ d, L.gens[i]? = some d ∧ p = (d.name, d.ps) := by
  unfold Lw.G at h
  rw [List.getElem?_map] at h
  obtain ⟨d, e, rfl⟩ := Option.map_eq_some_iff.mp h
  exact ⟨d, e, rfl⟩
theorem Lw.chk_g (h : L.chk = true) {i : Nat} {d : Dg} (e : L.gens[i]? = some d) : posA (defArgs d.st) = some d.ps := of_decide_eq_true (List.all_eq_true.mp (ba2 (ba2 (ba2 h).2).1).1 d (List.mem_of_getElem? e))
theorem Hd.hot (hd : Hd L P K mg) (hc : L.chk = true) : ∀ c, c < L.gx → cold K (.ref (L.Cl K c)) = false ∧ PySem.W.subIn K (.ref (L.Cl K c)) (.type "StopIteration") = some false := fun c h => by
  obtain ⟨h1, h2⟩ := ba2 (List.all_eq_true.mp (ba2 hc).1 c (List.mem_range.mpr h))
  refine ⟨?_, hd.gsub c h⟩
  rw [hd.xm.cold c (of_decide_eq_true h1), h2]
  rfl
theorem one_of {ps : List Str} (h : ps.length = 1) : ∃ a, ps = [a] := by
  match ps, h with
  | [a], _ => exact ⟨a, rfl⟩
/-- ahead of all defs -/
theorem Hd.first (hd : Hd L P K mg) (hc : L.chk = true) : ModD L.M L.G L.F0 (L.Cl K) L.sh 1 P w K mg base where
  sh := fun z => z
  k1 := Nat.le_refl _
  free := hd.free
  con := hd.con
  fn := fun C hK hC i p e => by
    obtain ⟨d, e1, rfl⟩ := Lw.g_fn e
    obtain ⟨fd, Fu, hg⟩ := hd.def_ i d e1
    have ck := L.chk_at hc e1
    refine ⟨_, fd, d.ps, hg, Fu.kp, rfl, fun z => funD_binds Fu (chk_pos ck ((L.g_ko e1).symm.trans z)), ⟨fun vs H Q E z => ?_, fun A o s H a us vs Q E _ _ _ _ _ z => ?_⟩, fun z => z, fun z => funD_bk Fu (chk_pos ck ((L.g_ko e1).symm.trans z)), fun qs h => Lw.g_ps h e1, fun np dfl z => by
      have z2 := (L.g_ko e1).symm.trans z
      rw [z2] at ck
      rw [Lw.kvs z2] at Fu
      exact chk_ko ck Fu⟩
    · obtain ⟨R, xs, h, P, Z, _, _, _, q, _⟩ := z; exact q.elim
    · obtain ⟨R, xs, h, P, Z, _, _, _, q, _⟩ := z; exact q.elim
  ho := fun C hK hC k2 _ i x e => by
    obtain ⟨d, e1, rfl⟩ := Lw.g_hn e
    obtain ⟨fd, Fu, hg⟩ := hd.hdef i d e1
    obtain ⟨ck, l1⟩ := L.chk_h hc e1
    obtain ⟨a, ha⟩ := one_of l1
    exact ⟨_, fd, a, hg, Fu.kp, by rw [← ha]; exact funD_binds Fu (chk_pos ck rfl), ⟨fun _ _ _ _ _ _ _ _ _ _ _ _ _ _ _ _ _ _ _ _ _ _ _ q _ _ => q.elim⟩⟩
  xm := hd.xm
  xmg := hd.xmg
  xmk := hd.xmk
  gn := ⟨hd.hot hc, fun i p e => by
    obtain ⟨d, e1, rfl⟩ := Lw.g_gn e
    obtain ⟨fd, Fu, hg⟩ := hd.gdef i d e1
    exact ⟨_, fd, hg, Fu.kp, funD_bk Fu (L.chk_g hc e1), .inl fun _ _ _ _ z => z⟩⟩
theorem ModD.lmT {M : Xm} {G : Gm} {Cl : Cm} {gd : Bool} (md : ModD M G F Cl gd k P w K mg base) : ModD M { G with lm := true } F Cl gd k P w K mg base :=
  ⟨md.sh, md.k1, md.free, md.con, md.fn, md.ho, md.xm, md.xmg, md.xmk, md.gn⟩
/-- the next def's promise -/
theorem Hd.one_ (hd : Hd L P K mg) (hc : L.chk = true) (md : ModD L.M L.G F (L.Cl K) L.sh k P w K mg base) (ha : F.a = noA) (htb : ∀ p ∈ L.cs K, LamX.TabB base mg p.1 p.2) {i : Nat} {d : Df} (e : L.defs[i]? = some d) {sp : FnD} (hsp : Kp L.M F d.m d.N.length sp) {fd : FuncData} (Fu : FunD K d.name d.name (defArgs d.st) (defBody d.st) (defScope d.st) [] (L.kv d) (He.ga K d.name) fd) :
    FnG P w K mg base L.sh (k + 3) (He.ga K d.name) fd d.ps (liftF K (L.Cl K) d.ps.length sp) ∧ (L.koN d.name = none → Binds K fd d.ps []) := by
  have ck := L.chk_at hc e
  by_cases hl : d.name ∈ L.lam
  · have eG : L.GL d = { L.G with lm := true } := if_pos hl
    rw [eG] at ck
    refine def_okL md.lmT Fu ck (fun xs h Q Z _ q => hsp xs h Q Z q) ha fun cdv lk => ?_
    obtain ⟨oc, od, osl, fd0, l1, l2, l3⟩ := lk
    obtain ⟨c, rfl⟩ := He.codeIn_ref l3
    have ec : He.codeOf K (d.name, none) = c := He.codeOf_eq (p := (d.name, none)) l1 l2
    refine ⟨c, (He.cT K (d.name, none)).2, ?_, rfl, List.mem_map.mpr ⟨d.name, hl, rfl⟩, fun p hp e2 => ?_⟩
    · have := htb (He.cT K (d.name, none)) (List.mem_map.mpr ⟨d.name, hl, rfl⟩)
      have e1 : (He.cT K (d.name, none)).1 = c := ec
      rw [e1] at this
      exact this
    · obtain ⟨y, hy, rfl⟩ := List.mem_map.mp hp
      rw [hd.one y hy d.name hl e2]; rfl
  · have eG : L.GL d = L.G := if_neg hl
    rw [eG] at ck
    obtain ⟨a, b⟩ := def_ok md Fu ck (fun xs h Q Z _ q => hsp xs h Q Z q) rfl ha
    exact ⟨a.mono (by omega), b⟩
theorem Hd.add (hd : Hd L P K mg) (hc : L.chk = true) (htb : ∀ p ∈ L.cs K, LamX.TabB base mg p.1 p.2) (md : ModD L.M L.G F (L.Cl K) L.sh k P w K mg base) (ha : F.a = noA) (i : Nat) {d : Df} (e : L.defs[i]? = some d) (sp : FnD) (hsp : Kp L.M F d.m d.N.length sp) (hl : d.name ∉ L.lam) : ModD L.M L.G (F.up i sp) (L.Cl K) L.sh (k + 1) P w K mg base where
  sh := md.sh
  k1 := by omega
  free := md.free
  con := md.con
  fn := fun C hK hC j p ej => by
    by_cases hj : j = i
    · subst hj
      obtain ⟨d', e1, rfl⟩ := Lw.g_fn ej
      rw [e] at e1; cases e1
      obtain ⟨fd, Fu, hg⟩ := hd.def_ j d e
      have ck := L.chk_at hc e
      rw [show L.GL d = L.G from if_neg hl] at ck
      obtain ⟨f1, f2⟩ := def_ok md Fu ck (fun xs h Q Z _ q => hsp xs h Q Z q) rfl ha
      refine ⟨_, fd, d.ps, hg, Fu.kp, rfl, fun z => f2 ((L.g_ko e).symm.trans z), ?_, fun z => z, fun z => funD_bk Fu (chk_pos ck ((L.g_ko e).symm.trans z)), fun qs h => Lw.g_ps h e, fun np dfl z => by
        have z2 := (L.g_ko e).symm.trans z
        rw [z2] at ck
        rw [Lw.kvs z2] at Fu
        exact chk_ko ck Fu⟩
      rw [hK, hC]
      simpa [Fns.up] using f1
    · obtain ⟨fa, fd, ps, a1, a2, a3, a4, a5, a6⟩ := md.fn C hK hC j p ej
      refine ⟨fa, fd, ps, a1, a2, a3, a4, ?_, a6⟩
      simpa [Fns.up, hj] using a5.mono (Nat.le_succ k)
  ho := fun C hK hC k2 h2 => md.ho C hK hC k2 (by omega)
  xm := md.xm
  xmg := md.xmg
  xmk := md.xmk
  gn := md.gn.mono (by omega)
theorem Hd.addL (hd : Hd L P K mg) (hc : L.chk = true) (htb : ∀ p ∈ L.cs K, LamX.TabB base mg p.1 p.2) (md : ModD L.M L.G F (L.Cl K) L.sh k P w K mg base) (ha : F.a = noA) (i : Nat) {d : Df} (e : L.defs[i]? = some d) (sp : FnD) (hsp : Kp L.M F d.m d.N.length sp) : ModD L.M L.G (F.up i sp) (L.Cl K) L.sh (k + 3) P w K mg base where
  sh := md.sh
  k1 := by omega
  free := md.free
  con := md.con
  fn := fun C hK hC j p ej => by
    by_cases hj : j = i
    · subst hj
      obtain ⟨d', e1, rfl⟩ := Lw.g_fn ej
      rw [e] at e1; cases e1
      obtain ⟨fd, Fu, hg⟩ := hd.def_ j d e
      obtain ⟨f1, f2⟩ := hd.one_ hc md ha htb e hsp Fu
      have ck := L.chk_at hc e
      refine ⟨_, fd, d.ps, hg, Fu.kp, rfl, fun z => f2 ((L.g_ko e).symm.trans z), ?_, fun z => z, fun z => funD_bk Fu (chk_pos ck ((L.g_ko e).symm.trans z)), fun qs h => Lw.g_ps h e, fun np dfl z => by
        have z2 := (L.g_ko e).symm.trans z
        rw [z2] at ck
        rw [Lw.kvs z2] at Fu
        exact chk_ko ck Fu⟩
      rw [hK, hC]
      simpa [Fns.up] using f1
    · obtain ⟨fa, fd, ps, a1, a2, a3, a4, a5, a6⟩ := md.fn C hK hC j p ej
      refine ⟨fa, fd, ps, a1, a2, a3, a4, ?_, a6⟩
      simpa [Fns.up, hj] using a5.mono (by omega)
  ho := fun C hK hC k2 h2 => md.ho C hK hC k2 (by omega)
  xm := md.xm
  xmg := md.xmg
  xmk := md.xmk
  gn := md.gn.mono (by omega)
theorem Hd.addH (hd : Hd L P K mg) (hc : L.chk = true) (md : ModD L.M L.G F (L.Cl K) L.sh k P w K mg base) (i : Nat) {d : Df} (e : L.hos[i]? = some d) (sp : HFn) (hsp : KpH L.M F d.m d.N.length sp) : ModD L.M L.G (F.upH i sp) (L.Cl K) L.sh k P w K mg base where
  sh := md.sh
  k1 := md.k1
  free := md.free
  con := md.con
  fn := md.fn
  ho := fun C hK hC k2 h2 j x ej => by
    by_cases hj : j = i
    · subst hj
      obtain ⟨d', e1, rfl⟩ := Lw.g_hn ej
      rw [e] at e1; cases e1
      obtain ⟨fd, Fu, hg⟩ := hd.hdef j d e
      obtain ⟨ck, l1⟩ := L.chk_h hc e
      obtain ⟨a, ha⟩ := one_of l1
      rw [ha] at ck
      obtain ⟨f1, f2⟩ := def_okH md Fu ck (fun f act h Q Z q => hsp f act h Q Z q) rfl
      refine ⟨_, fd, a, hg, Fu.kp, f2, ?_⟩
      rw [hK, hC]
      simpa [Fns.upH] using f1 k2 h2
    · obtain ⟨fa, fd, a, a1, a2, a3, a4⟩ := md.ho C hK hC k2 h2 j x ej
      exact ⟨fa, fd, a, a1, a2, a3, by simpa [Fns.upH, hj] using a4⟩
  xm := md.xm
  xmg := md.xmg
  xmk := md.xmk
  gn := md.gn
/-- the law's first n defs alone, nothing of them shown -/
def Lw.sub (L : Lw) (n : Nat) : Lw := { L with defs := L.defs.take n, hos := [], gens := [], gx := 0, sh := false }
theorem take_at {α : Type} {l : List α} {n i : Nat} {x : α} (h : (l.take n)[i]? = some x) : l[i]? = some x := by
  rw [List.getElem?_take] at h
  split at h
  · exact h
  · cases h
theorem Hd.sub (hd : Hd L P K mg) (n : Nat) : Hd (L.sub n) P K mg :=
  ⟨fun i d e => hd.def_ i d (take_at e), fun i d e => (by cases e), hd.one, hd.free, hd.con, hd.xm, hd.xmg, hd.xmk, fun i d e => (by cases e), fun c h => absurd h (Nat.not_lt_zero c)⟩
/-- a generator def's promise: n defs ahead of it are known to keep theirs -/
theorem Hd.addG (hd : Hd L P K mg) (hc : L.chk = true) {n k2 : Nat} {F2 : Fns} (md2 : ModD (L.sub n).M (L.sub n).G F2 ((L.sub n).Cl K) (L.sub n).sh k2 P w K mg base) (ha : F2.a = noA) (md : ModD L.M L.G F (L.Cl K) L.sh k P w K mg base) (i : Nat) {d : Dg} (e : L.gens[i]? = some d) (hb : genB L.M (L.sub n).G d = true) (sp : GnD) (hsp : KpG L.M F2 d sp) (hk : k2 + 4 ≤ k) : ModD L.M L.G (F.upG i sp) (L.Cl K) L.sh k P w K mg base where
  sh := md.sh
  k1 := md.k1
  free := md.free
  con := md.con
  fn := md.fn
  ho := md.ho
  xm := md.xm
  xmg := md.xmg
  xmk := md.xmk
  gn := ⟨hd.hot hc, fun j p ej => by
    obtain ⟨fa, fd, a1, a2, a3, z⟩ := md.gn.2 j p ej
    by_cases hj : j = i
    · subst hj
      obtain ⟨d', e1, rfl⟩ := Lw.g_gn ej
      rw [e] at e1; cases e1
      obtain ⟨fd, Fu, hg⟩ := hd.gdef j d e
      refine ⟨_, fd, hg, Fu.kp, funD_bk Fu (L.chk_g hc e), .inr ⟨k2 + 1, by omega, ?_⟩⟩
      have z2 : GFn P w K mg base (k2 + 1) (He.ga K d.name) fd d.ps (liftGn K (L.Cl K) d.ps.length sp) := gen_ok md2 Fu hb hsp rfl ha
      simpa [Fns.upG] using z2
    · refine ⟨fa, fd, a1, a2, a3, ?_⟩
      simpa [Fns.upG, hj] using z⟩
end
end DL
set_option maxHeartbeats 4000000
namespace DL
open PySem PySem.Spec PyProof.Rows L2
/-- a for loop by an invariant -/
theorem for_inv {g : Tg} {tb : TDS} {En : DEnds} (I : Nat → DSt → Hs → Prop) (xs : List D) (turn : ∀ (i : Nat) (x : D) (ds : DSt) (h : Hs) (En' : DEnds), xs[i]? = some x → I i ds h → En'.rt = En.rt → En'.ex = En.ex → En'.bk = En.nx → (∀ ds' h', I (i + 1) ds' h' → En'.nx ds' h') → (∀ ds' h', I (i + 1) ds' h' → En'.ct ds' h') → g.put x ds fun ds2 => tb ds2 h En')
    {ds : DSt} {h : Hs} (h0 : I 0 ds h) (he : ∀ ds' h', I xs.length ds' h' → En.nx ds' h') : forD g tb En xs ds h := by
  have go : ∀ (n i : Nat) (ds : DSt) (h : Hs), i + n = xs.length → I i ds h → forD g tb En (xs.drop i) ds h := by
    intro n
    induction n with
    | zero =>
      intro i ds h hi hI
      rw [List.drop_eq_nil_of_le (by omega)]
      unfold forD
      have : i = xs.length := by omega
      subst this
      exact he ds h hI
    | succ n ih =>
      intro i ds h hi hI
      have hlt : i < xs.length := by omega
      rw [List.drop_eq_getElem_cons hlt]
      unfold forD
      exact turn i xs[i] ds h _ (List.getElem?_eq_getElem hlt) hI rfl rfl rfl (fun ds' h' hI' => ih (i + 1) ds' h' (by omega) hI') fun ds' h' hI' => ih (i + 1) ds' h' (by omega) hI'
  have := go xs.length 0 ds h (by omega) h0
  simpa using this
theorem rng_get {lo : Int} {n i : Nat} {x : D} (h : (rngD lo n)[i]? = some x) : x = .int (lo + i) ∧ i < n := by
  unfold rngD at h
  rw [List.getElem?_map] at h
  obtain ⟨j, hj, rfl⟩ := Option.map_eq_some_iff.mp h
  obtain ⟨h1, h2⟩ := List.getElem?_eq_some_iff.mp hj
  simp at h1 h2
  subst h2
  exact ⟨rfl, h1⟩
@[simp] theorem rng_len {lo : Int} {n : Nat} : (rngD lo n).length = n := by unfold rngD; simp
theorem atI_n {α : Type} {xs : List α} {k : Nat} (h : k < xs.length) : L2.atI xs (k : Int) = some xs[k] := by
  unfold L2.atI L2.ixN
  rw [if_pos (by omega), if_pos (by omega)]
  simp [h]
theorem atI_of {α : Type} {xs : List α} {k : Int} (h0 : 0 ≤ k) (h : k < xs.length) : L2.atI xs k = some (xs[k.toNat]'(by omega)) := by
  obtain ⟨j, rfl⟩ := Int.eq_ofNat_of_zero_le h0
  exact atI_n (by omega)
theorem cutD_take {α : Type} {xs : List α} {k : Nat} : cutD xs none (some (k : Int)) = xs.take k := by
  unfold cutD
  rw [HT.sIx_none, HT.sIx_nat]
  simp
theorem Bds.cut {n d : Nat} {xs : List D} {lo hi : Option Int} (h : Bds n d xs) : Bds n d (cutD xs lo hi) := (h.drop _).take _
theorem eqv_nilL {l : List PyData} : PyData.eqv (.list l) (.list []) = l.isEmpty := by cases l <;> simp [PyData.eqv, PyData.eqvAll]
end DL
set_option maxHeartbeats 0
namespace K
open PySem PySem.Spec PyProof.Rows L2 DL
def top (i : Nat) : Stmt := PySem.Challenge.pw_bitspans_k18_spans_and_codes_told.main.body.getD i (.Pass ⟨0, 0, 0, 0⟩)
def M : Xm := ⟨2, ["NotUsable", "Barred"], fun c => match c with | 0 => ["word", "at"] | 1 => ["word", "at"] | _ => [], fun a b => decide ((a, b) ∈ ([(0, 0), (1, 1)] : List (Nat × Nat))), fun c => decide (c ∈ ([0, 1] : List Nat))⟩
def N_is_letters : List Str := ["thing", "sign"]
def P_is_letters : List Str := ["thing"]
def m_is_letters : Ss :=
  .cons (.ret (.and (.isi "str" "str" (.var 0)) (.b1 .all (.lc (.nm 1) (.s (.var 0)) .no (.cmp .in_ (.var 1) (.glb 0)) [("sign", 1)]))))
  (.nil)
abbrev s_is_letters : Stmt := top 7
def N_bounds_of : List Str := ["coder", "context", "width", "size", "contexts", "division", "manner", "entries", "total", "unit", "bounds", "ahead", "letter", "count", "further", "begin", "end"]
def P_bounds_of : List Str := ["coder", "context", "width"]
def m_bounds_of_T1 : Ss :=
  .cons (.aug 11 (.var 13))
  (.nil)
def m_bounds_of_B1 : Ss :=
  .cons (.ite (.cmp .eq (.var 5) (.str "fine")) (.cons (.app 10 (.tup (.cons (.bin .fdiv (.bin .mul (.var 2) (.var 11)) (.var 8)) (.cons (.bin .fdiv (.bin .mul (.var 2) (.bin .add (.var 11) (.var 13))) (.var 8)) (.nil)))))
  (.nil)) (.cons (.app 10 (.tup (.cons (.bin .mul (.var 9) (.var 11)) (.cons (.bin .mul (.var 9) (.bin .add (.var 11) (.var 13))) (.nil)))))
  (.nil)))
  m_bounds_of_T1
def m_bounds_of_T2 : Ss :=
  .cons (.asg (.tp (.cons (.nm 15) (.cons (.nm 16) (.nil)))) (.ix (.var 10) (.neg (.int 1))))
  (.cons (.six 10 (.neg (.int 1)) (.tup (.cons (.var 15) (.cons (.var 2) (.nil)))))
  (.cons (.frz 10 (.ret (.var 10)))
  (.nil)))
def m_bounds_of : Ss :=
  .cons (.asg (.tp (.cons (.nm 3) (.cons (.nm 4) (.cons (.nm 5) (.cons (.nm 6) (.nil)))))) (.var 0))
  (.cons (.set 7 (.ix (.var 4) (.var 1)))
  (.cons (.set 8 (.b1 .sum (.lc (.tp (.cons (.nm 12) (.cons (.nm 13) (.cons (.nm 14) (.nil))))) (.t (.var 7)) .no (.var 13) [("letter", 12), ("count", 13), ("further", 14)])))
  (.cons (.set 9 (.bin .fdiv (.var 2) (.var 8)))
  (.cons (.own 10 (.lst (.nil)))
  (.cons (.set 11 (.int 0))
  (.cons (.for_ (.tp (.cons (.nm 12) (.cons (.nm 13) (.cons (.nm 14) (.nil))))) (.t (.var 7)) m_bounds_of_B1)
  m_bounds_of_T2))))))
abbrev s_bounds_of : Stmt := top 9
def N_written : List Str := ["number", "count", "place"]
def P_written : List Str := ["number", "count"]
def m_written : Ss :=
  .cons (.ret (.join (.str "") (.lc (.nm 2) (.r3 (.bin .sub (.var 1) (.int 1)) (.neg (.int 1)) (.neg (.int 1))) .no (.ite (.bin .and (.bin .shr (.var 0) (.var 2)) (.int 1)) (.str "1") (.str "0")) [("place", 2)])))
  (.nil)
abbrev s_written : Stmt := top 11
def N_open_depth : List Str := ["span", "low", "width", "depth"]
def P_open_depth : List Str := ["span"]
def m_open_depth : Ss :=
  .cons (.asg (.tp (.cons (.nm 1) (.cons (.nm 2) (.cons (.nm 3) (.nil))))) (.var 0))
  (.cons (.ret (.blen (.bin .xor (.var 1) (.bin .sub (.bin .add (.var 1) (.var 2)) (.int 1)))))
  (.nil))
abbrev s_open_depth : Stmt := top 12
def N_sides_of : List Str := ["span", "low", "width", "depth", "place", "middle"]
def P_sides_of : List Str := ["span"]
def m_sides_of : Ss :=
  .cons (.asg (.tp (.cons (.nm 1) (.cons (.nm 2) (.cons (.nm 3) (.nil))))) (.var 0))
  (.cons (.set 4 (.bin .sub (.call 3 (.cons (.var 0) (.nil))) (.int 1)))
  (.cons (.set 5 (.bin .shl (.bin .shr (.bin .sub (.bin .add (.var 1) (.var 2)) (.int 1)) (.var 4)) (.var 4)))
  (.cons (.ret (.tup (.cons (.bin .sub (.var 5) (.var 1)) (.cons (.bin .sub (.bin .add (.var 1) (.var 2)) (.var 5)) (.nil)))))
  (.nil))))
abbrev s_sides_of : Stmt := top 13
def N_doubled_by : List Str := ["span", "times", "low", "width", "depth"]
def P_doubled_by : List Str := ["span", "times"]
def m_doubled_by : Ss :=
  .cons (.asg (.tp (.cons (.nm 2) (.cons (.nm 3) (.cons (.nm 4) (.nil))))) (.var 0))
  (.cons (.ret (.tup (.cons (.bin .shl (.var 2) (.var 1)) (.cons (.bin .shl (.var 3) (.var 1)) (.cons (.bin .add (.var 4) (.var 1)) (.nil))))))
  (.nil))
abbrev s_doubled_by : Stmt := top 14
def N_plain_times : List Str := ["span", "size"]
def P_plain_times : List Str := ["span", "size"]
def m_plain_times : Ss :=
  .cons (.ret (.mm true (.int 0) (.bin .sub (.var 1) (.call 3 (.cons (.var 0) (.nil))))))
  (.nil)
abbrev s_plain_times : Stmt := top 15
def N_late_times : List Str := ["span", "size", "times"]
def P_late_times : List Str := ["span", "size"]
def m_late_times : Ss :=
  .cons (.set 2 (.int 0))
  (.cons (.whl (.cmp .le (.bin .shl (.ix (.var 0) (.int 1)) (.var 2)) (.bin .shl (.int 1) (.bin .sub (.var 1) (.int 1)))) (.cons (.aug 2 (.int 1))
  (.nil)))
  (.cons (.ret (.var 2))
  (.nil)))
abbrev s_late_times : Stmt := top 16
def N_pending_times : List Str := ["span", "size", "times", "most"]
def P_pending_times : List Str := ["span", "size"]
def m_pending_times : Ss :=
  .cons (.set 2 (.call 6 (.cons (.var 0) (.cons (.var 1) (.nil)))))
  (.cons (.set 3 (.mxs true (.call 4 (.cons (.call 5 (.cons (.var 0) (.cons (.var 2) (.nil)))) (.nil)))))
  (.cons (.whl (.cmp .le (.var 3) (.bin .shl (.int 1) (.bin .sub (.var 1) (.int 2)))) (.cons (.set 3 (.bin .shl (.var 3) (.int 1)))
  (.cons (.aug 2 (.int 1))
  (.nil))))
  (.cons (.ret (.var 2))
  (.nil))))
abbrev s_pending_times : Stmt := top 17
def N_cut_apart : List Str := ["span", "size", "low", "width", "depth", "left", "right", "first", "last"]
def P_cut_apart : List Str := ["span", "size"]
def m_cut_apart : Ss :=
  .cons (.asg (.tp (.cons (.nm 2) (.cons (.nm 3) (.cons (.nm 4) (.nil))))) (.var 0))
  (.cons (.ite (.cmp .gt (.var 3) (.bin .shl (.int 1) (.bin .sub (.var 1) (.int 2)))) (.cons (.ret (.tup (.cons (.var 0) (.cons (.non) (.nil)))))
  (.nil)) (.nil))
  (.cons (.asg (.tp (.cons (.nm 5) (.cons (.nm 6) (.nil)))) (.call 4 (.cons (.var 0) (.nil))))
  (.cons (.par2 false 7 (.tup (.cons (.var 2) (.cons (.var 5) (.cons (.var 4) (.nil))))) false 8 (.tup (.cons (.bin .add (.var 2) (.var 5)) (.cons (.var 6) (.cons (.var 4) (.nil))))))
  (.cons (.ret (.ite (.cmp .ge (.var 5) (.var 6)) (.tup (.cons (.var 7) (.cons (.var 8) (.nil)))) (.tup (.cons (.var 8) (.cons (.var 7) (.nil))))))
  (.nil)))))
abbrev s_cut_apart : Stmt := top 18
def N_settle : List Str := ["coder", "span", "size", "contexts", "division", "manner", "lost", "times", "found", "again"]
def P_settle : List Str := ["coder", "span"]
def m_settle_T2 : Ss :=
  .cons (.ret (.tup (.cons (.var 8) (.cons (.var 7) (.cons (.var 6) (.nil))))))
  (.nil)
def m_settle_T1 : Ss :=
  .cons (.set 8 (.call 5 (.cons (.var 1) (.cons (.var 7) (.nil)))))
  (.cons (.ite (.cmp .eq (.var 5) (.str "cut")) (.cons (.asg (.tp (.cons (.nm 8) (.cons (.nm 6) (.nil)))) (.call 9 (.cons (.var 8) (.cons (.var 2) (.nil)))))
  (.cons (.set 9 (.call 6 (.cons (.var 8) (.cons (.var 2) (.nil)))))
  (.cons (.set 8 (.call 5 (.cons (.var 8) (.cons (.var 9) (.nil)))))
  (.cons (.aug 7 (.var 9))
  (.nil))))) (.nil))
  m_settle_T2)
def m_settle : Ss :=
  .cons (.asg (.tp (.cons (.nm 2) (.cons (.nm 3) (.cons (.nm 4) (.cons (.nm 5) (.nil)))))) (.var 0))
  (.cons (.set 6 (.non))
  (.cons (.ite (.cmp .eq (.var 5) (.str "late")) (.cons (.set 7 (.call 7 (.cons (.var 1) (.cons (.var 2) (.nil)))))
  (.nil)) (.cons (.ite (.cmp .eq (.var 5) (.str "pending")) (.cons (.set 7 (.call 8 (.cons (.var 1) (.cons (.var 2) (.nil)))))
  (.nil)) (.cons (.set 7 (.call 6 (.cons (.var 1) (.cons (.var 2) (.nil)))))
  (.nil)))
  (.nil)))
  m_settle_T1))
abbrev s_settle : Stmt := top 19
def N_place_of : List Str := ["coder", "context", "letter", "place", "entry"]
def P_place_of : List Str := ["coder", "context", "letter"]
def m_place_of_B1 : Ss :=
  .cons (.ite (.cmp .eq (.ix (.var 4) (.int 0)) (.var 2)) (.cons (.ret (.var 3))
  (.nil)) (.nil))
  (.nil)
def m_place_of_T1 : Ss :=
  .cons (.ret (.neg (.int 1)))
  (.nil)
def m_place_of : Ss :=
  .cons (.for_ (.tp (.cons (.nm 3) (.cons (.nm 4) (.nil)))) (.en (.ix (.ix (.var 0) (.int 1)) (.var 1))) m_place_of_B1)
  m_place_of_T1
abbrev s_place_of : Stmt := top 21
def N_path_of : List Str := ["coder", "word", "path", "context", "number", "letter", "place"]
def P_path_of : List Str := ["coder", "word"]
def m_path_of_T2 : Ss :=
  .cons (.app 2 (.tup (.cons (.var 3) (.cons (.var 6) (.nil)))))
  (.cons (.set 3 (.ix (.ix (.ix (.ix (.var 0) (.int 1)) (.var 3)) (.var 6)) (.int 2)))
  (.nil))
def m_path_of_B1 : Ss :=
  .cons (.set 6 (.ite (.isN false (.var 3)) (.neg (.int 1)) (.call 11 (.cons (.var 0) (.cons (.var 3) (.cons (.var 5) (.nil)))))))
  (.cons (.ite (.cmp .lt (.var 6) (.int 0)) (.cons (.raise 0 (.cons (.str "word") (.cons (.var 4) (.nil))))
  (.nil)) (.nil))
  m_path_of_T2)
def m_path_of_T3 : Ss :=
  .cons (.frz 2 (.ret (.tup (.cons (.var 2) (.cons (.var 3) (.nil))))))
  (.nil)
def m_path_of_T1 : Ss :=
  .cons (.own 2 (.lst (.nil)))
  (.cons (.set 3 (.int 0))
  (.cons (.for_ (.tp (.cons (.nm 4) (.cons (.nm 5) (.nil)))) (.ens (.var 1)) m_path_of_B1)
  m_path_of_T3))
def m_path_of : Ss :=
  .cons (.ite (.not (.call 0 (.cons (.var 1) (.nil)))) (.cons (.raise 0 (.cons (.str "word") (.cons (.neg (.int 1)) (.nil))))
  (.nil)) (.nil))
  m_path_of_T1
abbrev s_path_of : Stmt := top 22
def N_begun : List Str := ["coder"]
def P_begun : List Str := ["coder"]
def m_begun : Ss :=
  .cons (.ret (.tup (.cons (.int 0) (.cons (.bin .shl (.int 1) (.ix (.var 0) (.int 0))) (.cons (.ix (.var 0) (.int 0)) (.nil))))))
  (.nil)
abbrev s_begun : Stmt := top 23
def N_span_behind : List Str := ["coder", "span", "context", "place", "low", "width", "depth", "begin", "end", "part"]
def P_span_behind : List Str := ["coder", "span", "context", "place"]
def m_span_behind_T1 : Ss :=
  .cons (.set 9 (.tup (.cons (.bin .add (.var 4) (.var 7)) (.cons (.bin .sub (.var 8) (.var 7)) (.cons (.var 6) (.nil))))))
  (.cons (.ret (.ite (.isN false (.ix (.ix (.ix (.ix (.var 0) (.int 1)) (.var 2)) (.var 3)) (.int 2))) (.var 9) (.ix (.call 10 (.cons (.var 0) (.cons (.var 9) (.nil)))) (.int 0))))
  (.nil))
def m_span_behind : Ss :=
  .cons (.asg (.tp (.cons (.nm 4) (.cons (.nm 5) (.cons (.nm 6) (.nil))))) (.var 1))
  (.cons (.asg (.tp (.cons (.nm 7) (.cons (.nm 8) (.nil)))) (.ix (.call 1 (.cons (.var 0) (.cons (.var 2) (.cons (.var 5) (.nil))))) (.var 3)))
  (.cons (.ite (.cmp .eq (.var 7) (.var 8)) (.cons (.ret (.non))
  (.nil)) (.nil))
  m_span_behind_T1))
abbrev s_span_behind : Stmt := top 24
def N_written_spans : List Str := ["coder", "word", "path", "spans", "number", "context", "place", "span"]
def P_written_spans : List Str := ["coder", "word", "path"]
def m_written_spans_T1 : Ss :=
  .cons (.app 3 (.var 7))
  (.nil)
def m_written_spans_B1 : Ss :=
  .cons (.set 7 (.call 14 (.cons (.var 0) (.cons (.ix (.var 3) (.neg (.int 1))) (.cons (.var 5) (.cons (.var 6) (.nil)))))))
  (.cons (.ite (.isN false (.var 7)) (.cons (.raise 1 (.cons (.sl (.var 1) .no (.some (.bin .add (.var 4) (.int 1)))) (.cons (.var 4) (.nil))))
  (.nil)) (.nil))
  m_written_spans_T1)
def m_written_spans_T2 : Ss :=
  .cons (.frz 3 (.ret (.var 3)))
  (.nil)
def m_written_spans : Ss :=
  .cons (.own 3 (.lst (.cons (.call 13 (.cons (.var 0) (.nil))) (.nil))))
  (.cons (.for_ (.tp (.cons (.nm 4) (.cons (.tp (.cons (.nm 5) (.cons (.nm 6) (.nil)))) (.nil)))) (.enl (.var 2)) m_written_spans_B1)
  m_written_spans_T2)
abbrev s_written_spans : Stmt := top 25
def N_span_of : List Str := ["coder", "word"]
def P_span_of : List Str := ["coder", "word"]
def m_span_of : Ss :=
  .cons (.ret (.ix (.call 15 (.cons (.var 0) (.cons (.var 1) (.cons (.ix (.call 12 (.cons (.var 0) (.cons (.var 1) (.nil)))) (.int 0)) (.nil))))) (.neg (.int 1))))
  (.nil)
abbrev s_span_of : Stmt := top 27
def N_first_bits : List Str := ["span", "low", "width", "depth", "length", "place", "number"]
def P_first_bits : List Str := ["span"]
def m_first_bits_B1 : Ss :=
  .cons (.set 5 (.bin .sub (.var 3) (.var 4)))
  (.cons (.set 6 (.bin .shr (.bin .sub (.bin .add (.var 1) (.bin .shl (.int 1) (.var 5))) (.int 1)) (.var 5)))
  (.cons (.ite (.cmp .le (.bin .shl (.bin .add (.var 6) (.int 1)) (.var 5)) (.bin .add (.var 1) (.var 2))) (.cons (.ret (.call 2 (.cons (.var 6) (.cons (.var 4) (.nil)))))
  (.nil)) (.nil))
  (.nil)))
def m_first_bits_T1 : Ss :=
  .cons (.ret (.str ""))
  (.nil)
def m_first_bits : Ss :=
  .cons (.asg (.tp (.cons (.nm 1) (.cons (.nm 2) (.cons (.nm 3) (.nil))))) (.var 0))
  (.cons (.for_ (.nm 4) (.r1 (.bin .add (.var 3) (.int 1))) m_first_bits_B1)
  m_first_bits_T1)
abbrev s_first_bits : Stmt := top 28
def N_code_of : List Str := ["coder", "message", "path", "context"]
def P_code_of : List Str := ["coder", "message"]
def m_code_of : Ss :=
  .cons (.asg (.tp (.cons (.nm 2) (.cons (.nm 3) (.nil)))) (.call 12 (.cons (.var 0) (.cons (.var 1) (.nil)))))
  (.cons (.ite (.isN true (.var 3)) (.cons (.raise 0 (.cons (.str "word") (.cons (.b1 .len (.var 1)) (.nil))))
  (.nil)) (.nil))
  (.cons (.ret (.call 17 (.cons (.ix (.call 15 (.cons (.var 0) (.cons (.var 1) (.cons (.var 2) (.nil))))) (.neg (.int 1))) (.nil))))
  (.nil)))
abbrev s_code_of : Stmt := top 29
def N_law_feed : List Str := ["_law_script"]
def P_law_feed : List Str := ["_law_script"]
def m_law_feed : Ss :=
  .cons (.ret (.dic ["cells", "turn", "rest"] (.cons (.sl (.var 0) .no (.some (.int 63))) (.cons (.int 0) (.cons (.int 0) (.nil))))))
  (.nil)
abbrev s_law_feed : Stmt := top 31
def N_law_draw : List Str := ["_law_feed_here", "_law_many", "_law_got", "_law_turn", "_law_cells", "_law_cell", "_law_mixed"]
def P_law_draw : List Str := ["_law_feed_here", "_law_many"]
def m_law_draw : Ss :=
  .cons (.ite (.cmp .gt (.dget (.var 0) (.str "rest")) (.int 0)) (.cons (.set 2 (.bin .mod (.b1 .int (.dget (.var 0) (.str "rest"))) (.var 1)))
  (.cons (.dput (.var 0) (.str "rest") (.bin .fdiv (.dget (.var 0) (.str "rest")) (.var 1)))
  (.cons (.ret (.var 2))
  (.nil)))) (.nil))
  (.cons (.set 3 (.dget (.var 0) (.str "turn")))
  (.cons (.dput (.var 0) (.str "turn") (.bin .add (.var 3) (.int 1)))
  (.cons (.set 4 (.dget (.var 0) (.str "cells")))
  (.cons (.set 5 (.ite (.cmp .ne (.var 4) (.lst (.nil))) (.ix (.var 4) (.bin .mod (.b1 .int (.var 3)) (.b1 .len (.var 4)))) (.int 5235)))
  (.cons (.ite (.and (.cmp .lt (.var 3) (.b1 .len (.var 4))) (.cmp .ge (.var 5) (.bin .pow (.int 10) (.int 18)))) (.cons (.dput (.var 0) (.str "rest") (.bin .fdiv (.var 5) (.var 1)))
  (.cons (.ret (.bin .mod (.b1 .int (.var 5)) (.var 1)))
  (.nil))) (.nil))
  (.cons (.set 6 (.bin .mod (.b1 .int (.bin .add (.bin .add (.bin .mul (.bin .mod (.b1 .int (.var 5)) (.int 1000000021)) (.int 50883)) (.bin .mul (.var 3) (.int 7349))) (.int 403))) (.int 2147483587)))
  (.cons (.set 6 (.bin .mod (.b1 .int (.bin .add (.bin .add (.bin .mul (.var 6) (.var 6)) (.bin .mul (.var 3) (.int 104047))) (.int 33))) (.int 2147483497)))
  (.cons (.ret (.bin .mod (.b1 .int (.bin .fdiv (.bin .mod (.b1 .int (.bin .add (.bin .mul (.var 6) (.var 6)) (.bin .mul (.int 1097) (.var 6)))) (.int 2147483399)) (.int 32))) (.var 1)))
  (.nil)))))))))
abbrev s_law_draw : Stmt := top 32
def N_law_any : List Str := ["_law_feed_here", "_law_some"]
def P_law_any : List Str := ["_law_feed_here", "_law_some"]
def m_law_any : Ss :=
  .cons (.ret (.ix (.var 1) (.call 20 (.cons (.var 0) (.cons (.b1 .len (.var 1)) (.nil))))))
  (.nil)
abbrev s_law_any : Stmt := top 33
def N_law_shape : List Str := ["_law_feed_here"]
def P_law_shape : List Str := ["_law_feed_here"]
def m_law_shape : Ss :=
  .cons (.ret (.call 21 (.cons (.var 0) (.cons (.lst (.cons (.lst (.cons (.lst (.cons (.tup (.cons (.int 1) (.cons (.int 0) (.nil)))) (.cons (.tup (.cons (.int 1) (.cons (.neg (.int 1)) (.nil)))) (.nil)))) (.nil))) (.cons (.lst (.cons (.lst (.cons (.tup (.cons (.int 2) (.cons (.int 0) (.nil)))) (.cons (.tup (.cons (.int 1) (.cons (.int 0) (.nil)))) (.cons (.tup (.cons (.int 1) (.cons (.neg (.int 1)) (.nil)))) (.nil))))) (.nil))) (.cons (.lst (.cons (.lst (.cons (.tup (.cons (.int 9) (.cons (.int 0) (.nil)))) (.cons (.tup (.cons (.int 1) (.cons (.neg (.int 1)) (.nil)))) (.nil)))) (.nil))) (.cons (.lst (.cons (.lst (.cons (.tup (.cons (.int 1) (.cons (.int 0) (.nil)))) (.cons (.tup (.cons (.int 9) (.cons (.int 0) (.nil)))) (.nil)))) (.nil))) (.cons (.lst (.cons (.lst (.cons (.tup (.cons (.int 2) (.cons (.int 0) (.nil)))) (.cons (.tup (.cons (.int 1) (.cons (.int 0) (.nil)))) (.nil)))) (.nil))) (.cons (.lst (.cons (.lst (.cons (.tup (.cons (.int 1) (.cons (.int 0) (.nil)))) (.cons (.tup (.cons (.int 2) (.cons (.int 0) (.nil)))) (.cons (.tup (.cons (.int 1) (.cons (.int 0) (.nil)))) (.nil))))) (.nil))) (.cons (.lst (.cons (.lst (.cons (.tup (.cons (.int 1) (.cons (.int 0) (.nil)))) (.cons (.tup (.cons (.int 2) (.cons (.int 0) (.nil)))) (.cons (.tup (.cons (.int 1) (.cons (.neg (.int 1)) (.nil)))) (.nil))))) (.nil))) (.cons (.lst (.cons (.lst (.cons (.tup (.cons (.int 2) (.cons (.int 0) (.nil)))) (.cons (.tup (.cons (.int 1) (.cons (.neg (.int 1)) (.nil)))) (.nil)))) (.nil))) (.cons (.lst (.cons (.lst (.cons (.tup (.cons (.int 1) (.cons (.neg (.int 1)) (.nil)))) (.cons (.tup (.cons (.int 2) (.cons (.int 0) (.nil)))) (.nil)))) (.nil))) (.cons (.lst (.cons (.lst (.cons (.tup (.cons (.int 1) (.cons (.int 1) (.nil)))) (.cons (.tup (.cons (.int 1) (.cons (.int 0) (.nil)))) (.nil)))) (.cons (.lst (.cons (.tup (.cons (.int 1) (.cons (.int 0) (.nil)))) (.cons (.tup (.cons (.int 1) (.cons (.int 1) (.nil)))) (.nil)))) (.nil)))) (.cons (.lst (.cons (.lst (.cons (.tup (.cons (.int 1) (.cons (.int 0) (.nil)))) (.cons (.tup (.cons (.int 1) (.cons (.int 1) (.nil)))) (.nil)))) (.cons (.lst (.cons (.tup (.cons (.int 1) (.cons (.int 0) (.nil)))) (.cons (.tup (.cons (.int 1) (.cons (.int 1) (.nil)))) (.nil)))) (.nil)))) (.cons (.lst (.cons (.lst (.cons (.tup (.cons (.int 3) (.cons (.int 0) (.nil)))) (.cons (.tup (.cons (.int 2) (.cons (.int 0) (.nil)))) (.cons (.tup (.cons (.int 3) (.cons (.int 0) (.nil)))) (.nil))))) (.nil))) (.cons (.lst (.cons (.lst (.cons (.tup (.cons (.int 1) (.cons (.neg (.int 1)) (.nil)))) (.cons (.tup (.cons (.int 1) (.cons (.int 1) (.nil)))) (.nil)))) (.cons (.lst (.cons (.tup (.cons (.int 1) (.cons (.int 1) (.nil)))) (.cons (.tup (.cons (.int 9) (.cons (.int 1) (.nil)))) (.nil)))) (.nil)))) (.cons (.lst (.cons (.lst (.cons (.tup (.cons (.int 1) (.cons (.int 1) (.nil)))) (.cons (.tup (.cons (.int 1) (.cons (.neg (.int 1)) (.nil)))) (.nil)))) (.cons (.lst (.cons (.tup (.cons (.int 1) (.cons (.neg (.int 1)) (.nil)))) (.cons (.tup (.cons (.int 9) (.cons (.int 0) (.nil)))) (.nil)))) (.nil)))) (.cons (.lst (.cons (.lst (.cons (.tup (.cons (.int 3) (.cons (.int 0) (.nil)))) (.cons (.tup (.cons (.int 2) (.cons (.neg (.int 1)) (.nil)))) (.cons (.tup (.cons (.int 3) (.cons (.int 0) (.nil)))) (.nil))))) (.nil))) (.cons (.lst (.cons (.lst (.cons (.tup (.cons (.int 3) (.cons (.int 1) (.nil)))) (.cons (.tup (.cons (.int 1) (.cons (.neg (.int 1)) (.nil)))) (.nil)))) (.cons (.lst (.cons (.tup (.cons (.int 1) (.cons (.neg (.int 1)) (.nil)))) (.cons (.tup (.cons (.int 1) (.cons (.neg (.int 1)) (.nil)))) (.cons (.tup (.cons (.int 1) (.cons (.neg (.int 1)) (.nil)))) (.nil))))) (.nil)))) (.cons (.lst (.cons (.lst (.cons (.tup (.cons (.int 2) (.cons (.neg (.int 1)) (.nil)))) (.cons (.tup (.cons (.int 1) (.cons (.neg (.int 1)) (.nil)))) (.nil)))) (.nil))) (.cons (.lst (.cons (.lst (.cons (.tup (.cons (.int 1) (.cons (.int 0) (.nil)))) (.cons (.tup (.cons (.int 9) (.cons (.neg (.int 1)) (.nil)))) (.cons (.tup (.cons (.int 1) (.cons (.int 0) (.nil)))) (.nil))))) (.nil))) (.nil)))))))))))))))))))) (.nil)))))
  (.nil)
abbrev s_law_shape : Stmt := top 34
def N_law_drawn : List Str := ["_law_feed_here", "_law_contexts", "_law_entries", "_law_most", "_law_found", "_law_many", "_law_k", "_law_row", "_law_rare", "_law_m", "_law_count"]
def P_law_drawn : List Str := ["_law_feed_here", "_law_contexts", "_law_entries", "_law_most"]
def m_law_drawn : Ss :=
  .cons (.par2 true 4 (.lst (.nil)) false 5 (.bin .add (.int 1) (.call 20 (.cons (.var 0) (.cons (.var 1) (.nil))))))
  (.cons (.for_ (.nm 6) (.r1 (.var 5)) (.cons (.par2 true 7 (.lst (.nil)) false 8 (.call 20 (.cons (.var 0) (.cons (.int 3) (.nil)))))
  (.cons (.for_ (.nm 9) (.r1 (.bin .add (.int 2) (.call 20 (.cons (.var 0) (.cons (.bin .sub (.var 2) (.int 1)) (.nil)))))) (.cons (.set 10 (.bin .add (.int 1) (.call 20 (.cons (.var 0) (.cons (.ite (.cmp .eq (.var 8) (.int 0)) (.var 3) (.int 3)) (.nil))))))
  (.cons (.app 7 (.tup (.cons (.var 10) (.cons (.ite (.cmp .eq (.call 20 (.cons (.var 0) (.cons (.int 4) (.nil)))) (.int 0)) (.neg (.int 1)) (.call 20 (.cons (.var 0) (.cons (.var 5) (.nil))))) (.nil)))))
  (.nil))))
  (.cons (.frz 7 (.app 4 (.var 7)))
  (.nil)))))
  (.cons (.frz 4 (.ret (.var 4)))
  (.nil)))
abbrev s_law_drawn : Stmt := top 35
def N_law_coder : List Str := ["_law_feed_here", "_law_sizes", "_law_contexts", "_law_entries", "_law_most", "_law_size", "_law_manner", "_law_division", "_law_shape_here", "_law_pool", "_law_found", "_law_row", "_law_turn", "_law_signs", "_law_k", "_law_count", "_law_goes", "_law_letter"]
def P_law_coder : List Str := ["_law_feed_here", "_law_sizes", "_law_contexts", "_law_entries", "_law_most"]
def m_law_coder : Ss :=
  .cons (.par2 false 5 (.call 21 (.cons (.var 0) (.cons (.var 1) (.nil)))) false 6 (.call 21 (.cons (.var 0) (.cons (.lst (.cons (.str "plain") (.cons (.str "pending") (.cons (.str "cut") (.cons (.str "late") (.nil)))))) (.nil)))))
  (.cons (.set 7 (.ite (.cmp .eq (.call 20 (.cons (.var 0) (.cons (.int 3) (.nil)))) (.int 0)) (.str "coarse") (.str "fine")))
  (.cons (.set 8 (.call 22 (.cons (.var 0) (.nil))))
  (.cons (.ite (.cmp .eq (.call 20 (.cons (.var 0) (.cons (.int 2) (.nil)))) (.int 0)) (.cons (.set 8 (.call 23 (.cons (.var 0) (.cons (.var 2) (.cons (.var 3) (.cons (.var 4) (.nil)))))))
  (.nil)) (.nil))
  (.cons (.par2 false 9 (.call 21 (.cons (.var 0) (.cons (.lst (.cons (.str "abcdef") (.cons (.str "zyxwv") (.cons (.str "eabcd") (.cons (.str "pqrst") (.nil)))))) (.nil)))) true 10 (.lst (.nil)))
  (.cons (.for_ (.nm 11) (.l (.var 8)) (.cons (.par2 false 12 (.call 20 (.cons (.var 0) (.cons (.int 4) (.nil)))) true 13 (.lst (.nil)))
  (.cons (.for_ (.nm 14) (.r1 (.b1 .len (.var 11))) (.cons (.asg (.tp (.cons (.nm 15) (.cons (.nm 16) (.nil)))) (.ix (.var 11) (.var 14)))
  (.cons (.set 17 (.ix (.var 9) (.bin .mod (.b1 .int (.bin .add (.bin .mul (.var 14) (.bin .add (.int 1) (.bin .fdiv (.var 12) (.int 2)))) (.var 12))) (.int 5))))
  (.cons (.app 13 (.tup (.cons (.var 17) (.cons (.var 15) (.cons (.ite (.cmp .lt (.var 16) (.int 0)) (.non) (.var 16)) (.nil))))))
  (.nil)))))
  (.cons (.app 10 (.b1 .tuple (.var 13)))
  (.nil)))))
  (.cons (.ret (.tup (.cons (.var 5) (.cons (.b1 .tuple (.var 10)) (.cons (.var 7) (.cons (.var 6) (.nil)))))))
  (.nil)))))))
abbrev s_law_coder : Stmt := top 36
def N_law_two : List Str := ["_law_many"]
def P_law_two : List Str := ["_law_many"]
def m_law_two : Ss :=
  .cons (.ret (.bin .shl (.int 1) (.var 0)))
  (.nil)
abbrev s_law_two : Stmt := top 37
def N_law_parts : List Str := ["_law_rig", "_law_entries", "_law_wide", "_law_total", "_law_ahead", "_law_found", "_law_k", "_law_count", "_law_begin", "_law_end", "_law_share", "_law_entry"]
def P_law_parts : List Str := ["_law_rig", "_law_entries", "_law_wide"]
def m_law_parts_T1 : Ss :=
  .cons (.app 5 (.tup (.cons (.var 8) (.cons (.bin .sub (.var 9) (.var 8)) (.nil)))))
  (.cons (.set 4 (.bin .add (.var 4) (.var 7)))
  (.nil))
def m_law_parts_B1 : Ss :=
  .cons (.set 7 (.ix (.ix (.var 1) (.var 6)) (.int 1)))
  (.cons (.set 8 (.bin .fdiv (.bin .mul (.var 2) (.var 4)) (.var 3)))
  (.cons (.set 9 (.bin .fdiv (.bin .mul (.var 2) (.bin .add (.var 4) (.var 7))) (.var 3)))
  (.cons (.ite (.cmp .eq (.ix (.var 0) (.int 2)) (.str "coarse")) (.cons (.set 10 (.bin .fdiv (.var 2) (.var 3)))
  (.cons (.par2 false 8 (.bin .mul (.var 10) (.var 4)) false 9 (.bin .mul (.var 10) (.bin .add (.var 4) (.var 7))))
  (.cons (.set 9 (.ite (.cmp .lt (.var 6) (.bin .sub (.b1 .len (.var 1)) (.int 1))) (.var 9) (.var 2)))
  (.nil)))) (.nil))
  m_law_parts_T1)))
def m_law_parts_T2 : Ss :=
  .cons (.frz 5 (.ret (.var 5)))
  (.nil)
def m_law_parts : Ss :=
  .cons (.par3 false 3 (.b1 .sum (.lc (.nm 11) (.t (.var 1)) .no (.ix (.var 11) (.int 1)) [("_law_entry", 11)])) false 4 (.int 0) true 5 (.lst (.nil)))
  (.cons (.for_ (.nm 6) (.r1 (.b1 .len (.var 1))) m_law_parts_B1)
  m_law_parts_T2)
abbrev s_law_parts : Stmt := top 38
def N_law_known : List Str := ["_law_cover", "_law_low", "_law_high", "_law_known_here"]
def P_law_known : List Str := ["_law_cover"]
def m_law_known_B1 : Ss :=
  .cons (.par3 false 1 (.bin .fdiv (.var 1) (.int 2)) false 2 (.bin .fdiv (.var 2) (.int 2)) false 3 (.bin .sub (.var 3) (.int 1)))
  (.nil)
def m_law_known_T1 : Ss :=
  .cons (.ret (.var 3))
  (.nil)
def m_law_known : Ss :=
  .cons (.par3 false 1 (.ix (.var 0) (.int 0)) false 2 (.bin .sub (.bin .add (.ix (.var 0) (.int 0)) (.ix (.var 0) (.int 1))) (.int 1)) false 3 (.ix (.var 0) (.int 2)))
  (.cons (.whl (.cmp .ne (.var 1) (.var 2)) m_law_known_B1)
  m_law_known_T1)
abbrev s_law_known : Stmt := top 39
def N_law_middle : List Str := ["_law_cover", "_law_half", "_law_middle_here"]
def P_law_middle : List Str := ["_law_cover"]
def m_law_middle : Ss :=
  .cons (.set 1 (.call 25 (.cons (.bin .sub (.bin .sub (.ix (.var 0) (.int 2)) (.call 27 (.cons (.var 0) (.nil)))) (.int 1)) (.nil))))
  (.cons (.set 2 (.bin .add (.bin .mul (.bin .mul (.bin .fdiv (.ix (.var 0) (.int 0)) (.bin .mul (.int 2) (.var 1))) (.int 2)) (.var 1)) (.var 1)))
  (.cons (.ret (.tup (.cons (.bin .sub (.var 2) (.ix (.var 0) (.int 0))) (.cons (.bin .sub (.bin .add (.ix (.var 0) (.int 0)) (.ix (.var 0) (.int 1))) (.var 2)) (.nil)))))
  (.nil)))
abbrev s_law_middle : Stmt := top 40
def N_law_doubled : List Str := ["_law_cover"]
def P_law_doubled : List Str := ["_law_cover"]
def m_law_doubled : Ss :=
  .cons (.ret (.tup (.cons (.bin .mul (.int 2) (.ix (.var 0) (.int 0))) (.cons (.bin .mul (.int 2) (.ix (.var 0) (.int 1))) (.cons (.bin .add (.ix (.var 0) (.int 2)) (.int 1)) (.nil))))))
  (.nil)
abbrev s_law_doubled : Stmt := top 41
def N_law_plain : List Str := ["_law_rig", "_law_cover"]
def P_law_plain : List Str := ["_law_rig", "_law_cover"]
def m_law_plain_B1 : Ss :=
  .cons (.set 1 (.call 29 (.cons (.var 1) (.nil))))
  (.nil)
def m_law_plain_T1 : Ss :=
  .cons (.ret (.var 1))
  (.nil)
def m_law_plain : Ss :=
  .cons (.whl (.cmp .lt (.bin .sub (.ix (.var 1) (.int 2)) (.call 27 (.cons (.var 1) (.nil)))) (.ix (.var 0) (.int 0))) m_law_plain_B1)
  m_law_plain_T1
abbrev s_law_plain : Stmt := top 42
def N_law_settled : List Str := ["_law_rig", "_law_cover", "_law_limit", "_law_left", "_law_right_here", "_law_first", "_law_last"]
def P_law_settled : List Str := ["_law_rig", "_law_cover"]
def m_law_settled_B1 : Ss :=
  .cons (.set 1 (.call 29 (.cons (.var 1) (.nil))))
  (.nil)
def m_law_settled_T1 : Ss :=
  .cons (.ret (.tup (.cons (.var 1) (.cons (.non) (.nil)))))
  (.nil)
def m_law_settled_B2 : Ss :=
  .cons (.set 1 (.call 29 (.cons (.var 1) (.nil))))
  (.nil)
def m_law_settled_T5 : Ss :=
  .cons (.ret (.tup (.cons (.call 30 (.cons (.var 0) (.cons (.var 6) (.nil)))) (.cons (.var 5) (.nil)))))
  (.nil)
def m_law_settled_T4 : Ss :=
  .cons (.asg (.tp (.cons (.nm 3) (.cons (.nm 4) (.nil)))) (.call 28 (.cons (.var 1) (.nil))))
  (.cons (.par2 false 5 (.tup (.cons (.ix (.var 1) (.int 0)) (.cons (.var 3) (.cons (.ix (.var 1) (.int 2)) (.nil))))) false 6 (.tup (.cons (.bin .add (.ix (.var 1) (.int 0)) (.var 3)) (.cons (.var 4) (.cons (.ix (.var 1) (.int 2)) (.nil))))))
  (.cons (.ite (.cmp .ge (.var 3) (.var 4)) (.cons (.ret (.tup (.cons (.call 30 (.cons (.var 0) (.cons (.var 5) (.nil)))) (.cons (.var 6) (.nil)))))
  (.nil)) (.nil))
  m_law_settled_T5))
def m_law_settled_T3 : Ss :=
  .cons (.ite (.or (.cmp .ne (.ix (.var 0) (.int 3)) (.str "cut")) (.cmp .gt (.bin .mul (.ix (.var 1) (.int 1)) (.int 4)) (.var 2))) (.cons (.ret (.tup (.cons (.var 1) (.cons (.non) (.nil)))))
  (.nil)) (.nil))
  m_law_settled_T4
def m_law_settled_T2 : Ss :=
  .cons (.set 1 (.call 30 (.cons (.var 0) (.cons (.var 1) (.nil)))))
  (.cons (.ite (.cmp .eq (.ix (.var 0) (.int 3)) (.str "pending")) (.cons (.whl (.cmp .le (.bin .mul (.mxs true (.b1 .list (.call 28 (.cons (.var 1) (.nil))))) (.int 4)) (.var 2)) m_law_settled_B2)
  (.nil)) (.nil))
  m_law_settled_T3)
def m_law_settled : Ss :=
  .cons (.set 2 (.call 25 (.cons (.ix (.var 0) (.int 0)) (.nil))))
  (.cons (.ite (.cmp .eq (.ix (.var 0) (.int 3)) (.str "late")) (.cons (.whl (.cmp .le (.bin .mul (.ix (.var 1) (.int 1)) (.int 2)) (.var 2)) m_law_settled_B1)
  m_law_settled_T1) (.nil))
  m_law_settled_T2)
abbrev s_law_settled : Stmt := top 43
def N_law_place : List Str := ["_law_rig", "_law_room", "_law_letter", "_law_entries", "_law_found", "_law_k"]
def P_law_place : List Str := ["_law_rig", "_law_room", "_law_letter"]
def m_law_place_T1 : Ss :=
  .cons (.set 3 (.ix (.ix (.var 0) (.int 1)) (.var 1)))
  (.cons (.setLc false 4 (.nm 5) (.r1 (.b1 .len (.var 3))) (.some (.cmp .eq (.ix (.ix (.var 3) (.var 5)) (.int 0)) (.var 2))) (.var 5) [("_law_k", 5)])
  (.cons (.ret (.ite (.cmp .ne (.var 4) (.lst (.nil))) (.ix (.var 4) (.int 0)) (.non)))
  (.nil)))
def m_law_place : Ss :=
  .cons (.ite (.isN false (.var 1)) (.cons (.ret (.non))
  (.nil)) (.nil))
  m_law_place_T1
abbrev s_law_place : Stmt := top 44
def N_law_fault : List Str := ["_law_rig", "_law_term", "_law_room", "_law_k", "_law_place_here", "_law_sign"]
def P_law_fault : List Str := ["_law_rig", "_law_term"]
def m_law_fault_T2 : Ss :=
  .cons (.set 2 (.ix (.ix (.ix (.ix (.var 0) (.int 1)) (.var 2)) (.var 4)) (.int 2)))
  (.nil)
def m_law_fault_B1 : Ss :=
  .cons (.set 4 (.call 32 (.cons (.var 0) (.cons (.var 2) (.cons (.ix (.var 1) (.var 3)) (.nil))))))
  (.cons (.ite (.isN false (.var 4)) (.cons (.ret (.var 3))
  (.nil)) (.nil))
  m_law_fault_T2)
def m_law_fault_T3 : Ss :=
  .cons (.ret (.non))
  (.nil)
def m_law_fault_T1 : Ss :=
  .cons (.set 2 (.int 0))
  (.cons (.for_ (.nm 3) (.r1 (.b1 .len (.var 1))) m_law_fault_B1)
  m_law_fault_T3)
def m_law_fault : Ss :=
  .cons (.ite (.or (.not (.isi "str" "str" (.var 1))) (.cmp .ne (.lc (.nm 5) (.s (.var 1)) (.some (.not (.chn .le .le (.str "a") (.var 5) (.str "z")))) (.var 5) [("_law_sign", 5)]) (.lst (.nil)))) (.cons (.ret (.neg (.int 1)))
  (.nil)) (.nil))
  m_law_fault_T1
abbrev s_law_fault : Stmt := top 45
def N_law_context : List Str := ["_law_rig", "_law_term", "_law_room", "_law_letter"]
def P_law_context : List Str := ["_law_rig", "_law_term"]
def m_law_context_B1 : Ss :=
  .cons (.set 2 (.ix (.ix (.ix (.ix (.var 0) (.int 1)) (.var 2)) (.call 32 (.cons (.var 0) (.cons (.var 2) (.cons (.var 3) (.nil)))))) (.int 2)))
  (.nil)
def m_law_context_T1 : Ss :=
  .cons (.ret (.var 2))
  (.nil)
def m_law_context : Ss :=
  .cons (.set 2 (.int 0))
  (.cons (.for_ (.nm 3) (.s (.var 1)) m_law_context_B1)
  m_law_context_T1)
abbrev s_law_context : Stmt := top 46
def N_law_next : List Str := ["_law_rig", "_law_room", "_law_cover", "_law_letter", "_law_place_here", "_law_begin", "_law_cells", "_law_part"]
def P_law_next : List Str := ["_law_rig", "_law_room", "_law_cover", "_law_letter"]
def m_law_next_T2 : Ss :=
  .cons (.ret (.call 31 (.cons (.var 0) (.cons (.var 7) (.nil)))))
  (.nil)
def m_law_next_T1 : Ss :=
  .cons (.set 7 (.tup (.cons (.bin .add (.ix (.var 2) (.int 0)) (.var 5)) (.cons (.var 6) (.cons (.ix (.var 2) (.int 2)) (.nil))))))
  (.cons (.ite (.isN false (.ix (.ix (.ix (.ix (.var 0) (.int 1)) (.var 1)) (.var 4)) (.int 2))) (.cons (.ret (.tup (.cons (.var 7) (.cons (.non) (.nil)))))
  (.nil)) (.nil))
  m_law_next_T2)
def m_law_next : Ss :=
  .cons (.set 4 (.call 32 (.cons (.var 0) (.cons (.var 1) (.cons (.var 3) (.nil))))))
  (.cons (.asg (.tp (.cons (.nm 5) (.cons (.nm 6) (.nil)))) (.ix (.call 26 (.cons (.var 0) (.cons (.ix (.ix (.var 0) (.int 1)) (.var 1)) (.cons (.ix (.var 2) (.int 1)) (.nil))))) (.var 4)))
  (.cons (.ite (.cmp .eq (.var 6) (.int 0)) (.cons (.ret (.tup (.cons (.non) (.cons (.non) (.nil)))))
  (.nil)) (.nil))
  m_law_next_T1))
abbrev s_law_next : Stmt := top 47
def N_law_spans : List Str := ["_law_rig", "_law_term", "_law_spans_here", "_law_room", "_law_letter", "_law_cover", "_law_lost"]
def P_law_spans : List Str := ["_law_rig", "_law_term"]
def m_law_spans_T1 : Ss :=
  .cons (.app 2 (.var 5))
  (.cons (.set 3 (.ix (.ix (.ix (.ix (.var 0) (.int 1)) (.var 3)) (.call 32 (.cons (.var 0) (.cons (.var 3) (.cons (.var 4) (.nil)))))) (.int 2)))
  (.nil))
def m_law_spans_B1 : Ss :=
  .cons (.asg (.tp (.cons (.nm 5) (.cons (.nm 6) (.nil)))) (.call 35 (.cons (.var 0) (.cons (.var 3) (.cons (.ix (.var 2) (.neg (.int 1))) (.cons (.var 4) (.nil)))))))
  (.cons (.ite (.isN false (.var 5)) (.cons (.frz 2 (.ret (.var 2)))
  (.nil)) (.nil))
  m_law_spans_T1)
def m_law_spans_T2 : Ss :=
  .cons (.frz 2 (.ret (.var 2)))
  (.nil)
def m_law_spans : Ss :=
  .cons (.par2 true 2 (.lst (.cons (.tup (.cons (.int 0) (.cons (.call 25 (.cons (.ix (.var 0) (.int 0)) (.nil))) (.cons (.ix (.var 0) (.int 0)) (.nil))))) (.nil))) false 3 (.int 0))
  (.cons (.for_ (.nm 4) (.s (.var 1)) m_law_spans_B1)
  m_law_spans_T2)
abbrev s_law_spans : Stmt := top 48
def N_law_word : List Str := ["_law_feed_here", "_law_rig", "_law_most", "_law_room", "_law_term", "_law_wish", "_law_lap", "_law_entry", "_law_ends"]
def P_law_word : List Str := ["_law_feed_here", "_law_rig", "_law_most"]
def m_law_word_B1 : Ss :=
  .cons (.ite (.isN true (.var 3)) (.cons (.set 7 (.call 21 (.cons (.var 0) (.cons (.b1 .list (.ix (.ix (.var 1) (.int 1)) (.var 3))) (.nil)))))
  (.cons (.par2 false 4 (.bin .add (.var 4) (.ix (.var 7) (.int 0))) false 3 (.ix (.var 7) (.int 2)))
  (.nil))) (.nil))
  (.nil)
def m_law_word_T2 : Ss :=
  .cons (.ret (.var 4))
  (.nil)
def m_law_word_T1 : Ss :=
  .cons (.set 8 (.ite (.isN false (.var 3)) (.lst (.nil)) (.lc (.nm 7) (.t (.ix (.ix (.var 1) (.int 1)) (.var 3))) (.some (.isN false (.ix (.var 7) (.int 2)))) (.ix (.var 7) (.int 0)) [("_law_entry", 7)])))
  (.cons (.ite (.and (.cmp .eq (.var 5) (.int 0)) (.and (.cmp .ne (.var 8) (.lst (.nil))) (.cmp .lt (.b1 .len (.var 4)) (.var 2)))) (.cons (.set 4 (.bin .add (.var 4) (.call 21 (.cons (.var 0) (.cons (.var 8) (.nil))))))
  (.nil)) (.nil))
  m_law_word_T2)
def m_law_word : Ss :=
  .cons (.par3 false 3 (.int 0) false 4 (.str "") false 5 (.call 20 (.cons (.var 0) (.cons (.int 2) (.nil)))))
  (.cons (.for_ (.nm 6) (.r1 (.bin .add (.int 1) (.call 20 (.cons (.var 0) (.cons (.var 2) (.nil)))))) m_law_word_B1)
  m_law_word_T1)
abbrev s_law_word : Stmt := top 49
def N_law_bits : List Str := ["_law_number", "_law_depth", "_law_signs", "_law_k"]
def P_law_bits : List Str := ["_law_number", "_law_depth"]
def m_law_bits : Ss :=
  .cons (.own 2 (.lst (.nil)))
  (.cons (.for_ (.nm 3) (.r1 (.var 1)) (.cons (.app 2 (.b1 .str (.bin .mod (.b1 .int (.var 0)) (.int 2))))
  (.cons (.set 0 (.bin .fdiv (.var 0) (.int 2)))
  (.nil))))
  (.cons (.frz 2 (.ret (.join (.str "") (.revL (.var 2)))))
  (.nil)))
abbrev s_law_bits : Stmt := top 51
def N_law_code : List Str := ["_law_cover", "_law_cells", "_law_found", "_law_many", "_law_first"]
def P_law_code : List Str := ["_law_cover"]
def m_law_code : Ss :=
  .cons (.par2 false 1 (.call 25 (.cons (.ix (.var 0) (.int 2)) (.nil))) false 2 (.non))
  (.cons (.for_ (.nm 3) (.r1 (.bin .add (.ix (.var 0) (.int 2)) (.int 1))) (.cons (.set 4 (.bin .fdiv (.bin .sub (.bin .add (.ix (.var 0) (.int 0)) (.var 1)) (.int 1)) (.var 1)))
  (.cons (.ite (.and (.isN false (.var 2)) (.cmp .le (.bin .mul (.bin .add (.var 4) (.int 1)) (.var 1)) (.bin .add (.ix (.var 0) (.int 0)) (.ix (.var 0) (.int 1))))) (.cons (.set 2 (.call 38 (.cons (.var 4) (.cons (.var 3) (.nil)))))
  (.nil)) (.nil))
  (.cons (.set 1 (.bin .fdiv (.var 1) (.int 2)))
  (.nil)))))
  (.cons (.ret (.var 2))
  (.nil)))
abbrev s_law_code : Stmt := top 52
def N_law_odd_word : List Str := ["_law_feed_here", "_law_rig", "_law_term", "_law_spot", "_law_sign", "_law_some"]
def P_law_odd_word : List Str := ["_law_feed_here", "_law_rig", "_law_term"]
def m_law_odd_word : Ss :=
  .cons (.set 3 (.call 20 (.cons (.var 0) (.cons (.bin .add (.b1 .len (.var 2)) (.int 1)) (.nil)))))
  (.cons (.set 4 (.call 21 (.cons (.var 0) (.cons (.lst (.cons (.str "k") (.cons (.str "A") (.cons (.str "1") (.cons (.str "-") (.cons (.str " ") (.cons (.str "ab") (.cons (.sl (.var 2) .no (.some (.int 1))) (.cons (.str "") (.nil)))))))))) (.nil)))))
  (.cons (.set 5 (.lst (.cons (.bin .add (.bin .add (.sl (.var 2) .no (.some (.var 3))) (.var 4)) (.sl (.var 2) (.some (.var 3)) .no)) (.cons (.bin .add (.var 2) (.str "q")) (.cons (.bin .add (.sl (.var 2) .no (.some (.int 14))) (.sl (.var 2) .no (.some (.int 14)))) (.cons (.non) (.cons (.int 3) (.cons (.tup (.cons (.str "a") (.nil))) (.cons (.bl true) (.cons (.sl (.var 2) .no (.some (.var 3))) (.nil)))))))))))
  (.cons (.ret (.call 21 (.cons (.var 0) (.cons (.var 5) (.nil)))))
  (.nil))))
abbrev s_law_odd_word : Stmt := top 53
def N_law_due : List Str := ["_law_rig", "_law_term", "_law_ending", "_law_fault_here", "_law_spans_here"]
def P_law_due : List Str := ["_law_rig", "_law_term", "_law_ending"]
def m_law_due : Ss :=
  .cons (.set 3 (.call 33 (.cons (.var 0) (.cons (.var 1) (.nil)))))
  (.cons (.ite (.isN true (.var 3)) (.cons (.ret (.tup (.cons (.str "use") (.cons (.str "word") (.cons (.var 3) (.nil))))))
  (.nil)) (.nil))
  (.cons (.ite (.and (.var 2) (.isN true (.call 34 (.cons (.var 0) (.cons (.var 1) (.nil)))))) (.cons (.ret (.tup (.cons (.str "use") (.cons (.str "word") (.cons (.b1 .len (.var 1)) (.nil))))))
  (.nil)) (.nil))
  (.cons (.set 4 (.call 36 (.cons (.var 0) (.cons (.var 1) (.nil)))))
  (.cons (.ite (.cmp .le (.b1 .len (.var 4)) (.b1 .len (.var 1))) (.cons (.ret (.tup (.cons (.str "barred") (.cons (.sl (.var 1) .no (.some (.b1 .len (.var 4)))) (.cons (.bin .sub (.b1 .len (.var 4)) (.int 1)) (.nil))))))
  (.nil)) (.nil))
  (.cons (.ret (.tup (.cons (.str "told") (.cons (.var 4) (.nil)))))
  (.nil))))))
abbrev s_law_due : Stmt := top 54
def N_law_right : List Str := ["_law_rig", "_law_term", "_law_due_here", "_law_last", "_law_code_here"]
def P_law_right : List Str := ["_law_rig", "_law_term"]
def m_law_right_T2 : Ss :=
  .cons (.set 2 (.call 41 (.cons (.var 0) (.cons (.var 1) (.cons (.bl true) (.nil))))))
  (.cons (.set 4 (.ite (.cmp .eq (.ix (.var 2) (.int 0)) (.str "told")) (.tup (.cons (.str "told") (.cons (.call 39 (.cons (.ix (.ix (.var 2) (.int 1)) (.neg (.int 1))) (.nil))) (.nil)))) (.var 2)))
  (.cons (.ret (.cmp .eq (.b1 .repr (.lam 0 (.call 18 (.cons (.var 0) (.cons (.var 1) (.nil)))))) (.b1 .repr (.var 4))))
  (.nil)))
def m_law_right_T1 : Ss :=
  .cons (.set 3 (.ite (.cmp .eq (.ix (.var 2) (.int 0)) (.str "told")) (.tup (.cons (.str "told") (.cons (.ix (.ix (.var 2) (.int 1)) (.neg (.int 1))) (.nil)))) (.var 2)))
  (.cons (.ite (.cmp .ne (.b1 .repr (.lam 0 (.call 16 (.cons (.var 0) (.cons (.var 1) (.nil)))))) (.b1 .repr (.var 3))) (.cons (.ret (.bl false))
  (.nil)) (.nil))
  m_law_right_T2)
def m_law_right : Ss :=
  .cons (.set 2 (.call 41 (.cons (.var 0) (.cons (.var 1) (.cons (.bl false) (.nil))))))
  (.cons (.ite (.cmp .ne (.b1 .repr (.lam 0 (.lgen 0 ["word", "coder"] [1, 0] (.cons (.var 1) (.cons (.var 0) (.nil))) 2))) (.b1 .repr (.var 2))) (.cons (.ret (.bl false))
  (.nil)) (.nil))
  m_law_right_T1)
abbrev s_law_right : Stmt := top 55
def N_law : List Str := ["_law_script", "_law_feed_here", "_law_lap", "_law_rig", "_law_term", "_law_due_here"]
def P_law : List Str := ["_law_script"]
def m_law_T3 : Ss :=
  .cons (.ite (.isN false (.call 34 (.cons (.var 3) (.cons (.var 4) (.nil))))) (.cons (.set 5 (.b1 .repr (.lam 0 (.call 18 (.cons (.var 3) (.cons (.var 4) (.nil)))))))
  (.cons (.ite (.cmp .ne (.b1 .repr (.lam 0 (.callK 18 ["message", "coder"] [1, 0] (.nil) (.cons (.var 4) (.cons (.var 3) (.nil)))))) (.var 5)) (.cons (.ret (.bl false))
  (.nil)) (.nil))
  (.nil))) (.nil))
  (.nil)
def m_law_T2 : Ss :=
  .cons (.set 5 (.b1 .repr (.lam 0 (.call 16 (.cons (.var 3) (.cons (.var 4) (.nil)))))))
  (.cons (.ite (.cmp .ne (.b1 .repr (.lam 0 (.callK 16 ["word", "coder"] [1, 0] (.nil) (.cons (.var 4) (.cons (.var 3) (.nil)))))) (.var 5)) (.cons (.ret (.bl false))
  (.nil)) (.nil))
  m_law_T3)
def m_law_T1 : Ss :=
  .cons (.ite (.or (.not (.call 42 (.cons (.var 3) (.cons (.str "") (.nil))))) (.not (.call 42 (.cons (.var 3) (.cons (.sl (.var 4) .no (.some (.bin .fdiv (.b1 .len (.var 4)) (.int 2)))) (.nil)))))) (.cons (.ret (.bl false))
  (.nil)) (.nil))
  m_law_T2
def m_law_B1 : Ss :=
  .cons (.set 3 (.call 24 (.cons (.var 1) (.cons (.lst (.cons (.int 2) (.cons (.int 3) (.cons (.int 3) (.cons (.int 4) (.cons (.int 5) (.nil))))))) (.cons (.int 3) (.cons (.int 4) (.cons (.int 12) (.nil))))))))
  (.cons (.set 4 (.call 37 (.cons (.var 1) (.cons (.var 3) (.cons (.call 21 (.cons (.var 1) (.cons (.lst (.cons (.int 3) (.cons (.int 8) (.cons (.int 28) (.nil))))) (.nil)))) (.nil))))))
  (.cons (.ite (.or (.not (.call 42 (.cons (.var 3) (.cons (.var 4) (.nil))))) (.not (.call 42 (.cons (.var 3) (.cons (.call 40 (.cons (.var 1) (.cons (.var 3) (.cons (.var 4) (.nil))))) (.nil)))))) (.cons (.ret (.bl false))
  (.nil)) (.nil))
  m_law_T1))
def m_law_T4 : Ss :=
  .cons (.ret (.bl true))
  (.nil)
def m_law : Ss :=
  .cons (.set 1 (.call 19 (.cons (.var 0) (.nil))))
  (.cons (.for_ (.nm 2) (.r1 (.int 4)) m_law_B1)
  m_law_T4)
abbrev s_law : Stmt := top 56
def N_law_said : List Str := ["_law_act", "error"]
def P_law_said : List Str := ["_law_act"]
def m_law_said : Ss :=
  .cons (.tryM [(0, 1, .ret, [.s "use", .f "word", .f "at"]), (1, 1, .ret, [.s "barred", .f "word", .f "at"])] (.cons (.ret (.tup (.cons (.str "told") (.cons (.act 0) (.nil)))))
  (.nil)))
  (.nil)
abbrev s_law_said : Stmt := top 50
def N_spans_of : List Str := ["coder", "word", "spans", "span"]
def P_spans_of : List Str := ["coder", "word"]
abbrev s_spans_of : Stmt := top 26
def g_spans_of : Dg := ⟨"spans_of", s_spans_of, N_spans_of, P_spans_of, .set 2 (.call 15 (.cons (.var 0) (.cons (.var 1) (.cons (.ix (.call 12 (.cons (.var 0) (.cons (.var 1) (.nil)))) (.int 0)) (.nil))))), .l (.var 2), .nm 3, .var 3⟩
def ds0 : List Df := [⟨"is_letters", s_is_letters, N_is_letters, P_is_letters, m_is_letters⟩,
  ⟨"bounds_of", s_bounds_of, N_bounds_of, P_bounds_of, m_bounds_of⟩,
  ⟨"written", s_written, N_written, P_written, m_written⟩,
  ⟨"open_depth", s_open_depth, N_open_depth, P_open_depth, m_open_depth⟩,
  ⟨"sides_of", s_sides_of, N_sides_of, P_sides_of, m_sides_of⟩,
  ⟨"doubled_by", s_doubled_by, N_doubled_by, P_doubled_by, m_doubled_by⟩,
  ⟨"plain_times", s_plain_times, N_plain_times, P_plain_times, m_plain_times⟩,
  ⟨"late_times", s_late_times, N_late_times, P_late_times, m_late_times⟩,
  ⟨"pending_times", s_pending_times, N_pending_times, P_pending_times, m_pending_times⟩,
  ⟨"cut_apart", s_cut_apart, N_cut_apart, P_cut_apart, m_cut_apart⟩,
  ⟨"settle", s_settle, N_settle, P_settle, m_settle⟩,
  ⟨"place_of", s_place_of, N_place_of, P_place_of, m_place_of⟩,
  ⟨"path_of", s_path_of, N_path_of, P_path_of, m_path_of⟩,
  ⟨"begun", s_begun, N_begun, P_begun, m_begun⟩,
  ⟨"span_behind", s_span_behind, N_span_behind, P_span_behind, m_span_behind⟩,
  ⟨"written_spans", s_written_spans, N_written_spans, P_written_spans, m_written_spans⟩,
  ⟨"span_of", s_span_of, N_span_of, P_span_of, m_span_of⟩,
  ⟨"first_bits", s_first_bits, N_first_bits, P_first_bits, m_first_bits⟩,
  ⟨"code_of", s_code_of, N_code_of, P_code_of, m_code_of⟩,
  ⟨"_law_feed", s_law_feed, N_law_feed, P_law_feed, m_law_feed⟩,
  ⟨"_law_draw", s_law_draw, N_law_draw, P_law_draw, m_law_draw⟩,
  ⟨"_law_any", s_law_any, N_law_any, P_law_any, m_law_any⟩,
  ⟨"_law_shape", s_law_shape, N_law_shape, P_law_shape, m_law_shape⟩,
  ⟨"_law_drawn", s_law_drawn, N_law_drawn, P_law_drawn, m_law_drawn⟩,
  ⟨"_law_coder", s_law_coder, N_law_coder, P_law_coder, m_law_coder⟩]
def ds1 : List Df := [⟨"_law_two", s_law_two, N_law_two, P_law_two, m_law_two⟩,
  ⟨"_law_parts", s_law_parts, N_law_parts, P_law_parts, m_law_parts⟩,
  ⟨"_law_known", s_law_known, N_law_known, P_law_known, m_law_known⟩,
  ⟨"_law_middle", s_law_middle, N_law_middle, P_law_middle, m_law_middle⟩,
  ⟨"_law_doubled", s_law_doubled, N_law_doubled, P_law_doubled, m_law_doubled⟩,
  ⟨"_law_plain", s_law_plain, N_law_plain, P_law_plain, m_law_plain⟩,
  ⟨"_law_settled", s_law_settled, N_law_settled, P_law_settled, m_law_settled⟩,
  ⟨"_law_place", s_law_place, N_law_place, P_law_place, m_law_place⟩,
  ⟨"_law_fault", s_law_fault, N_law_fault, P_law_fault, m_law_fault⟩,
  ⟨"_law_context", s_law_context, N_law_context, P_law_context, m_law_context⟩,
  ⟨"_law_next", s_law_next, N_law_next, P_law_next, m_law_next⟩,
  ⟨"_law_spans", s_law_spans, N_law_spans, P_law_spans, m_law_spans⟩,
  ⟨"_law_word", s_law_word, N_law_word, P_law_word, m_law_word⟩,
  ⟨"_law_bits", s_law_bits, N_law_bits, P_law_bits, m_law_bits⟩,
  ⟨"_law_code", s_law_code, N_law_code, P_law_code, m_law_code⟩,
  ⟨"_law_odd_word", s_law_odd_word, N_law_odd_word, P_law_odd_word, m_law_odd_word⟩,
  ⟨"_law_due", s_law_due, N_law_due, P_law_due, m_law_due⟩,
  ⟨"_law_right", s_law_right, N_law_right, P_law_right, m_law_right⟩,
  ⟨"law", s_law, N_law, P_law, m_law⟩]
def L : Lw := ⟨M, ds0 ++ ds1, ["len", "int", "repr", "sum", "all", "any", "tuple", "list", "isinstance", "range", "enumerate", "str", "bool", "abs", "super", "max"], [("LETTERS", .str "abcdefghijklmnopqrstuvwxyz")], [⟨"_law_said", s_law_said, N_law_said, P_law_said, m_law_said⟩], ["_law_right", "law"], [], [g_spans_of], 2, true⟩
theorem chk : L.chk = true := by decide +kernel
end K
set_option maxHeartbeats 0
namespace K
open PySem PySem.Spec PyProof.Rows L2 DL
def nm0 : List Str := ["SpanError", "CoderError", "NotUsable", "Barred", "LETTERS", "is_letters", "bounds_of", "written", "open_depth", "sides_of", "doubled_by", "plain_times", "late_times", "pending_times", "cut_apart", "settle", "place_of", "path_of", "begun", "span_behind", "written_spans", "spans_of", "span_of", "first_bits", "code_of"]
def nm1 : List Str := ["_law_feed", "_law_draw", "_law_any", "_law_shape", "_law_drawn", "_law_coder", "_law_two", "_law_parts", "_law_known", "_law_middle", "_law_doubled", "_law_plain", "_law_settled", "_law_place", "_law_fault", "_law_context", "_law_next", "_law_spans", "_law_word", "_law_said", "_law_bits", "_law_code", "_law_odd_word", "_law_due", "_law_right"]
def nm : List Str := nm0 ++ nm1
abbrev R : PySem.W.OpenRow := PySem.W.OpenLaw.row PySem.Challenge.rw_bitspans_k18_spans_and_codes_told
abbrev hk : PySem.W.Hook := hookX 5 L.fa L.fn (L.xt R.prog) L.tf
def ob (s : PySem.W.SharedT) : He.AlD := obsX 5 L.fa L.fn (L.xt R.prog) L.tf (HandSHeadRun.getT s)
theorem ob_eq (s : PySem.W.SharedT) : ob s = hk.obs s.abs := obsX_eq (HandSHeadRun.getT_eq s)
theorem run (w : World) : HandSHeadRun.RunEq R (PySem.W.view R.prog [56]) hk ob 4000 nm w := by
  intro os
  kernel_rfl
end K
namespace M17
open PySem DL
theorem xor_nat (a b : Nat) : Builtin.bitXor (a : Int) (b : Int) = ((a ^^^ b : Nat) : Int) := by
  rw [Bits.bitXor_pp (Int.natCast_nonneg a) (Int.natCast_nonneg b), Int.toNat_natCast, Int.toNat_natCast]
/-- how many last bits the two ends differ in -/
def od (a b : Nat) : Nat := Builtin.Int.intBits ((a ^^^ b : Nat) : Int)
theorem od_le {a b m : Nat} : od a b ≤ m ↔ a / 2 ^ m = b / 2 ^ m := by
  unfold od
  rw [intBits_le_iff]
  simp only [Int.natAbs_natCast]
  have e : (a ^^^ b) / 2 ^ m = (a / 2 ^ m) ^^^ (b / 2 ^ m) := Nat.xor_div_two_pow
  constructor
  · intro h
    have : (a ^^^ b) / 2 ^ m = 0 := Nat.div_eq_of_lt h
    rw [e] at this
    have e2 : ∀ x y : Nat, x ^^^ y = 0 → x = y := fun x y h => by rw [← Nat.xor_zero x, ← Nat.xor_self y, ← Nat.xor_assoc, h, Nat.zero_xor]
    exact e2 _ _ this
  · intro h
    rw [h, Nat.xor_self] at e
    exact Nat.lt_of_div_eq_zero (Nat.two_pow_pos m) e
theorem od_spec {a b : Nat} : a / 2 ^ od a b = b / 2 ^ od a b := od_le.mp (Nat.le_refl _)
theorem od_lt {a b d : Nat} (ha : a < 2 ^ d) (hb : b < 2 ^ d) : od a b ≤ d := od_le.mpr (by rw [Nat.div_eq_of_lt ha, Nat.div_eq_of_lt hb])
theorem od_self {a : Nat} : od a a = 0 := Nat.le_zero.mp (od_le.mpr rfl)
theorem od_pos {a b : Nat} (h : a ≠ b) : 1 ≤ od a b := by
  apply Nat.pos_of_ne_zero
  intro e
  have := od_spec (a := a) (b := b)
  rw [e] at this
  simp at this
  exact h this
theorem dbl_div {l w t m : Nat} (hw : 1 ≤ w) : ((l + w) * 2 ^ t - 1) / 2 ^ (m + t) = (l + w - 1) / 2 ^ m := by
  have p := Nat.two_pow_pos t
  have e : ((l + w) * 2 ^ t - 1) / 2 ^ t = l + w - 1 := by
    have e1 : (l + w) * 2 ^ t - 1 = 2 ^ t * (l + w - 1) + (2 ^ t - 1) := by
      obtain ⟨v, hv⟩ : ∃ v, l + w = v + 1 := ⟨l + w - 1, by omega⟩
      rw [hv, Nat.add_sub_cancel, Nat.add_mul, Nat.mul_comm v]
      omega
    rw [e1, Nat.mul_add_div p, Nat.div_eq_of_lt (by omega : 2 ^ t - 1 < 2 ^ t)]
    rfl
  rw [Nat.add_comm m t, Nat.pow_add, ← Nat.div_div_eq_div_mul, e]
theorem od_dbl {l w t : Nat} (hw : 1 ≤ w) : od (l * 2 ^ t) ((l + w) * 2 ^ t - 1) = od l (l + w - 1) + t := by
  have key : ∀ m, od (l * 2 ^ t) ((l + w) * 2 ^ t - 1) ≤ m + t ↔ od l (l + w - 1) ≤ m := by
    intro m
    rw [od_le, od_le, dbl_div hw, Nat.pow_add, Nat.mul_comm (2 ^ m), ← Nat.div_div_eq_div_mul, Nat.mul_div_cancel _ (Nat.two_pow_pos t)]
  have lo : t ≤ od (l * 2 ^ t) ((l + w) * 2 ^ t - 1) := by
    apply Nat.le_of_not_lt
    intro h
    have e := od_spec (a := l * 2 ^ t) (b := (l + w) * 2 ^ t - 1)
    generalize od (l * 2 ^ t) ((l + w) * 2 ^ t - 1) = j at h e
    have p2 : 2 ^ (j + 1) ≤ 2 ^ t := Nat.pow_le_pow_right (by decide) h
    have pj := Nat.two_pow_pos j
    rw [Nat.pow_succ] at p2
    have ge : l * 2 ^ t + 2 ^ j ≤ (l + w) * 2 ^ t - 1 := by
      have : (l + 1) * 2 ^ t ≤ (l + w) * 2 ^ t := Nat.mul_le_mul_right _ (by omega)
      rw [Nat.add_mul] at this
      omega
    have := Nat.div_le_div_right (c := 2 ^ j) ge
    rw [Nat.add_div_right _ pj] at this
    omega
  have a1 := (key (od l (l + w - 1))).mpr (Nat.le_refl _)
  have a2 := (key (od (l * 2 ^ t) ((l + w) * 2 ^ t - 1) - t)).mp (by omega)
  omega
/-- the middle -/
def mid (a b : Nat) : Nat := b / 2 ^ (od a b - 1) * 2 ^ (od a b - 1)
theorem mid_form {a b k : Nat} (hab : a ≤ b) (hk : od a b = k + 1) : a / 2 ^ k = 2 * (a / 2 ^ (k + 1)) ∧ b / 2 ^ k = 2 * (a / 2 ^ (k + 1)) + 1 := by
  have e := od_spec (a := a) (b := b)
  rw [hk] at e
  have ne : a / 2 ^ k ≠ b / 2 ^ k := fun h => by have := od_le.mpr h; omega
  have le := Nat.div_le_div_right (c := 2 ^ k) hab
  have ea : a / 2 ^ (k + 1) = a / 2 ^ k / 2 := by rw [Nat.pow_succ, Nat.div_div_eq_div_mul]
  have eb : b / 2 ^ (k + 1) = b / 2 ^ k / 2 := by rw [Nat.pow_succ, Nat.div_div_eq_div_mul]
  omega
theorem mid_eq {a b k : Nat} (hab : a ≤ b) (hk : od a b = k + 1) : mid a b = a / 2 ^ (k + 1) * 2 ^ (k + 1) + 2 ^ k := by
  unfold mid
  rw [hk, Nat.add_sub_cancel, (mid_form hab hk).2, Nat.pow_succ, Nat.add_mul, Nat.one_mul]
  congr 1
  rw [Nat.mul_comm 2, Nat.mul_assoc, Nat.mul_comm 2]
theorem mid_bd {a b k : Nat} (hab : a ≤ b) (hk : od a b = k + 1) : a < mid a b ∧ mid a b ≤ b ∧ mid a b = (a / 2 ^ k + 1) * 2 ^ k ∧ mid a b = b / 2 ^ k * 2 ^ k := by
  have f := mid_form hab hk
  have p := Nat.two_pow_pos k
  have e : mid a b = b / 2 ^ k * 2 ^ k := by unfold mid; rw [hk, Nat.add_sub_cancel]
  have e2 : mid a b = (a / 2 ^ k + 1) * 2 ^ k := by rw [e, f.2, f.1]
  refine ⟨?_, by rw [e]; exact Nat.div_mul_le_self _ _, e2, e⟩
  rw [e2]
  have := Nat.lt_div_mul_add p (a := a)
  rw [Nat.add_mul]; omega
theorem od_left {a b k j : Nat} (hab : a ≤ b) (hk : od a b = k + 1) (hj : od a (mid a b - 1) = j + 1) : 2 ^ j < mid a b - a := by
  obtain ⟨m1, m2, m3, m4⟩ := mid_bd hab hk
  have jk : j + 1 ≤ k := by
    rw [← hj]
    apply od_le.mpr
    have p := Nat.two_pow_pos k
    have : mid a b - 1 = 2 ^ k * (a / 2 ^ k) + (2 ^ k - 1) := by rw [m3, Nat.add_mul, Nat.mul_comm]; omega
    rw [this, Nat.mul_add_div p, Nat.div_eq_of_lt (by omega : 2 ^ k - 1 < 2 ^ k)]; rfl
  apply Nat.lt_of_not_le
  intro h
  have p := Nat.two_pow_pos j
  obtain ⟨M, hM⟩ : ∃ M, mid a b = M * 2 ^ j := ⟨(a / 2 ^ k + 1) * 2 ^ (k - j), by rw [m3, Nat.mul_assoc, ← Nat.pow_add]; congr 2; omega⟩
  have : od a (mid a b - 1) ≤ j := by
    apply od_le.mpr
    obtain ⟨N, rfl⟩ : ∃ N, M = N + 1 := ⟨M - 1, by cases M with | zero => simp at hM; omega | succ M => rfl⟩
    rw [Nat.add_mul, Nat.one_mul] at hM
    rw [hM]
    have ha : a / 2 ^ j = N := by
      apply Nat.div_eq_of_lt_le <;> first | omega | (rw [Nat.succ_mul]; omega)
    have hb : (N * 2 ^ j + 2 ^ j - 1) / 2 ^ j = N := by
      apply Nat.div_eq_of_lt_le <;> first | omega | (rw [Nat.succ_mul]; omega)
    rw [ha, hb]
  omega
theorem od_right {a b k j : Nat} (hab : a ≤ b) (hk : od a b = k + 1) (hj : od (mid a b) b = j + 1) : 2 ^ j < b + 1 - mid a b := by
  obtain ⟨m1, m2, m3, m4⟩ := mid_bd hab hk
  have jk : j + 1 ≤ k := by
    rw [← hj]
    apply od_le.mpr
    rw [m4, Nat.mul_div_cancel _ (Nat.two_pow_pos k)]
  apply Nat.lt_of_not_le
  intro h
  have p := Nat.two_pow_pos j
  obtain ⟨M, hM⟩ : ∃ M, mid a b = M * 2 ^ j := ⟨(a / 2 ^ k + 1) * 2 ^ (k - j), by rw [m3, Nat.mul_assoc, ← Nat.pow_add]; congr 2; omega⟩
  have : od (mid a b) b ≤ j := by
    apply od_le.mpr
    rw [hM]
    have ha : M * 2 ^ j / 2 ^ j = M := Nat.mul_div_cancel _ p
    have hb : b / 2 ^ j = M := by
      apply Nat.div_eq_of_lt_le <;> first | omega | (rw [Nat.succ_mul]; omega)
    rw [ha, hb]
  omega
theorem mid_dbl {l w t : Nat} (hw : 2 ≤ w) : mid (l * 2 ^ t) ((l + w) * 2 ^ t - 1) = mid l (l + w - 1) * 2 ^ t := by
  obtain ⟨k, hk⟩ : ∃ k, od l (l + w - 1) = k + 1 := ⟨od l (l + w - 1) - 1, by have := od_pos (a := l) (b := l + w - 1) (by omega); omega⟩
  have e := od_dbl (l := l) (w := w) (t := t) (by omega)
  unfold mid
  rw [e, hk, Nat.add_sub_cancel, show k + 1 + t - 1 = k + t from by omega, dbl_div (by omega), Nat.pow_add, Nat.mul_assoc]
end M17
namespace M17
open PySem DL
/-- the d last bits of n, the greatest first, as code points -/
def bs (n : Nat) : Nat → List Nat
  | 0 => []
  | d + 1 => bs (n / 2) d ++ [48 + n % 2]
theorem bs_len : ∀ {d n : Nat}, (bs n d).length = d
  | 0, n => rfl
  | d + 1, n => by simp [bs, bs_len (d := d)]
theorem bs_add {a : Nat} : ∀ {b n : Nat}, bs n (a + b) = bs (n / 2 ^ b) a ++ bs n b
  | 0, n => by simp [bs]
  | b + 1, n => by
    rw [← Nat.add_assoc]
    show bs (n / 2) (a + b) ++ _ = _ ++ (bs (n / 2) b ++ _)
    rw [bs_add (b := b), Nat.pow_succ, Nat.mul_comm, ← Nat.div_div_eq_div_mul, List.append_assoc]
/-- the bits, the least first -/
theorem bs_get {d n i : Nat} (h : i < d) : (bs n d)[i]? = some (48 + n / 2 ^ (d - 1 - i) % 2) := by
  obtain ⟨r, rfl⟩ : ∃ r, d = (i + 1) + r := ⟨d - (i + 1), by omega⟩
  rw [bs_add, List.getElem?_append_left (by rw [bs_len]; omega)]
  show (bs (n / 2 ^ r / 2) i ++ [48 + n / 2 ^ r % 2])[i]? = _
  rw [List.getElem?_append_right (by rw [bs_len]; exact Nat.le_refl _), bs_len, Nat.sub_self]
  simp
/-- one bit as a text -/
def bt1 (b : Nat) : Str := if b % 2 = 1 then "1" else "0"
def bt (n d : Nat) : Str := ⟨(bs n d).toArray⟩
theorem bt1_S {b : Nat} : bt1 b = ⟨#[48 + b % 2]⟩ := by
  unfold bt1
  rcases Nat.mod_two_eq_zero_or_one b with h | h <;> rw [h] <;> decide +kernel
theorem joinL_nil : ∀ ys : List (List Nat), TL.joinL [] ys = ys.flatten
  | [] => rfl
  | [p] => by simp [TL.joinL]
  | p :: q :: r => by simp [TL.joinL, joinL_nil (q :: r)]
theorem flat1 {f : Nat → Nat} : ∀ l : List Nat, (l.map fun i => [f i]).flatten = l.map f
  | [] => rfl
  | a :: l => by simp [flat1 l]
theorem bs_map {n d : Nat} : ((List.range d).map fun i => 48 + n / 2 ^ (d - 1 - i) % 2) = bs n d := by
  apply List.ext_getElem?
  intro i
  by_cases h : i < d
  · rw [bs_get h]; simp [List.getElem?_range h]
  · rw [List.getElem?_eq_none (by simp; omega), List.getElem?_eq_none (by rw [bs_len]; omega)]
theorem join_bits {n d : Nat} : Txt.join "" ((List.range d).map fun i => bt1 (n / 2 ^ (d - 1 - i))) = bt n d := by
  have e := SX.join_S [] ((List.range d).map fun i => [48 + n / 2 ^ (d - 1 - i) % 2])
  rw [joinL_nil, flat1, bs_map, List.map_map] at e
  have e2 : (List.range d).map (fun i => bt1 (n / 2 ^ (d - 1 - i))) = (List.range d).map (SX.S ∘ fun i => [48 + n / 2 ^ (d - 1 - i) % 2]) := by
    apply List.map_congr_left
    intro i _
    rw [bt1_S]; rfl
  rw [e2]
  have e3 : (Str.ofString "" : Str) = SX.S [] := by decide +kernel
  exact e3 ▸ e
end M17
set_option exponentiation.threshold 2000
namespace BM
open PySem DL M17
inductive Mn where
  | plain | pending | cut | late
deriving DecidableEq
def Mn.s : Mn → Str
  | .plain => "plain"
  | .pending => "pending"
  | .cut => "cut"
  | .late => "late"
theorem s_pending {m : Mn} : (m.s = Str.ofString "pending") = (m = .pending) := by cases m <;> decide +kernel
theorem s_cut {m : Mn} : (m.s = Str.ofString "cut") = (m = .cut) := by cases m <;> decide +kernel
theorem s_late {m : Mn} : (m.s = Str.ofString "late") = (m = .late) := by cases m <;> decide +kernel
structure Ent where
  c : Nat
  n : Nat
  g : Option Nat
structure Rig where
  z : Nat
  cs : List (List Ent)
  fine : Bool
  mn : Mn
/-- a word by its code points -/
def chS (cs : List Nat) : Str := ⟨cs.toArray⟩
def optD : Option Nat → D
  | none => .non
  | some k => .int k
def entD (e : Ent) : D := .tup [.str (chS [e.c]), .int e.n, optD e.g]
def conD (es : List Ent) : D := .tup (es.map entD)
def divS (b : Bool) : Str := if b then "fine" else "coarse"
def rigD (r : Rig) : D := .tup [.int r.z, .tup (r.cs.map conD), .str (divS r.fine), .str r.mn.s]
structure Ent.ok (m : Nat) (e : Ent) : Prop where
  c0 : 97 ≤ e.c
  c1 : e.c ≤ 122
  n0 : 1 ≤ e.n
  n1 : e.n ≤ 12
  g : ∀ k, e.g = some k → k < m
structure conOk (m : Nat) (es : List Ent) : Prop where
  l0 : 2 ≤ es.length
  l1 : es.length ≤ 4
  ok : ∀ e ∈ es, e.ok m
  nd : (es.map (·.c)).Nodup
structure Rig.ok (r : Rig) : Prop where
  z0 : 2 ≤ r.z
  z1 : r.z ≤ 5
  l0 : 1 ≤ r.cs.length
  l1 : r.cs.length ≤ 3
  ok : ∀ es ∈ r.cs, conOk r.cs.length es
theorem div_fine {b : Bool} : (divS b = Str.ofString "fine") = (b = true) := by cases b <;> decide +kernel
theorem div_coarse {b : Bool} : (divS b = Str.ofString "coarse") = (b = false) := by cases b <;> decide +kernel
structure Sp where
  l : Nat
  w : Nat
  d : Nat
def spD (s : Sp) : D := .tup [.int s.l, .int s.w, .int s.d]
structure Sp.ok (s : Sp) : Prop where
  w0 : 1 ≤ s.w
  hi : s.l + s.w ≤ 2 ^ s.d
def opn (l w : Nat) : Nat := od l (l + w - 1)
/-- the middle of a span -/
def mdl (l w : Nat) : Nat := mid l (l + w - 1)
def Sp.o (s : Sp) : Nat := opn s.l s.w
def Sp.m (s : Sp) : Nat := mdl s.l s.w
def Sp.lf (s : Sp) : Nat := s.m - s.l
def Sp.rt (s : Sp) : Nat := s.l + s.w - s.m
def Sp.dbl (s : Sp) (t : Nat) : Sp := ⟨s.l * 2 ^ t, s.w * 2 ^ t, s.d + t⟩
theorem dbl0 {s : Sp} : s.dbl 0 = s := by cases s; simp [Sp.dbl]
theorem dbl_dbl {s : Sp} {a b : Nat} : (s.dbl a).dbl b = s.dbl (a + b) := by simp [Sp.dbl, Nat.pow_add, Nat.mul_assoc, Nat.add_assoc]
theorem Sp.ok.dbl {s : Sp} (h : s.ok) (t : Nat) : (s.dbl t).ok := by
  have p := Nat.two_pow_pos t
  refine ⟨Nat.mul_pos h.w0 p, ?_⟩
  show s.l * 2 ^ t + s.w * 2 ^ t ≤ 2 ^ (s.d + t)
  rw [← Nat.add_mul, Nat.pow_add]
  exact Nat.mul_le_mul_right _ h.hi
theorem o_le {s : Sp} (h : s.ok) : s.o ≤ s.d := by
  have := h.hi; have := h.w0
  exact od_lt (by omega) (by omega)
theorem o_pos {s : Sp} (h : 2 ≤ s.w) : 1 ≤ s.o := od_pos (by omega)
theorem o_one {s : Sp} (h : s.w = 1) : s.o = 0 := by
  unfold Sp.o opn; rw [h]; exact od_self
theorem o_dbl {s : Sp} {t : Nat} (h : 1 ≤ s.w) : (s.dbl t).o = s.o + t := by
  show od (s.l * 2 ^ t) (s.l * 2 ^ t + s.w * 2 ^ t - 1) = _
  rw [← Nat.add_mul]
  exact od_dbl h
theorem m_bd {s : Sp} (h : 2 ≤ s.w) : s.l < s.m ∧ s.m < s.l + s.w := by
  obtain ⟨k, hk⟩ : ∃ k, od s.l (s.l + s.w - 1) = k + 1 := ⟨s.o - 1, by have := o_pos h; unfold Sp.o opn at *; omega⟩
  obtain ⟨a, b, _⟩ := mid_bd (a := s.l) (b := s.l + s.w - 1) (by omega) hk
  show s.l < mid s.l (s.l + s.w - 1) ∧ mid s.l (s.l + s.w - 1) < s.l + s.w
  omega
theorem lf_pos {s : Sp} (h : 2 ≤ s.w) : 1 ≤ s.lf := by have := m_bd h; unfold Sp.lf; omega
theorem rt_pos {s : Sp} (h : 2 ≤ s.w) : 1 ≤ s.rt := by have := m_bd h; unfold Sp.rt; omega
theorem lf_rt {s : Sp} (h : 2 ≤ s.w) : s.lf + s.rt = s.w := by have := m_bd h; unfold Sp.lf Sp.rt; omega
theorem m_dbl {s : Sp} {t : Nat} (h : 2 ≤ s.w) : (s.dbl t).m = s.m * 2 ^ t := by
  show mid (s.l * 2 ^ t) (s.l * 2 ^ t + s.w * 2 ^ t - 1) = _
  rw [← Nat.add_mul]
  exact mid_dbl h
theorem lf_dbl {s : Sp} {t : Nat} (h : 2 ≤ s.w) : (s.dbl t).lf = s.lf * 2 ^ t := by
  show (s.dbl t).m - s.l * 2 ^ t = (s.m - s.l) * 2 ^ t
  rw [m_dbl h, Nat.sub_mul]
theorem rt_dbl {s : Sp} {t : Nat} (h : 2 ≤ s.w) : (s.dbl t).rt = s.rt * 2 ^ t := by
  show s.l * 2 ^ t + s.w * 2 ^ t - (s.dbl t).m = (s.l + s.w - s.m) * 2 ^ t
  rw [m_dbl h, Nat.sub_mul, Nat.add_mul]
/-- the least t with 2 ^ e < w * 2 ^ t -/
def tms (w : Nat) : Nat → Nat
  | 0 => if w ≤ 1 then 1 else 0
  | e + 1 => if w ≤ 2 ^ (e + 1) then 1 + tms w e else 0
theorem tms_hi {w : Nat} (hw : 1 ≤ w) : ∀ {e : Nat}, 2 ^ e < w * 2 ^ tms w e
  | 0 => by unfold tms; split <;> simp <;> omega
  | e + 1 => by
    unfold tms
    split
    · have := tms_hi hw (e := e)
      have e2 : w * 2 ^ (1 + tms w e) = w * 2 ^ tms w e * 2 := by rw [Nat.add_comm, Nat.pow_succ, Nat.mul_assoc]
      rw [e2, Nat.pow_succ]; omega
    · simp; omega
theorem tms_lo {w : Nat} : ∀ {e t : Nat}, t < tms w e → w * 2 ^ t ≤ 2 ^ e
  | 0, t, h => by
    unfold tms at h
    split at h
    · have : t = 0 := by omega
      subst this; simp; omega
    · omega
  | e + 1, t, h => by
    unfold tms at h
    split at h
    · cases t with
      | zero => simpa using (by assumption)
      | succ t =>
        have := tms_lo (w := w) (e := e) (t := t) (by omega)
        rw [Nat.pow_succ, Nat.pow_succ, ← Nat.mul_assoc]; omega
    · omega
theorem tms_le {w : Nat} : ∀ {e : Nat}, tms w e ≤ e + 1
  | 0 => by unfold tms; split <;> omega
  | e + 1 => by
    have := tms_le (w := w) (e := e)
    unfold tms; split <;> omega
theorem tms_uniq {w e t : Nat} (hw : 1 ≤ w) (h1 : 2 ^ e < w * 2 ^ t) (h2 : ∀ s, s < t → w * 2 ^ s ≤ 2 ^ e) : tms w e = t := by
  rcases Nat.lt_trichotomy (tms w e) t with h | h | h
  · have := h2 _ h; have := tms_hi hw (e := e); omega
  · exact h
  · have := tms_lo h; omega
theorem tms_zero {w e : Nat} (hw : 1 ≤ w) (h : 2 ^ e < w) : tms w e = 0 := tms_uniq hw (by simpa using h) (fun s hs => by omega)
def plnT (s : Sp) (z : Nat) : Nat := z - s.o
def lateT (s : Sp) (z : Nat) : Nat := tms s.w (z - 1)
def mxs (s : Sp) : Nat := max s.lf s.rt
def pendT (s : Sp) (z : Nat) : Nat := plnT s z + tms (mxs (s.dbl (plnT s z))) (z - 2)
def cutSp (s : Sp) (z : Nat) : Sp × Option Sp :=
  if 2 ^ (z - 2) < s.w then (s, none) else if s.rt ≤ s.lf then (⟨s.l, s.lf, s.d⟩, some ⟨s.l + s.lf, s.rt, s.d⟩) else (⟨s.l + s.lf, s.rt, s.d⟩, some ⟨s.l, s.lf, s.d⟩)
def timesT (mn : Mn) (s : Sp) (z : Nat) : Nat := match mn with
  | .late => lateT s z
  | .pending => pendT s z
  | _ => plnT s z
structure Stl where
  s : Sp
  t : Nat
  x : Option Sp
def stl (mn : Mn) (z : Nat) (s : Sp) : Stl :=
  let f := s.dbl (timesT mn s z)
  if mn = .cut then ⟨(cutSp f z).1.dbl (plnT (cutSp f z).1 z), timesT mn s z + plnT (cutSp f z).1 z, (cutSp f z).2⟩ else ⟨f, timesT mn s z, none⟩
def lostD : Option Sp → D
  | none => .non
  | some s => spD s
def stlD (x : Stl) : D := .tup [spD x.s, .int x.t, lostD x.x]
theorem plain_w {s : Sp} {z : Nat} (hz : 2 ≤ z) (h : 1 ≤ s.w) : 2 ≤ (s.dbl (plnT s z)).w := by
  show 2 ≤ s.w * 2 ^ (z - s.o)
  by_cases e : s.o = 0
  · rw [e]
    have : 2 ^ 2 ≤ 2 ^ (z - 0) := Nat.pow_le_pow_right (by decide) (by omega)
    have := Nat.mul_le_mul_right (2 ^ (z - 0)) h
    omega
  · have : 2 ≤ s.w := by
      apply Nat.le_of_not_lt
      intro g
      exact e (o_one (by omega))
    have := Nat.mul_le_mul this (Nat.two_pow_pos (z - s.o))
    omega
theorem plain_o {s : Sp} {z : Nat} (h : 1 ≤ s.w) : z ≤ (s.dbl (plnT s z)).o := by
  rw [o_dbl h]; unfold plnT; omega
theorem plain_zero {s : Sp} {z : Nat} (h : z ≤ s.o) : plnT s z = 0 := by unfold plnT; omega
theorem mxs_dbl {s : Sp} {t : Nat} (h : 2 ≤ s.w) : mxs (s.dbl t) = mxs s * 2 ^ t := by
  unfold mxs
  rw [lf_dbl h, rt_dbl h]
  rcases Nat.le_total s.lf s.rt with g | g
  · rw [Nat.max_eq_right g, Nat.max_eq_right (Nat.mul_le_mul_right _ g)]
  · rw [Nat.max_eq_left g, Nat.max_eq_left (Nat.mul_le_mul_right _ g)]
theorem mxs_pos {s : Sp} (h : 2 ≤ s.w) : 1 ≤ mxs s := by have := lf_pos h; unfold mxs; omega
/-- halves of a span that are kept -/
theorem left_o {s : Sp} (h : 2 ≤ s.w) {j : Nat} (hj : Sp.o ⟨s.l, s.lf, s.d⟩ = j + 1) : 2 ^ j < s.lf := by
  obtain ⟨k, hk⟩ : ∃ k, od s.l (s.l + s.w - 1) = k + 1 := ⟨s.o - 1, by have := o_pos h; unfold Sp.o opn at *; omega⟩
  have mb := m_bd h
  refine od_left (a := s.l) (b := s.l + s.w - 1) (by omega) hk ?_
  have e : s.l + s.lf - 1 = mid s.l (s.l + s.w - 1) - 1 := by
    have : s.l + s.lf = s.m := by unfold Sp.lf; omega
    rw [this] <;> rfl
  rw [← e]
  exact hj
theorem right_o {s : Sp} (h : 2 ≤ s.w) {j : Nat} (hj : Sp.o ⟨s.l + s.lf, s.rt, s.d⟩ = j + 1) : 2 ^ j < s.rt := by
  obtain ⟨k, hk⟩ : ∃ k, od s.l (s.l + s.w - 1) = k + 1 := ⟨s.o - 1, by have := o_pos h; unfold Sp.o opn at *; omega⟩
  have mb := m_bd h
  have e1 : s.l + s.lf = s.m := by unfold Sp.lf; omega
  have e2 : s.m + s.rt - 1 = s.l + s.w - 1 := by unfold Sp.rt; omega
  have hj' : od (mid s.l (s.l + s.w - 1)) (s.l + s.w - 1) = j + 1 := by
    have : od (s.l + s.lf) (s.l + s.lf + s.rt - 1) = j + 1 := hj
    rw [e1, e2] at this
    exact this
  have := od_right (a := s.l) (b := s.l + s.w - 1) (by omega) hk hj'
  have : mid s.l (s.l + s.w - 1) = s.m := rfl
  unfold Sp.rt
  omega
/-- a kept half, plain doubled, is wider than a quarter -/
theorem kept_w {s : Sp} {z : Nat} (hz : 2 ≤ z) (h : 2 ≤ s.w) (w : Nat) (hw : 1 ≤ w) (k : Sp) (hk : k.w = w) (ho : ∀ j, k.o = j + 1 → 2 ^ j < w) : 2 ^ (z - 2) < (k.dbl (plnT k z)).w := by
  show 2 ^ (z - 2) < k.w * 2 ^ (z - k.o)
  rw [hk]
  cases e : k.o with
  | zero =>
    have : 2 ^ (z - 2) < 2 ^ (z - 0) := Nat.pow_lt_pow_right (by decide) (by omega)
    have := Nat.mul_le_mul_right (2 ^ (z - 0)) hw
    omega
  | succ j =>
    have h1 := ho j e
    have p := Nat.two_pow_pos (z - (j + 1))
    have h2 : 2 ^ j * 2 ^ (z - (j + 1)) < w * 2 ^ (z - (j + 1)) := Nat.mul_lt_mul_of_pos_right h1 p
    rw [← Nat.pow_add] at h2
    have : 2 ^ (z - 2) ≤ 2 ^ (j + (z - (j + 1))) := Nat.pow_le_pow_right (by decide) (by omega)
    omega
/-- what is settled: its shape by the manner -/
structure Settled (mn : Mn) (z : Nat) (s : Sp) : Prop where
  o : mn ≠ .late → z ≤ s.o
  pd : mn = .pending → 2 ^ (z - 2) < mxs s
  ct : mn = .cut → 2 ^ (z - 2) < s.w
  lt : mn = .late → 2 ^ (z - 1) < s.w
  w : 2 ≤ s.w
theorem cut_cases {s : Sp} {z : Nat} (hz : 2 ≤ z) (h : 2 ≤ s.w) : (cutSp s z = (s, none) ∧ 2 ^ (z - 2) < s.w) ∨ (∃ k x, cutSp s z = (k, some x) ∧ s.w ≤ 2 ^ (z - 2) ∧ k.d = s.d ∧ x.d = s.d ∧ 1 ≤ k.w ∧ 1 ≤ x.w ∧ k.w + x.w = s.w ∧ s.l ≤ k.l ∧ s.l ≤ x.l ∧ k.l + k.w ≤ s.l + s.w ∧ x.l + x.w ≤ s.l + s.w ∧ (∀ j, k.o = j + 1 → 2 ^ j < k.w)) := by
  have a := lf_pos h
  have b := rt_pos h
  have c := lf_rt h
  have d := m_bd h
  unfold cutSp
  split
  · exact .inl ⟨rfl, by assumption⟩
  · refine .inr ?_
    split
    · exact ⟨_, _, rfl, by omega, rfl, rfl, a, b, c, Nat.le_refl _, Nat.le_add_right _ _, (by show s.l + s.lf ≤ _; omega), (by show s.l + s.lf + s.rt ≤ _; omega), fun j hj => left_o h hj⟩
    · exact ⟨_, _, rfl, by omega, rfl, rfl, b, a, (by show s.rt + s.lf = _; omega), Nat.le_add_right _ _, Nat.le_refl _, (by show s.l + s.lf + s.rt ≤ _; omega), (by show s.l + s.lf ≤ _; omega), fun j hj => right_o h hj⟩
theorem settle_settled {mn : Mn} {z : Nat} {s : Sp} (hz : 2 ≤ z) (h : 1 ≤ s.w) : Settled mn z (stl mn z s).s := by
  unfold stl
  have pw := plain_w (s := s) hz h
  have po := plain_o (s := s) (z := z) h
  cases mn with
  | plain =>
    simp only [reduceCtorEq, if_false]
    exact ⟨fun _ => po, fun e => (by cases e), fun e => (by cases e), fun e => (by cases e), pw⟩
  | late =>
    simp only [reduceCtorEq, if_false]
    have hi := tms_hi (w := s.w) h (e := z - 1)
    refine ⟨fun e => absurd rfl e, fun e => (by cases e), fun e => (by cases e), fun _ => hi, ?_⟩
    have := Nat.two_pow_pos (z - 1)
    show 2 ≤ s.w * 2 ^ tms s.w (z - 1)
    omega
  | pending =>
    simp only [reduceCtorEq, if_false]
    have e : s.dbl (timesT .pending s z) = (s.dbl (plnT s z)).dbl (tms (mxs (s.dbl (plnT s z))) (z - 2)) := by rw [dbl_dbl] <;> rfl
    rw [e]
    generalize s.dbl (plnT s z) = p at pw po
    refine ⟨fun _ => ?_, fun _ => ?_, fun e => (by cases e), fun e => (by cases e), ?_⟩
    · rw [o_dbl (by omega)]; omega
    · rw [mxs_dbl pw]; exact tms_hi (mxs_pos pw)
    · show 2 ≤ p.w * 2 ^ _
      have := Nat.mul_le_mul pw (Nat.two_pow_pos (tms (mxs p) (z - 2)))
      omega
  | cut =>
    simp only [if_true]
    have e : timesT .cut s z = plnT s z := rfl
    rw [e]
    generalize s.dbl (plnT s z) = p at pw po
    rcases cut_cases (s := p) (z := z) hz pw with ⟨ec, hw⟩ | ⟨k, x, ec, hw, kd, xd, k0, x0, kx, _, _, _, _, ko⟩
    · rw [ec]
      rw [plain_zero po, dbl0]
      exact ⟨fun _ => po, fun e => (by cases e), fun _ => hw, fun e => (by cases e), pw⟩
    · rw [ec]
      exact ⟨fun _ => plain_o (s := k) k0, fun e => (by cases e), fun _ => kept_w hz pw k.w k0 k rfl ko, fun e => (by cases e), plain_w hz k0⟩
theorem Sp.ok.sub {s k : Sp} (h : s.ok) (w : 1 ≤ k.w) (d : k.d = s.d) (a : k.l + k.w ≤ s.l + s.w) : k.ok := ⟨w, by rw [d]; exact Nat.le_trans a h.hi⟩
theorem settle_ok {mn : Mn} {z : Nat} {s : Sp} (hz : 2 ≤ z) (h : s.ok) : (stl mn z s).s.ok ∧ ∀ x, (stl mn z s).x = some x → x.ok := by
  unfold stl
  by_cases e : mn = .cut
  · subst e
    rw [if_pos rfl]
    have pw := plain_w (s := s) hz h.w0
    have pk : (s.dbl (timesT .cut s z)).ok := h.dbl _
    have pw' : 2 ≤ (s.dbl (timesT .cut s z)).w := pw
    generalize s.dbl (timesT .cut s z) = p at pw' pk
    rcases cut_cases (s := p) (z := z) hz pw' with ⟨ec, hw⟩ | ⟨k, x, ec, hw, kd, xd, k0, x0, kx, a, b, c, d, ko⟩
    · simp only [ec]
      exact ⟨pk.dbl _, fun x hx => by cases hx⟩
    · simp only [ec]
      exact ⟨(pk.sub k0 kd c).dbl _, fun y hy => by cases hy; exact pk.sub x0 xd d⟩
  · rw [if_neg e]
    exact ⟨h.dbl _, fun x hx => by cases hx⟩
theorem timesT_le {mn : Mn} {z : Nat} {s : Sp} : timesT mn s z ≤ 2 * z + 2 := by
  have a : plnT s z ≤ z := by unfold plnT; omega
  cases mn with
  | plain => show plnT s z ≤ _; omega
  | cut => show plnT s z ≤ _; omega
  | late => have := tms_le (w := s.w) (e := z - 1); show tms _ _ ≤ _; omega
  | pending => have := tms_le (w := mxs (s.dbl (plnT s z))) (e := z - 2); show plnT s z + tms _ _ ≤ _; omega
/-- the middle by the cells behind the sure bits -/
theorem m_form {s : Sp} (h : 2 ≤ s.w) : s.m = s.l / 2 ^ s.o * 2 ^ s.o + 2 ^ (s.o - 1) := by
  obtain ⟨k, hk⟩ : ∃ k, od s.l (s.l + s.w - 1) = k + 1 := ⟨s.o - 1, by have := o_pos h; unfold Sp.o opn at *; omega⟩
  have e : s.o = k + 1 := hk
  rw [e]
  exact mid_eq (a := s.l) (b := s.l + s.w - 1) (by omega) hk
theorem lf_form {s : Sp} (h : 2 ≤ s.w) : s.lf + s.l % 2 ^ s.o = 2 ^ (s.o - 1) := by
  have a := m_form h
  have b := Nat.div_add_mod s.l (2 ^ s.o)
  have c := m_bd h
  rw [Nat.mul_comm] at b
  unfold Sp.lf
  omega
end BM
set_option maxHeartbeats 4000000
set_option exponentiation.threshold 256
namespace DP
open PySem DL BM M17
theorem sl24 : sizeLine = 2 ^ 24 := by decide +kernel
theorem toPys_ints : ∀ (l : List Int), toPys (l.map D.int) = some (l.map PyData.int)
  | [] => by simp [toPys]
  | i :: l => by simp [toPys, toPy, toPys_ints l]
theorem lay_ints : ∀ (l : List Int), PyData.canLayAll0 (l.map PyData.int) = true
  | [] => by simp [PyData.canLayAll0]
  | i :: l => by simp [PyData.canLayAll0, PyData.canLay0, lay_ints l]
theorem dep_ints : ∀ (l : List Int), PyData.depthAll (l.map PyData.int) ≤ 1
  | [] => by simp [PyData.depthAll]
  | i :: l => by
    have := dep_ints l
    simp [PyData.depthAll, PyData.depth]
    exact this
theorem shp_ints (l : List Int) : SeqAt.shaped (.list (l.map PyData.int)) = true := by
  unfold SeqAt.shaped
  have := dep_ints l
  simp [PyData.canLay0, lay_ints l, PyData.depth]
  omega
theorem ne_nilI {l : List Int} {Q : W → Prop} (q : Q (.d (.bl (!l.isEmpty)))) : wCmp .ne (.d (.lst (l.map D.int))) (.new []) Q := by
  refine ⟨.list (l.map PyData.int), .list [], by simp [pyW, toPy, toPys_ints], by simp [pyW, toPys], shp_ints _, by decide +kernel, ?_⟩
  rw [if_pos rfl, eqv_nilL]
  simpa using q
mutual
def good : D → Bool
  | .ref _ => false
  | .ty _ => false
  | .tup xs => goods xs
  | .lst xs => goods xs
  | .fro xs => goods xs
  | .wtp _ => false
  | _ => true
def goods : List D → Bool
  | [] => true
  | x :: xs => good x && goods xs
end
def isS : D → Bool
  | .str _ => true
  | _ => false
theorem isi_of {T t : String} {b : Bool} {x : D} {Q : W → Prop} (h1 : tyD x = some t) (h2 : L2.kitB t T = some b) : wIsi T (.d x) Q ↔ Q (.d (.bl b)) := by
  unfold wIsi tyW
  constructor
  · rintro ⟨t', b', e1, e2, q⟩
    replace e1 : tyD x = some t' := e1
    rw [h1] at e1; cases e1; rw [h2] at e2; cases e2; exact q
  · intro q; exact ⟨t, b, h1, h2, q⟩
theorem w_str {x : D} {Q : W → Prop} (h : good x = true) : wIsi "str" (.d x) Q ↔ Q (.d (.bl (isS x))) := by
  cases x <;> first | (simp [good] at h; done) | (refine isi_of rfl ?_; show L2.kitB _ _ = some true; decide +kernel) | (refine isi_of rfl ?_; show L2.kitB _ _ = some false; decide +kernel)
theorem lc_map {ds : DSt} {vs : List Nat} {g : Tg} {te : TDE} {P : List D → Hs → Prop} {h : Hs} (f : D → D) : ∀ (xs acc : List D), (∀ x ∈ xs, ∀ Kp : D → Hs → Prop, Kp (f x) h → g.put x (wipeD ds vs) fun ds2 => dD te ds2 h Kp noX) → acc.length + xs.length ≤ sizeLine → P (acc ++ xs.map f) h → lcD ds vs g dYes te P xs acc h
  | [], acc, _, _, p => by unfold lcD; simpa using p
  | x :: xs, acc, H, hl, p => by
    unfold lcD
    show g.put x (wipeD ds vs) fun ds2 => if true = true then dD te ds2 h (fun y h3 => acc.length < sizeLine ∧ lcD ds vs g dYes te P xs (acc ++ [y]) h3) noX else lcD ds vs g dYes te P xs acc h
    simp only [if_true]
    refine H x (by simp) _ ⟨by simp at hl; omega, lc_map f xs (acc ++ [f x]) (fun y hy => H y (List.mem_cons_of_mem _ hy)) (by simp at hl ⊢; omega) (by simpa using p)⟩
theorem band1 (m : Nat) : Builtin.bitAnd (m : Int) 1 = ((m % 2 : Nat) : Int) := by
  have := PyProof.Rows.bitAnd_pp (x := (m : Int)) (y := 1) (Int.natCast_nonneg m) (by decide)
  rw [this]
  simp [Nat.and_one_is_mod]
theorem bt1_len (b : Nat) : (bt1 b).length = 1 := by rw [bt1_S] <;> rfl
theorem sum_bt1 {f : Nat → Nat} : ∀ {l : List Nat}, ((l.map fun i => bt1 (f i)).map (·.length)).sum = l.length
  | [] => rfl
  | a :: l => by
    have := sum_bt1 (f := f) (l := l)
    simp only [List.map_cons, List.sum_cons, List.length_cons, bt1_len] at this ⊢
    omega
theorem strc_bit (m : Nat) : Str.ofString (toString ((m % 2 : Nat) : Int)) = bt1 m := by
  unfold bt1
  rcases Nat.mod_two_eq_zero_or_one m with e | e <;> rw [e] <;> decide +kernel
theorem rev_range {α : Type} {f : Nat → α} {c : Nat} : ((List.range c).map f).reverse = (List.range c).map fun i => f (c - 1 - i) := by
  apply List.ext_getElem
  · simp
  · intro i h1 h2
    simp
theorem cshlB {l t b : Nat} (h : l < 2 ^ b) (hb : b ≤ 3000) (ht : t ≤ 3000) : CShlA (l : Int) t := by
  have : Builtin.Int.intBits (l : Int) ≤ b := intBits_le_iff.mpr (by rw [Int.natAbs_natCast]; exact h)
  exact .inr ⟨by omega, by omega⟩
theorem cshl {l t : Nat} (h : l < 2 ^ 1000) (ht : t ≤ 1000) : CShlA (l : Int) t := by
  have : Builtin.Int.intBits (l : Int) ≤ 1000 := intBits_le_iff.mpr (by simpa using h)
  exact .inr ⟨by omega, by omega⟩
theorem log2_lt {a b : Nat} (h : a < 2 ^ b) (hb : 1 ≤ b) : a.log2 < b := by
  by_cases e : a = 0
  · subst e; simp; omega
  · exact (Nat.log2_lt e).mpr h
/-- products of numbers that are not too long -/
theorem cmulB {a b : Nat} {p q : Nat} (ha : a < 2 ^ p) (hb : b < 2 ^ q) (hp : 1 ≤ p) (hq : 1 ≤ q) (h : p + q ≤ 100000) : CMulA (a : Int) (b : Int) := by
  refine .inr ?_
  show (a : Int).natAbs.log2 + (b : Int).natAbs.log2 < 1000000
  rw [Int.natAbs_natCast, Int.natAbs_natCast]
  have := log2_lt ha hp
  have := log2_lt hb hq
  omega
section
variable {α : Type} {a b c d : α} {xs : List α}
@[simp] theorem at0 : L2.atI (a :: xs) 0 = some a := atI_n (k := 0) (by simp)
@[simp] theorem at1 : L2.atI (a :: b :: xs) 1 = some b := atI_n (k := 1) (by simp)
@[simp] theorem at2 : L2.atI (a :: b :: c :: xs) 2 = some c := atI_n (k := 2) (by simp)
@[simp] theorem at3 : L2.atI (a :: b :: c :: d :: xs) 3 = some d := atI_n (k := 3) (by simp)
end
@[simp] theorem ex_ij {a b : Int} {P : Int → Int → Prop} : (∃ i j, (a = i ∧ b = j) ∧ P i j) = P a b := propext ⟨fun ⟨_, _, ⟨e1, e2⟩, p⟩ => e1 ▸ e2 ▸ p, fun p => ⟨a, b, ⟨rfl, rfl⟩, p⟩⟩
@[simp] theorem mm_max {a b : Int} : mmI true a b = max a b := rfl
@[simp] theorem mm_min {a b : Int} : mmI false a b = min a b := rfl
theorem best2 {i j m : Int} (h : Best true [i, j] m) : m = max i j := by
  obtain ⟨h1, h2⟩ := h
  have a := h2 i (by simp)
  have b := h2 j (by simp)
  simp at h1 a b
  omega
theorem wMx2 {i j : Int} {x : W} {Q : W → Prop} (e : seqW x = some [D.int i, D.int j]) (q : Q (.d (.int (max i j)))) : wMx true x Q :=
  ⟨[i, j], e, by simp, fun m b => by rw [best2 b]; exact q⟩
@[simp] theorem chS_len {xs : List Nat} : (chS xs).length = xs.length := by show (xs.toArray).size = _; simp
@[simp] theorem chS_cps {xs : List Nat} : (chS xs).cps.toList = xs := rfl
theorem chS_inj {a b : List Nat} : chS a = chS b ↔ a = b := ⟨fun h => by have := congrArg (fun s : Str => s.cps.toList) h; simpa using this, fun h => by rw [h]⟩
theorem cut_take {xs : List Nat} {k : Nat} : L2.cutS (chS xs) none (some (k : Int)) = chS (xs.take k) := by
  unfold L2.cutS
  rw [HT.sIx_nat, HT.sIx_none, chS_len, chS_cps]
  simp [chS]
theorem cut_drop {xs : List Nat} {k : Nat} : L2.cutS (chS xs) (some (k : Int)) none = chS (xs.drop k) := by
  unfold L2.cutS
  rw [HT.sIx_nat, HT.sIx_none, chS_len, chS_cps]
  have : List.take (xs.length - min k xs.length) (List.drop (min k xs.length) xs) = List.drop k xs := by
    by_cases h : k ≤ xs.length
    · rw [Nat.min_eq_left h, List.take_of_length_le (by simp)]
    · rw [Nat.min_eq_right (by omega), List.drop_eq_nil_of_le (Nat.le_refl _), List.drop_eq_nil_of_le (by omega)]; simp
  rw [this] <;> rfl
/-- a comprehension with a test, without objects -/
theorem lc_fil {ds : DSt} {vs : List Nat} {g : Tg} {tt : TDT} {te : TDE} {P : List D → Hs → Prop} {h : Hs} (p : D → Bool) (f : D → D) : ∀ (xs acc : List D),
    (∀ x ∈ xs, ∀ (Kt : D → Hs → Prop) (Kf : Hs → Prop), (p x = true → Kt (f x) h) → (p x = false → Kf h) → g.put x (wipeD ds vs) fun ds2 => tt ds2 h (fun b h2 => if b = true then dD te ds2 h2 Kt noX else Kf h2) noX) →
    acc.length + xs.length ≤ sizeLine → P (acc ++ (xs.filter p).map f) h → lcD ds vs g tt te P xs acc h
  | [], acc, _, _, q => by unfold lcD; simpa using q
  | x :: xs, acc, H, hl, q => by
    unfold lcD
    refine H x (by simp) _ _ (fun hp => ?_) (fun hp => ?_)
    · refine ⟨by simp at hl; omega, lc_fil p f xs (acc ++ [f x]) (fun y hy => H y (List.mem_cons_of_mem _ hy)) (by simp at hl ⊢; omega) ?_⟩
      simpa [List.filter_cons, hp] using q
    · refine lc_fil p f xs acc (fun y hy => H y (List.mem_cons_of_mem _ hy)) (by simp at hl ⊢; omega) ?_
      simpa [List.filter_cons, hp] using q
theorem bd_nat {n : Nat} (h : n < 2 ^ 1000) : Bd 1003 0 (.int n) := bd_int (k := 1000) (by decide) (by
  rw [Int.natAbs_natCast]
  exact Nat.le_of_lt (log2_lt h (by decide)))
theorem bd_sp {s : Sp} (ok : s.ok) (hd : s.d ≤ 450) : Bd 4000 1 (spD s) := by
  have hp : s.l + s.w < 2 ^ 1000 := Nat.lt_of_le_of_lt ok.hi (Nat.pow_lt_pow_right (by decide) (by omega))
  have dp : s.d < 2 ^ 1000 := Nat.lt_of_le_of_lt hd (Nat.lt_of_lt_of_le (show 450 < 2 ^ 9 by decide) (Nat.pow_le_pow_right (by decide) (by decide)))
  exact (Bds.cons (bd_nat (n := s.l) (by omega)) (Bds.cons (bd_nat (n := s.w) (by omega)) (Bds.cons (bd_nat dp) (Bds.nil (d := 0))))).tup.mono
theorem bs_01 : ∀ {d n c : Nat}, c ∈ bs n d → c = 48 ∨ c = 49
  | 0, n, c, h => by simp [bs] at h
  | d + 1, n, c, h => by
    simp only [bs, List.mem_append, List.mem_singleton] at h
    rcases h with h | h
    · exact bs_01 h
    · omega
theorem bd_chS {xs : List Nat} {m : Nat} (h : ∀ c ∈ xs, c < 128) (hl : xs.length ≤ m) : Bd (10 * m + 2) 0 (.str (chS xs)) := by
  refine ⟨?_, ?_, ?_⟩
  · show PyData.strOk (chS xs) = true
    unfold PyData.strOk
    rw [Array.all_eq_true_iff_forall_mem]
    intro c hc
    have := h c (by simpa [chS] using hc)
    simp; omega
  · show 10 * (chS xs).cps.size + 2 ≤ _
    have : (chS xs).cps.size = xs.length := by simp [chS]
    omega
  · show 0 ≤ 0; omega
theorem wR {n d : Nat} {x : D} {Q : W → Prop} (h : Bd n d x) (hn : n ≤ 16777216) (hd : d ≤ 40) (q : Q (.d (.str (pyD x).shown))) : wB1 .repr (.d x) Q := repr_bd h (by rw [sl24]; exact hn) hd q
theorem eqS {a : Str} {Q : W → Prop} (q : Q (.d (.bl true))) : wCmp .eq (.d (.str a)) (.d (.str a)) Q := by
  show Q (.d (.bl (if false = true then !decide (a = a) else decide (a = a))))
  simpa using q
theorem neS {a : Str} {Q : W → Prop} (q : Q (.d (.bl false))) : wCmp .ne (.d (.str a)) (.d (.str a)) Q := by
  show Q (.d (.bl (if true = true then !decide (a = a) else decide (a = a))))
  simpa using q
/-- repr of two values that are one -/
theorem repr2 {n d : Nat} {x : D} {Q : W → W → Prop} (h : Bd n d x) (hn : n ≤ 16777216) (hd : d ≤ 40) (q : ∀ s : Str, Q (.d (.str s)) (.d (.str s))) : wB1 .repr (.d x) fun a => wB1 .repr (.d x) fun b => Q a b :=
  repr_bd h (by rw [sl24]; exact hn) hd (repr_bd h (by rw [sl24]; exact hn) hd (q _))
end DP
set_option exponentiation.threshold 256
namespace BM
open PySem DL M17 DP
def tot (es : List Ent) : Nat := (es.map (·.n)).sum
def ahd (es : List Ent) (i : Nat) : Nat := ((es.take i).map (·.n)).sum
theorem ahd_zero {es : List Ent} : ahd es 0 = 0 := rfl
theorem ahd_succ {es : List Ent} {i : Nat} {e : Ent} (h : es[i]? = some e) : ahd es (i + 1) = ahd es i + e.n := by
  obtain ⟨h1, h2⟩ := List.getElem?_eq_some_iff.mp h
  unfold ahd
  rw [List.take_succ_eq_append_getElem h1, List.map_append, List.sum_append, h2]
  simp
theorem ahd_full {es : List Ent} : ahd es es.length = tot es := by unfold ahd tot; rw [List.take_length]
theorem ahd_mono {es : List Ent} {i j : Nat} (h : i ≤ j) : ahd es i ≤ ahd es j := by
  induction j with
  | zero => have : i = 0 := by omega
            subst this; exact Nat.le_refl _
  | succ j ih =>
    by_cases e : i = j + 1
    · subst e; exact Nat.le_refl _
    · have := ih (by omega)
      by_cases hj : j < es.length
      · have := ahd_succ (es := es) (i := j) (List.getElem?_eq_getElem hj)
        omega
      · have : ahd es (j + 1) = ahd es j := by unfold ahd; rw [List.take_of_length_le (by omega), List.take_of_length_le (by omega)]
        omega
theorem ahd_le {es : List Ent} {i : Nat} : ahd es i ≤ tot es := by
  by_cases h : i ≤ es.length
  · rw [← ahd_full]; exact ahd_mono h
  · have : ahd es i = tot es := by unfold ahd tot; rw [List.take_of_length_le (by omega)]
    omega
def bg (fine : Bool) (w T A : Nat) : Nat := if fine = true then w * A / T else w / T * A
theorem bg_mono {fine : Bool} {w T A B : Nat} (h : A ≤ B) : bg fine w T A ≤ bg fine w T B := by
  unfold bg
  split
  · exact Nat.div_le_div_right (Nat.mul_le_mul_left _ h)
  · exact Nat.mul_le_mul_left _ h
theorem bg_le {fine : Bool} {w T A : Nat} (hT : 0 < T) (h : A ≤ T) : bg fine w T A ≤ w := by
  unfold bg
  split
  · exact Nat.div_le_of_le_mul (by rw [Nat.mul_comm]; exact Nat.mul_le_mul_right _ h)
  · exact Nat.le_trans (Nat.mul_le_mul_left _ h) (Nat.div_mul_le_self w T)
def pb (fine : Bool) (es : List Ent) (w i : Nat) : Nat := bg fine w (tot es) (ahd es i)
def pe (fine : Bool) (es : List Ent) (w i : Nat) : Nat := if i + 1 = es.length then w else bg fine w (tot es) (ahd es (i + 1))
theorem pb_le_pe {fine : Bool} {es : List Ent} {w i : Nat} (hT : 0 < tot es) : pb fine es w i ≤ pe fine es w i := by
  unfold pb pe
  split
  · exact bg_le hT ahd_le
  · exact bg_mono (ahd_mono (by omega))
theorem pe_le {fine : Bool} {es : List Ent} {w i : Nat} (hT : 0 < tot es) : pe fine es w i ≤ w := by
  unfold pe
  split
  · exact Nat.le_refl _
  · exact bg_le hT ahd_le
theorem pe_fine {es : List Ent} {w i : Nat} (hT : 0 < tot es) (h : i < es.length) : pe true es w i = bg true w (tot es) (ahd es (i + 1)) := by
  unfold pe
  split
  · rename_i e
    rw [e, ahd_full]
    unfold bg
    rw [if_pos rfl, Nat.mul_div_cancel _ hT]
  · rfl
theorem con_tot {m : Nat} {es : List Ent} (ok : conOk m es) : es.length ≤ tot es ∧ tot es ≤ 12 * es.length := by
  have h := ok.ok
  clear ok
  revert h
  induction es with
  | nil => intro _; simp [tot]
  | cons e es ih =>
    intro h
    have a := (h e (by simp)).n0
    have b := (h e (by simp)).n1
    have c := ih fun x hx => h x (List.mem_cons_of_mem _ hx)
    simp only [tot, List.map_cons, List.sum_cons, List.length_cons] at c ⊢
    omega
theorem con_pos {m : Nat} {es : List Ent} (ok : conOk m es) : 0 < tot es ∧ tot es ≤ 48 := by
  have := con_tot ok
  have := ok.l0
  have := ok.l1
  omega
/-- begins and ends, as the package tells them -/
def bndsD (fine : Bool) (es : List Ent) (w : Nat) : List D := (List.range es.length).map fun i => .tup [.int (pb fine es w i), .int (pe fine es w i)]
/-- begins and cells -/
def cellsD (fine : Bool) (es : List Ent) (w : Nat) : List D := (List.range es.length).map fun i => .tup [.int (pb fine es w i), .int ((pe fine es w i : Nat) - (pb fine es w i : Nat) : Nat)]
theorem sum_cast : ∀ (es : List Ent), (es.map fun e => (e.n : Int)).sum = ((tot es : Nat) : Int)
  | [] => rfl
  | e :: es => by
    have := sum_cast es
    simp only [tot, List.map_cons, List.sum_cons] at this ⊢
    rw [this]; push_cast; rfl
def cntD : D → D
  | .tup [_, .int c, _] => .int c
  | x => x
theorem cnt_ent {e : Ent} : cntD (entD e) = .int e.n := rfl
theorem map_cnt {es : List Ent} : (es.map entD).map cntD = (es.map fun e => (e.n : Int)).map D.int := by
  simp [List.map_map, Function.comp_def, cnt_ent]
/-- the ends ahead of the last one -/
def rawD (fine : Bool) (es : List Ent) (w i : Nat) : List D := (List.range i).map fun j => .tup [.int (bg fine w (tot es) (ahd es j)), .int (bg fine w (tot es) (ahd es (j + 1)))]
theorem rawD_succ {fine : Bool} {es : List Ent} {w i : Nat} : rawD fine es w (i + 1) = rawD fine es w i ++ [.tup [.int (bg fine w (tot es) (ahd es i)), .int (bg fine w (tot es) (ahd es (i + 1)))]] := by simp [rawD, List.range_succ]
theorem raw_set {fine : Bool} {es : List Ent} {w k : Nat} (h : es.length = k + 1) : (rawD fine es w es.length).set k (.tup [.int (bg fine w (tot es) (ahd es k)), .int w]) = bndsD fine es w := by
  apply List.ext_getElem
  · simp [rawD, bndsD]
  · intro i h1 h2
    simp [rawD, bndsD] at h1 h2
    by_cases e : i = k
    · subst e
      rw [List.getElem_set_self]
      simp [bndsD, pb, pe, h]
    · rw [List.getElem_set_ne (Ne.symm e)]
      have : i + 1 ≠ es.length := by omega
      simp [rawD, bndsD, pb, pe, this]
theorem at_map {α β : Type} {xs : List α} {f : α → β} {c : Nat} {x : α} (h : xs[c]? = some x) : L2.atI (xs.map f) (c : Int) = some (f x) := by
  obtain ⟨h1, h2⟩ := List.getElem?_eq_some_iff.mp h
  rw [atI_n (by simpa using h1), List.getElem_map, h2]
theorem at_some {α : Type} {xs : List α} {c : Nat} {x : α} (h : xs[c]? = some x) : L2.atI xs (c : Int) = some x := by
  obtain ⟨h1, h2⟩ := List.getElem?_eq_some_iff.mp h
  rw [atI_n h1, h2]
theorem at_last {α : Type} {xs : List α} {x : α} : L2.atI (xs ++ [x]) (-1) = some x := by
  have e : L2.ixN (xs ++ [x]).length (-1) = some xs.length := by
    unfold L2.ixN
    rw [if_neg (by omega), if_pos (by simp; omega)]
    congr 1
    simp; omega
  unfold L2.atI
  rw [e]
  simp
theorem Rig.ok.con {r : Rig} (h : r.ok) {c : Nat} {es : List Ent} (e : r.cs[c]? = some es) : conOk r.cs.length es := h.ok es (List.mem_of_getElem? e)
section
variable {r : Rig} {s : Sp} {e : Ent} {es : List Ent} {i : Int} {Q : W → Prop} {xs : List D}
theorem seqW_ex {xs : List D} {P : D → Prop} : (∃ ys d, some xs = some ys ∧ L2.atI ys i = some d ∧ P d) = ∃ d, L2.atI xs i = some d ∧ P d := propext ⟨fun ⟨_, d, e, h⟩ => by cases e; exact ⟨d, h⟩, fun ⟨d, h⟩ => ⟨_, d, rfl, h⟩⟩
@[simp] theorem ix_tup : wIx (.d (.tup xs)) (.d (.int i)) Q = ∃ d, L2.atI xs i = some d ∧ Q (.d d) := seqW_ex
@[simp] theorem ix_lst : wIx (.d (.lst xs)) (.d (.int i)) Q = ∃ d, L2.atI xs i = some d ∧ Q (.d d) := seqW_ex
@[simp] theorem ix_own : wIx (.own xs) (.d (.int i)) Q = ∃ d, L2.atI xs i = some d ∧ Q (.d d) := seqW_ex
@[simp] theorem ix_new : wIx (.new xs) (.d (.int i)) Q = ∃ d, L2.atI xs i = some d ∧ Q (.d d) := seqW_ex
@[simp] theorem ix_str {z : Str} : wIx (.d (.str z)) (.d (.int i)) Q = (z.length ≤ sizeLine ∧ ∃ c, L2.atI z.cps.toList i = some c ∧ Q (.d (.str ⟨#[c]⟩))) := rfl
@[simp] theorem len_tup : wB1 .len (.d (.tup xs)) Q = Q (.d (.int xs.length)) := by simp [wB1, wLen, seqW, lstW, tupW]
@[simp] theorem len_lst : wB1 .len (.d (.lst xs)) Q = Q (.d (.int xs.length)) := by simp [wB1, wLen, seqW, lstW, tupW]
@[simp] theorem len_own : wB1 .len (.own xs) Q = Q (.d (.int xs.length)) := by simp [wB1, wLen, seqW, lstW, tupW]
@[simp] theorem len_new : wB1 .len (.new xs) Q = Q (.d (.int xs.length)) := by simp [wB1, wLen, seqW, lstW, tupW]
@[simp] theorem len_str {z : Str} : wB1 .len (.d (.str z)) Q = (z.length ≤ sizeLine ∧ Q (.d (.int z.length))) := rfl
@[simp] theorem int_int {j : Int} : wB1 .int (.d (.int j)) Q = Q (.d (.int j)) := rfl
@[simp high] theorem ix_rig0 : wIx (.d (rigD r)) (.d (.int 0)) Q = Q (.d (.int r.z)) := by simp [rigD, wIx, seqW, lstW, tupW]
@[simp high] theorem ix_rig1 : wIx (.d (rigD r)) (.d (.int 1)) Q = Q (.d (.tup (r.cs.map conD))) := by simp [rigD, wIx, seqW, lstW, tupW]
@[simp high] theorem ix_rig2 : wIx (.d (rigD r)) (.d (.int 2)) Q = Q (.d (.str (divS r.fine))) := by simp [rigD, wIx, seqW, lstW, tupW]
@[simp high] theorem ix_rig3 : wIx (.d (rigD r)) (.d (.int 3)) Q = Q (.d (.str r.mn.s)) := by simp [rigD, wIx, seqW, lstW, tupW]
@[simp high] theorem ix_sp0 : wIx (.d (spD s)) (.d (.int 0)) Q = Q (.d (.int s.l)) := by simp [spD, wIx, seqW, lstW, tupW]
@[simp high] theorem ix_sp1 : wIx (.d (spD s)) (.d (.int 1)) Q = Q (.d (.int s.w)) := by simp [spD, wIx, seqW, lstW, tupW]
@[simp high] theorem ix_sp2 : wIx (.d (spD s)) (.d (.int 2)) Q = Q (.d (.int s.d)) := by simp [spD, wIx, seqW, lstW, tupW]
@[simp high] theorem ix_ent0 : wIx (.d (entD e)) (.d (.int 0)) Q = Q (.d (.str (chS [e.c]))) := by simp [entD, wIx, seqW, lstW, tupW]
@[simp high] theorem ix_ent1 : wIx (.d (entD e)) (.d (.int 1)) Q = Q (.d (.int e.n)) := by simp [entD, wIx, seqW, lstW, tupW]
@[simp high] theorem ix_ent2 : wIx (.d (entD e)) (.d (.int 2)) Q = Q (.d (optD e.g)) := by simp [entD, wIx, seqW, lstW, tupW]
@[simp high] theorem ix_con : wIx (.d (conD es)) (.d (.int i)) Q = ∃ d, L2.atI (es.map entD) i = some d ∧ Q (.d d) := by simp [conD, wIx, seqW, lstW, tupW]
end
@[simp] theorem bin_int {op : Bop} {i j : Int} {Q : W → Prop} : wBin op (.d (.int i)) (.d (.int j)) Q = wInt op i j Q := rfl
@[simp] theorem bin_str {a b : Str} {Q : W → Prop} : wBin .add (.d (.str a)) (.d (.str b)) Q = (a.length + b.length ≤ sizeLine ∧ Q (.d (.str (a ++ b)))) := rfl
end BM
set_option exponentiation.threshold 256
namespace BM
open PySem DL M17 DP
theorem tms_le_of {w e k : Nat} (h : 2 ^ e < w * 2 ^ k) : tms w e ≤ k := by
  apply Nat.le_of_not_lt
  intro g
  have := tms_lo (w := w) (e := e) g
  omega
theorem pend_le {s : Sp} {z : Nat} (hz : 2 ≤ z) (h : 1 ≤ s.w) : pendT s z ≤ z := by
  have pw := plain_w (s := s) hz h
  have hm := mxs_pos pw
  have hp : plnT s z ≤ z := by unfold plnT; omega
  unfold pendT
  by_cases w1 : s.w = 1
  · have o0 := o_one w1
    have t : plnT s z = z := by unfold plnT; omega
    rw [t] at pw hm ⊢
    have po : (s.dbl z).o = z := by rw [o_dbl h, o0]; omega
    have lf := lf_form pw
    have e : (s.dbl z).l % 2 ^ (s.dbl z).o = 0 := by
      rw [po]
      show s.l * 2 ^ z % 2 ^ z = 0
      exact Nat.mul_mod_left _ _
    rw [e, po] at lf
    have lt : 2 ^ (z - 2) < 2 ^ (z - 1) := Nat.pow_lt_pow_right (by decide) (by omega)
    have : 2 ^ (z - 2) < mxs (s.dbl z) := by unfold mxs; omega
    rw [tms_zero hm this]; omega
  · have w2 : 2 ≤ s.w := by omega
    have o1 := o_pos w2
    have tz : plnT s z ≤ z - 1 := by unfold plnT; omega
    have m1 := mxs_pos w2
    rw [mxs_dbl w2]
    have : tms (mxs s * 2 ^ plnT s z) (z - 2) ≤ z - 1 - plnT s z := by
      apply tms_le_of
      rw [Nat.mul_assoc, ← Nat.pow_add, show plnT s z + (z - 1 - plnT s z) = z - 1 by omega]
      have lt : 2 ^ (z - 2) < 2 ^ (z - 1) := Nat.pow_lt_pow_right (by decide) (by omega)
      have := Nat.mul_le_mul_right (2 ^ (z - 1)) m1
      omega
    omega
theorem timesT_lez {mn : Mn} {z : Nat} {s : Sp} (hz : 2 ≤ z) (h : 1 ≤ s.w) : timesT mn s z ≤ z := by
  have a : plnT s z ≤ z := by unfold plnT; omega
  cases mn with
  | plain => exact a
  | cut => exact a
  | late => have := tms_le (w := s.w) (e := z - 1); show tms _ _ ≤ _; omega
  | pending => exact pend_le hz h
theorem settle_dz {mn : Mn} {z : Nat} {s : Sp} (hz : 2 ≤ z) (h : 1 ≤ s.w) : (stl mn z s).s.d ≤ s.d + 2 * z := by
  have tl := timesT_lez (mn := mn) hz h
  unfold stl
  by_cases e : mn = .cut
  · subst e
    rw [if_pos rfl]
    have pw : 2 ≤ (s.dbl (timesT .cut s z)).w := plain_w (s := s) hz h
    have pd : (s.dbl (timesT .cut s z)).d = s.d + timesT .cut s z := rfl
    generalize s.dbl (timesT .cut s z) = p at pw pd
    have le : ∀ k : Sp, plnT k z ≤ z := fun k => by unfold plnT; omega
    rcases cut_cases (s := p) (z := z) hz pw with ⟨ec, hw⟩ | ⟨k, x, ec, hw, kd, xd, _⟩
    · simp only [ec]
      have := le p
      show p.d + _ ≤ _; omega
    · simp only [ec]
      have := le k
      show k.d + _ ≤ _; omega
  · rw [if_neg e]
    show s.d + _ ≤ _; omega
def lets (w : List Nat) : Bool := w.all fun c => decide (97 ≤ c) && decide (c ≤ 122)
def isLets : D → Bool
  | .str s => lets s.cps.toList
  | _ => false
theorem chS_self (s : Str) : chS s.cps.toList = s := by cases s; rfl
/-- where a letter stands in a context -/
def plc (es : List Ent) (c : Nat) : Option Nat := es.findIdx? fun e => e.c == c
theorem plc_some {es : List Ent} {c k : Nat} (h : plc es c = some k) : ∃ e, es[k]? = some e ∧ e.c = c := by
  unfold plc at h
  obtain ⟨h1, h2, _⟩ := List.findIdx?_eq_some_iff_getElem.mp h
  exact ⟨es[k], List.getElem?_eq_getElem h1, by simpa using h2⟩
/-- one letter from a room on: the room, the place, the room behind -/
def wstep (cs : List (List Ent)) (rm : Option Nat) (c : Nat) : Option (Nat × Nat × Option Nat) :=
  rm.bind fun i => (cs[i]?).bind fun es => (plc es c).bind fun k => (es[k]?).map fun e => (i, k, e.g)
abbrev Pth := List (Nat × Nat)
def wfold (cs : List (List Ent)) (st : Option (Pth × Option Nat)) (c : Nat) : Option (Pth × Option Nat) :=
  st.bind fun y => (wstep cs y.2 c).map fun x => (y.1 ++ [(x.1, x.2.1)], x.2.2)
def wrun (cs : List (List Ent)) (w : List Nat) : Option (Pth × Option Nat) := w.foldl (wfold cs) (some ([], some 0))
theorem wrun_nil {cs : List (List Ent)} : wrun cs [] = some ([], some 0) := rfl
theorem wrun_snoc {cs : List (List Ent)} {w : List Nat} {c : Nat} : wrun cs (w ++ [c]) = wfold cs (wrun cs w) c := by unfold wrun; rw [List.foldl_append] <;> rfl
theorem take_snoc {α : Type} {w : List α} {n : Nat} {c : α} (h : w[n]? = some c) : w.take (n + 1) = w.take n ++ [c] := by
  obtain ⟨h1, h2⟩ := List.getElem?_eq_some_iff.mp h
  rw [List.take_succ_eq_append_getElem h1, h2]
theorem wrun_take {cs : List (List Ent)} {w : List Nat} {n c : Nat} (h : w[n]? = some c) : wrun cs (w.take (n + 1)) = wfold cs (wrun cs (w.take n)) c := by rw [take_snoc h, wrun_snoc]
theorem wfold_none {cs : List (List Ent)} : ∀ (w : List Nat), w.foldl (wfold cs) none = none
  | [] => rfl
  | c :: w => wfold_none w
theorem wrun_none {cs : List (List Ent)} {w : List Nat} {n : Nat} (h : wrun cs (w.take n) = none) : wrun cs w = none := by
  have : wrun cs w = (w.drop n).foldl (wfold cs) (wrun cs (w.take n)) := by
    unfold wrun
    rw [← List.foldl_append, List.take_append_drop]
  rw [this, h, wfold_none]
/-- the place of the first fault -/
def wflt (cs : List (List Ent)) (w : List Nat) : Option Nat := (List.range w.length).find? fun n => (wrun cs (w.take (n + 1))).isNone
theorem wflt_at {cs : List (List Ent)} {w : List Nat} {n : Nat} {y : Pth × Option Nat} (hn : n < w.length) (h1 : wrun cs (w.take n) = some y) (h2 : wrun cs (w.take (n + 1)) = none) : wflt cs w = some n := by
  unfold wflt
  rw [List.find?_range_eq_some]
  refine ⟨by rw [h2] <;> rfl, by simpa using hn, fun j hj => ?_⟩
  have : (w.take n).take (j + 1) = w.take (j + 1) := by rw [List.take_take, Nat.min_eq_left (by omega)]
  cases e : wrun cs (w.take (j + 1)) with
  | none =>
    rw [← this] at e
    rw [wrun_none e] at h1; cases h1
  | some y => rfl
theorem wflt_none {cs : List (List Ent)} {w : List Nat} {y : Pth × Option Nat} (h : wrun cs w = some y) : wflt cs w = none := by
  unfold wflt
  rw [List.find?_eq_none]
  intro n hn g
  cases e : wrun cs (w.take (n + 1)) with
  | none => rw [wrun_none e] at h; cases h
  | some y => rw [e] at g; cases g
theorem wflt_or {cs : List (List Ent)} {w : List Nat} : (∃ y, wrun cs w = some y) ∨ ∃ n, wflt cs w = some n := by
  cases e : wrun cs w with
  | some y => exact .inl ⟨y, rfl⟩
  | none =>
    refine .inr ?_
    cases e2 : wflt cs w with
    | some n => exact ⟨n, rfl⟩
    | none =>
      exfalso
      unfold wflt at e2
      rw [List.find?_eq_none] at e2
      cases hw : w.length with
      | zero =>
        have : w = [] := List.length_eq_zero_iff.mp hw
        subst this; rw [wrun_nil] at e; cases e
      | succ k =>
        have := e2 k (by simp; omega)
        rw [List.take_of_length_le (by omega), e] at this
        exact this rfl
/-- the fault of any value as a word -/
def dflt (cs : List (List Ent)) : D → Option Int
  | .str s => if lets s.cps.toList = true then (wflt cs s.cps.toList).map Int.ofNat else some (-1)
  | _ => some (-1)
/-- places on a path are there -/
def pok (cs : List (List Ent)) (p : Pth) : Prop := ∀ x ∈ p, ∃ es e, cs[x.1]? = some es ∧ es[x.2]? = some e
theorem wstep_ok {cs : List (List Ent)} {rm : Option Nat} {c : Nat} {x : Nat × Nat × Option Nat} (h : wstep cs rm c = some x) : rm = some x.1 ∧ ∃ es e, cs[x.1]? = some es ∧ plc es c = some x.2.1 ∧ es[x.2.1]? = some e ∧ x.2.2 = e.g := by
  unfold wstep at h
  cases rm with
  | none => cases h
  | some i =>
    cases e1 : cs[i]? with
    | none => simp [e1] at h
    | some es =>
      cases e2 : plc es c with
      | none => simp [e1, e2] at h
      | some k =>
        cases e3 : es[k]? with
        | none => simp [e1, e2, e3] at h
        | some e =>
          simp [e1, e2, e3] at h
          subst h
          exact ⟨rfl, es, e, e1, e2, e3, rfl⟩
theorem wrun_inv {cs : List (List Ent)} (m : Nat → Prop) (hm : ∀ es ∈ cs, ∀ e ∈ es, ∀ k, e.g = some k → m k) (h0 : m 0) : ∀ {n : Nat} {w : List Nat} {p : Pth} {rm : Option Nat}, w.length = n → wrun cs w = some (p, rm) → p.length = w.length ∧ pok cs p ∧ ∀ k, rm = some k → m k := by
  intro n
  induction n with
  | zero =>
    intro w p rm hn h
    have : w = [] := List.length_eq_zero_iff.mp hn
    subst this
    cases h
    exact ⟨rfl, fun x hx => (by simp at hx), fun k hk => by cases hk; exact h0⟩
  | succ n ih =>
    intro w p rm hn h
    obtain ⟨v, c, rfl⟩ : ∃ v c, w = v ++ [c] := ⟨w.dropLast, w.getLast (by intro z; subst z; simp at hn), (List.dropLast_concat_getLast _).symm⟩
    rw [wrun_snoc] at h
    cases e : wrun cs v with
    | none => rw [e] at h; cases h
    | some y =>
      obtain ⟨p', rm'⟩ := y
      rw [e] at h
      cases e2 : wstep cs rm' c with
      | none => simp [wfold, e2] at h
      | some x =>
        simp [wfold, e2] at h
        obtain ⟨rfl, rfl⟩ := h
        obtain ⟨a, b, c'⟩ := ih (by simpa using hn) e
        obtain ⟨_, es, en, q1, q2, q3, q4⟩ := wstep_ok e2
        refine ⟨by simp [a], fun z hz => ?_, fun k hk => ?_⟩
        · rcases List.mem_append.mp hz with hz | hz
          · exact b z hz
          · simp at hz; subst hz; exact ⟨es, en, q1, q3⟩
        · rw [q4] at hk
          exact hm es (List.mem_of_getElem? q1) en (List.mem_of_getElem? q3) k hk
theorem wrun_ok {r : Rig} (ok : r.ok) {w : List Nat} {p : Pth} {rm : Option Nat} (h : wrun r.cs w = some (p, rm)) : p.length = w.length ∧ pok r.cs p ∧ ∀ k, rm = some k → k < r.cs.length :=
  wrun_inv (fun k => k < r.cs.length) (fun es he e hm k hk => ((ok.ok es he).ok e hm).g k hk) ok.l0 rfl h
def begunS (r : Rig) : Sp := ⟨0, 2 ^ r.z, r.z⟩
/-- the part of an entry -/
def part (r : Rig) (es : List Ent) (s : Sp) (k : Nat) : Option Sp :=
  if pb r.fine es s.w k = pe r.fine es s.w k then none else some ⟨s.l + pb r.fine es s.w k, pe r.fine es s.w k - pb r.fine es s.w k, s.d⟩
def bhd (r : Rig) (s : Sp) (x : Nat × Nat) : Option Sp :=
  (r.cs[x.1]?).bind fun es => (es[x.2]?).bind fun e => (part r es s x.2).map fun t => if e.g = none then t else (stl r.mn r.z t).s
theorem begun_ok {r : Rig} : (begunS r).ok := ⟨Nat.two_pow_pos _, by show 0 + 2 ^ r.z ≤ 2 ^ r.z; omega⟩
theorem part_ok {r : Rig} {es : List Ent} {s t : Sp} {k m : Nat} (co : conOk m es) (ok : s.ok) (h : part r es s k = some t) : t.ok ∧ t.d = s.d := by
  have hT := (con_pos co).1
  unfold part at h
  split at h
  · cases h
  · rename_i ne
    cases h
    have a := pb_le_pe (fine := r.fine) (w := s.w) (i := k) hT
    have b := pe_le (fine := r.fine) (w := s.w) (i := k) hT
    exact ⟨ok.sub (by show 1 ≤ pe r.fine es s.w k - pb r.fine es s.w k; omega) rfl (by show s.l + pb r.fine es s.w k + (pe r.fine es s.w k - pb r.fine es s.w k) ≤ _; omega), rfl⟩
theorem bhd_ok {r : Rig} (rok : r.ok) {s t : Sp} {x : Nat × Nat} (ok : s.ok) (h : bhd r s x = some t) : t.ok ∧ t.d ≤ s.d + 10 := by
  unfold bhd at h
  cases e1 : r.cs[x.1]? with
  | none => simp [e1] at h
  | some es =>
    cases e2 : es[x.2]? with
    | none => simp [e1, e2] at h
    | some e =>
      cases e3 : part r es s x.2 with
      | none => simp [e1, e2, e3] at h
      | some u =>
        simp only [e1, e2, e3, Option.bind_some, Option.map_some, Option.some.injEq] at h
        obtain ⟨uo, ud⟩ := part_ok (rok.con e1) ok e3
        subst h
        split
        · exact ⟨uo, by omega⟩
        · have a := settle_ok (mn := r.mn) rok.z0 uo
          have b := settle_dz (mn := r.mn) rok.z0 uo.w0
          have := rok.z1
          exact ⟨a.1, by omega⟩
def sfold (r : Rig) (st : Option (List Sp)) (x : Nat × Nat) : Option (List Sp) :=
  st.bind fun ss => (ss.getLast?).bind fun s => (bhd r s x).map fun t => ss ++ [t]
def srun (r : Rig) (p : Pth) : Option (List Sp) := p.foldl (sfold r) (some [begunS r])
theorem srun_nil {r : Rig} : srun r [] = some [begunS r] := rfl
theorem srun_snoc {r : Rig} {p : Pth} {x : Nat × Nat} : srun r (p ++ [x]) = sfold r (srun r p) x := by unfold srun; rw [List.foldl_append] <;> rfl
theorem srun_take {r : Rig} {p : Pth} {n : Nat} {x : Nat × Nat} (h : p[n]? = some x) : srun r (p.take (n + 1)) = sfold r (srun r (p.take n)) x := by rw [take_snoc h, srun_snoc]
theorem sfold_none {r : Rig} : ∀ (p : Pth), p.foldl (sfold r) none = none
  | [] => rfl
  | c :: w => sfold_none w
theorem srun_none {r : Rig} {p : Pth} {n : Nat} (h : srun r (p.take n) = none) : srun r p = none := by
  have : srun r p = (p.drop n).foldl (sfold r) (srun r (p.take n)) := by
    unfold srun
    rw [← List.foldl_append, List.take_append_drop]
  rw [this, h, sfold_none]
def sflt (r : Rig) (p : Pth) : Option Nat := (List.range p.length).find? fun n => (srun r (p.take (n + 1))).isNone
theorem sflt_at {r : Rig} {p : Pth} {n : Nat} {y : List Sp} (hn : n < p.length) (h1 : srun r (p.take n) = some y) (h2 : srun r (p.take (n + 1)) = none) : sflt r p = some n := by
  unfold sflt
  rw [List.find?_range_eq_some]
  refine ⟨by rw [h2] <;> rfl, by simpa using hn, fun j hj => ?_⟩
  have : (p.take n).take (j + 1) = p.take (j + 1) := by rw [List.take_take, Nat.min_eq_left (by omega)]
  cases e : srun r (p.take (j + 1)) with
  | none =>
    rw [← this] at e
    rw [srun_none e] at h1; cases h1
  | some y => rfl
theorem sflt_inv {r : Rig} {p : Pth} {n : Nat} (h : sflt r p = some n) : n < p.length ∧ srun r (p.take (n + 1)) = none ∧ ∃ y, srun r (p.take n) = some y := by
  unfold sflt at h
  rw [List.find?_range_eq_some] at h
  obtain ⟨h1, h2, h3⟩ := h
  refine ⟨by simpa using h2, by simpa using h1, ?_⟩
  cases n with
  | zero => exact ⟨_, srun_nil⟩
  | succ n =>
    have := h3 n (by omega)
    cases e : srun r (p.take (n + 1)) with
    | none => rw [e] at this; cases this
    | some y => exact ⟨y, rfl⟩
theorem sflt_none {r : Rig} {p : Pth} {y : List Sp} (h : srun r p = some y) : sflt r p = none := by
  unfold sflt
  rw [List.find?_eq_none]
  intro n hn g
  cases e : srun r (p.take (n + 1)) with
  | none => rw [srun_none e] at h; cases h
  | some y => rw [e] at g; cases g
theorem srun_inv {r : Rig} (rok : r.ok) : ∀ {n : Nat} {p : Pth} {ss : List Sp}, p.length = n → srun r p = some ss → ss.length = n + 1 ∧ (∀ s ∈ ss, s.ok ∧ s.d ≤ 5 + 10 * n) := by
  intro n
  induction n with
  | zero =>
    intro p ss hn h
    have : p = [] := List.length_eq_zero_iff.mp hn
    subst this
    cases h
    refine ⟨rfl, fun s hs => ?_⟩
    simp at hs; subst hs
    exact ⟨begun_ok, rok.z1⟩
  | succ n ih =>
    intro p ss hn h
    obtain ⟨v, x, rfl⟩ : ∃ v c, p = v ++ [c] := ⟨p.dropLast, p.getLast (by intro z; subst z; simp at hn), (List.dropLast_concat_getLast _).symm⟩
    rw [srun_snoc] at h
    cases e : srun r v with
    | none => rw [e] at h; cases h
    | some y =>
      rw [e] at h
      obtain ⟨a, b⟩ := ih (by simpa using hn) e
      cases e2 : y.getLast? with
      | none => simp [sfold, e2] at h
      | some s =>
        cases e3 : bhd r s x with
        | none => simp [sfold, e2, e3] at h
        | some t =>
          simp [sfold, e2, e3] at h
          subst h
          obtain ⟨so, sd⟩ := b s (List.mem_of_getLast? e2)
          obtain ⟨to, td⟩ := bhd_ok rok so e3
          refine ⟨by simp [a], fun u hu => ?_⟩
          rcases List.mem_append.mp hu with hu | hu
          · exact ⟨(b u hu).1, by have := (b u hu).2; omega⟩
          · simp at hu; subst hu; exact ⟨to, by omega⟩
theorem lts_eq : (Str.ofString "abcdefghijklmnopqrstuvwxyz" : Str).cps.toList = List.range' 97 26 := by decide +kernel
theorem lts_mem {c : Nat} : c ∈ (Str.ofString "abcdefghijklmnopqrstuvwxyz" : Str).cps.toList ↔ 97 ≤ c ∧ c ≤ 122 := by
  rw [lts_eq, List.mem_range'_1]; omega
theorem lts_memA {c : Nat} : c ∈ (Str.ofString "abcdefghijklmnopqrstuvwxyz" : Str).cps ↔ 97 ≤ c ∧ c ≤ 122 := by
  rw [← Array.mem_toList_iff]; exact lts_mem
/-- a value that is handed as a word -/
structure Wordy (x : D) : Prop where
  g : good x = true
  s : ∀ t, x = .str t → t.cps.size ≤ 1000
  b : Bd 20000 10 x
theorem lets_lt {w : List Nat} (h : lets w = true) : ∀ c ∈ w, c < 128 := fun c hc => by
  have := List.all_eq_true.mp h c hc
  simp at this; omega
theorem wordy_ch {w : List Nat} (hw : lets w = true) (h : w.length ≤ 1000) : Wordy (.str (chS w)) := ⟨rfl, fun t e => by cases e; simpa [chS] using h, (bd_chS (m := 1000) (lets_lt hw) h).mono⟩
def plcI (es : List Ent) (c : Nat) : Int := match plc es c with
  | some k => (k : Nat)
  | none => -1
def pairD (x : Nat × Nat) : D := .tup [.int x.1, .int x.2]
theorem plc_at {es : List Ent} {c k : Nat} {e : Ent} (h : es[k]? = some e) (hc : e.c = c) (hn : ∀ (j : Nat) (e' : Ent), j < k → es[j]? = some e' → e'.c ≠ c) : plc es c = some k := by
  obtain ⟨h1, h2⟩ := List.getElem?_eq_some_iff.mp h
  unfold plc
  rw [List.findIdx?_eq_some_iff_getElem]
  refine ⟨h1, by rw [h2]; simpa using hc, fun j hj => ?_⟩
  have := hn j es[j] hj (List.getElem?_eq_getElem _)
  simpa using this
theorem plc_no {es : List Ent} {c : Nat} (hn : ∀ (j : Nat) (e' : Ent), es[j]? = some e' → e'.c ≠ c) : plc es c = none := by
  unfold plc
  rw [List.findIdx?_eq_none_iff]
  intro e he
  obtain ⟨j, hj⟩ := List.getElem?_of_mem he
  simpa using hn j e hj
/-- the number of a fault of any value as a word -/
theorem dflt_ch {cs : List (List Ent)} {w : List Nat} (h : lets w = true) : dflt cs (.str (chS w)) = (wflt cs w).map Int.ofNat := by
  show (if lets (chS w).cps.toList = true then (wflt cs (chS w).cps.toList).map Int.ofNat else some (-1)) = _
  rw [chS_cps, if_pos h]
theorem bnds_at {fine : Bool} {es : List Ent} {w k : Nat} {e : Ent} (h : es[k]? = some e) : L2.atI (bndsD fine es w) (k : Int) = some (.tup [.int (pb fine es w k), .int (pe fine es w k)]) := by
  have hk := (List.getElem?_eq_some_iff.mp h).1
  apply at_some
  unfold bndsD
  rw [List.getElem?_map, List.getElem?_range hk] <;> rfl
theorem cells_at {fine : Bool} {es : List Ent} {w k : Nat} {e : Ent} (h : es[k]? = some e) : L2.atI (cellsD fine es w) (k : Int) = some (.tup [.int (pb fine es w k), .int ((pe fine es w k : Nat) - (pb fine es w k : Nat) : Nat)]) := by
  have hk := (List.getElem?_eq_some_iff.mp h).1
  apply at_some
  unfold cellsD
  rw [List.getElem?_map, List.getElem?_range hk] <;> rfl
theorem wrun_pre {r : Rig} (ok : r.ok) : ∀ {n : Nat} {w : List Nat} {p : Pth} {rm : Option Nat}, w.length = n → wrun r.cs w = some (p, rm) → ∀ i ≤ w.length, ∃ rm', wrun r.cs (w.take i) = some (p.take i, rm') := by
  intro n
  induction n with
  | zero =>
    intro w p rm hn h i hi
    have : w = [] := List.length_eq_zero_iff.mp hn
    subst this
    cases h
    exact ⟨some 0, by simp [wrun_nil]⟩
  | succ n ih =>
    intro w p rm hn h i hi
    obtain ⟨v, c, rfl⟩ : ∃ v c, w = v ++ [c] := ⟨w.dropLast, w.getLast (by intro z; subst z; simp at hn), (List.dropLast_concat_getLast _).symm⟩
    have h0 := h
    rw [wrun_snoc] at h
    cases e : wrun r.cs v with
    | none => rw [e] at h; cases h
    | some y =>
      obtain ⟨p', rm'⟩ := y
      rw [e] at h
      cases e2 : wstep r.cs rm' c with
      | none => simp [wfold, e2] at h
      | some x =>
        simp [wfold, e2] at h
        obtain ⟨rfl, rfl⟩ := h
        have pl := (wrun_ok ok e).1
        by_cases hi2 : i ≤ v.length
        · obtain ⟨rm2, h2⟩ := ih (by simpa using hn) e i hi2
          refine ⟨rm2, ?_⟩
          rw [List.take_append_of_le_length hi2, List.take_append_of_le_length (by omega)]
          exact h2
        · have : i = v.length + 1 := by simp at hi; omega
          subst this
          refine ⟨x.2.2, ?_⟩
          rw [List.take_of_length_le (by simp), List.take_of_length_le (by simp [pl])]
          exact h0
/-- what is lost behind a letter -/
def bhl (r : Rig) (s : Sp) (x : Nat × Nat) : Option Sp :=
  (r.cs[x.1]?).bind fun es => (es[x.2]?).bind fun e => (part r es s x.2).bind fun t => if e.g = none then none else (stl r.mn r.z t).x
theorem plc_find {es : List Ent} {ch : Nat} : (List.range es.length).find? (fun k => decide ((es[k]?.map (·.c)) = some ch)) = plc es ch := by
  cases h : (List.range es.length).find? (fun k => decide ((es[k]?.map (·.c)) = some ch)) with
  | some k =>
    rw [List.find?_range_eq_some] at h
    obtain ⟨h1, h2, h3⟩ := h
    have hk : k < es.length := by simpa using h2
    have he : es[k]? = some es[k] := List.getElem?_eq_getElem hk
    rw [he] at h1
    refine (plc_at he (by simpa using h1) fun j e' hj hj' => ?_).symm
    have := h3 j hj
    rw [hj'] at this
    simpa using this
  | none =>
    rw [List.find?_eq_none] at h
    refine (plc_no fun j e' hj => ?_).symm
    have := h j (by simpa using (List.getElem?_eq_some_iff.mp hj).1)
    rw [hj] at this
    simpa using this
theorem lt1 {a b : Nat} : ([a] < [b]) ↔ a < b := by
  constructor
  · intro h
    cases h with
    | rel h => exact h
    | cons h => cases h
  · intro h; exact List.Lex.rel h
theorem chS_a : (Str.ofString "a" : Str).cps.toList = [97] := by decide +kernel
theorem chS_z : (Str.ofString "z" : Str).cps.toList = [122] := by decide +kernel
/-- != [] -/
theorem ne_nilN {n d : Nat} {xs : List D} {Q : W → Prop} (b : Bds n d xs) (hd : d ≤ 60) (q : Q (.d (.bl (!xs.isEmpty)))) : wCmp .ne (.new xs) (.new []) Q := by
  refine ⟨.list (pyDs xs), .list [], by simp only [pyW, toPys_pl b.pl, Option.map_some], by simp [pyW, toPys], ?_, by decide +kernel, ?_⟩
  · have := shp_pl (x := .lst xs) b.lst.pl (Nat.le_trans b.lst.dp (by omega))
    simpa [pyD] using this
  · rw [if_pos rfl, eqv_nilL]
    have : (pyDs xs).isEmpty = xs.isEmpty := by cases xs <;> rfl
    rw [this]; exact q
theorem ch1 {c : Nat} : (⟨#[c]⟩ : Str) = chS [c] := rfl
theorem lt_a {c : Nat} : (chS [c]).cps < (Str.ofString "a" : Str).cps ↔ c < 97 := by
  show [c] < (Str.ofString "a" : Str).cps.toList ↔ _
  rw [chS_a]; exact lt1
theorem le_a {c : Nat} : (Str.ofString "a" : Str).cps ≤ (chS [c]).cps ↔ 97 ≤ c := by
  show ¬ ((chS [c]).cps < (Str.ofString "a" : Str).cps) ↔ _
  rw [lt_a]; omega
theorem lt_z {c : Nat} : (Str.ofString "z" : Str).cps < (chS [c]).cps ↔ 122 < c := by
  show (Str.ofString "z" : Str).cps.toList < [c] ↔ _
  rw [chS_z]; exact lt1
theorem le_z {c : Nat} : (chS [c]).cps ≤ (Str.ofString "z" : Str).cps ↔ c ≤ 122 := by
  show ¬ ((Str.ofString "z" : Str).cps < (chS [c]).cps) ↔ _
  rw [lt_z]; omega
theorem bd_char {w : List Nat} {c : Nat} (hp : plD (.str (chS w)) = true) (hc : c ∈ w) : Bd 12 0 (.str (chS [c])) := by
  refine ⟨?_, by simp [szD, chS], by simp [dpD]⟩
  show PyData.strOk (chS [c]) = true
  have h : PyData.strOk (chS w) = true := hp
  unfold PyData.strOk at h ⊢
  rw [Array.all_eq_true_iff_forall_mem] at h ⊢
  intro d hd
  have : d = c := by simpa [chS] using hd
  subst this
  exact h d (by simpa [chS] using hc)
def notLet : D → Bool
  | .str s => !(lets s.cps.toList)
  | _ => false
/-- the signs that are no letters -/
theorem fil_lets {w : List Nat} : ((w.map fun c => D.str (chS [c])).filter notLet).isEmpty = lets w := by
  induction w with
  | nil => rfl
  | cons c w ih =>
    have e : lets (c :: w) = (lets [c] && lets w) := by simp [lets]
    rw [e, List.map_cons, List.filter_cons]
    have e2 : notLet (D.str (chS [c])) = !(lets [c]) := rfl
    rw [e2]
    cases h : lets [c] with
    | true => simpa using ih
    | false => simp
end BM
set_option maxHeartbeats 4000000
set_option exponentiation.threshold 256
namespace BM
open PySem DL M17 DP
theorem bhd_okz {r : Rig} (rok : r.ok) {s t : Sp} {x : Nat × Nat} (ok : s.ok) (h : bhd r s x = some t) : t.ok ∧ t.d ≤ s.d + 2 * r.z := by
  unfold bhd at h
  cases e1 : r.cs[x.1]? with
  | none => simp [e1] at h
  | some es =>
    cases e2 : es[x.2]? with
    | none => simp [e1, e2] at h
    | some e =>
      cases e3 : part r es s x.2 with
      | none => simp [e1, e2, e3] at h
      | some u =>
        simp only [e1, e2, e3, Option.bind_some, Option.map_some, Option.some.injEq] at h
        obtain ⟨uo, ud⟩ := part_ok (rok.con e1) ok e3
        subst h
        split
        · exact ⟨uo, by omega⟩
        · have a := settle_ok (mn := r.mn) rok.z0 uo
          have b := settle_dz (mn := r.mn) rok.z0 uo.w0
          exact ⟨a.1, by omega⟩
theorem srun_invz {r : Rig} (rok : r.ok) : ∀ {n : Nat} {p : Pth} {ss : List Sp}, p.length = n → srun r p = some ss → ss.length = n + 1 ∧ (∀ s ∈ ss, s.ok ∧ s.d ≤ r.z + 2 * r.z * n) := by
  intro n
  induction n with
  | zero =>
    intro p ss hn h
    have : p = [] := List.length_eq_zero_iff.mp hn
    subst this
    cases h
    refine ⟨rfl, fun s hs => ?_⟩
    simp at hs; subst hs
    exact ⟨begun_ok, Nat.le_refl _⟩
  | succ n ih =>
    intro p ss hn h
    obtain ⟨v, x, rfl⟩ : ∃ v c, p = v ++ [c] := ⟨p.dropLast, p.getLast (by intro z; subst z; simp at hn), (List.dropLast_concat_getLast _).symm⟩
    rw [srun_snoc] at h
    have en : 2 * r.z * (n + 1) = 2 * r.z * n + 2 * r.z := by rw [Nat.mul_succ]
    cases e : srun r v with
    | none => rw [e] at h; cases h
    | some y =>
      rw [e] at h
      obtain ⟨a, b⟩ := ih (by simpa using hn) e
      cases e2 : y.getLast? with
      | none => simp [sfold, e2] at h
      | some s =>
        cases e3 : bhd r s x with
        | none => simp [sfold, e2, e3] at h
        | some t =>
          simp [sfold, e2, e3] at h
          subst h
          obtain ⟨so, sd⟩ := b s (List.mem_of_getLast? e2)
          obtain ⟨to, td⟩ := bhd_okz rok so e3
          refine ⟨by simp [a], fun u hu => ?_⟩
          rcases List.mem_append.mp hu with hu | hu
          · exact ⟨(b u hu).1, by have := (b u hu).2; omega⟩
          · simp at hu
            subst hu
            exact ⟨to, by omega⟩
end BM
set_option exponentiation.threshold 256
namespace BM
open PySem DL M17 DP
def low (a b : Nat) : Nat × Nat := (a / Nat.gcd a b, b / Nat.gcd a b)
theorem plc_mem {m : Nat} {es : List Ent} {e : Ent} (co : conOk m es) (he : e ∈ es) : ∃ j, plc es e.c = some j ∧ es[j]? = some e := by
  obtain ⟨j, hj⟩ := List.getElem?_of_mem he
  refine ⟨j, plc_at hj rfl fun i e' hi hi' hc => ?_, hj⟩
  obtain ⟨h1, h2⟩ := List.getElem?_eq_some_iff.mp hj
  obtain ⟨g1, g2⟩ := List.getElem?_eq_some_iff.mp hi'
  have := List.pairwise_iff_getElem.mp co.nd i j (by simpa using g1) (by simpa using h1) hi
  simp [h2, g2] at this
  exact this hc
theorem wrun_add {r : Rig} (rok : r.ok) {w : List Nat} {p : Pth} {k : Nat} {es : List Ent} {e : Ent} (hr : wrun r.cs w = some (p, some k)) (hes : r.cs[k]? = some es) (he : e ∈ es) : ∃ p', wrun r.cs (w ++ [e.c]) = some (p', e.g) := by
  obtain ⟨j, h1, h2⟩ := plc_mem (rok.con hes) he
  refine ⟨p ++ [(k, j)], ?_⟩
  rw [wrun_snoc, hr]
  simp [wfold, wstep, hes, h1, h2]
theorem lets_add {r : Rig} (rok : r.ok) {w : List Nat} {es : List Ent} {e : Ent} {k : Nat} (hw : lets w = true) (hes : r.cs[k]? = some es) (he : e ∈ es) : lets (w ++ [e.c]) = true := by
  have eo := (rok.con hes).ok e he
  have := eo.c0
  have := eo.c1
  unfold lets at hw ⊢
  rw [List.all_append, hw]
  simp; omega
theorem chS_app {a b : List Nat} : chS a ++ chS b = chS (a ++ b) := by
  show (⟨a.toArray ++ b.toArray⟩ : Str) = ⟨(a ++ b).toArray⟩
  simp
theorem chS_nil : (Str.ofString "" : Str) = chS [] := by decide +kernel
end BM
set_option exponentiation.threshold 256
namespace BM
open PySem DL M17 DP
theorem od_sh {a b q z m : Nat} (h : m ≤ z) : od (a + q * 2 ^ z) (b + q * 2 ^ z) ≤ m ↔ od a b ≤ m := by
  have e : q * 2 ^ z = 2 ^ m * (q * 2 ^ (z - m)) := by
    rw [Nat.mul_comm (2 ^ m), Nat.mul_assoc, ← Nat.pow_add]; congr 2; omega
  have p := Nat.two_pow_pos m
  rw [od_le, od_le, e, Nat.add_mul_div_left _ _ p, Nat.add_mul_div_left _ _ p]
  omega
structure Shf (z : Nat) (s s' : Sp) : Prop where
  q : ∃ q, s'.l = s.l + q * 2 ^ z
  w : s'.w = s.w
  w0 : 1 ≤ s.w
  w1 : s.w ≤ 2 ^ z
variable {z : Nat} {s s' : Sp}
theorem Shf.o (h : Shf z s s') {m : Nat} (hm : m ≤ z) : s'.o ≤ m ↔ s.o ≤ m := by
  obtain ⟨⟨q, hq⟩, w, w0, _⟩ := h
  show od s'.l (s'.l + s'.w - 1) ≤ m ↔ od s.l (s.l + s.w - 1) ≤ m
  rw [hq, w, show s.l + q * 2 ^ z + s.w - 1 = s.l + s.w - 1 + q * 2 ^ z by omega]
  exact od_sh hm
theorem Shf.dbl (h : Shf z s s') {t : Nat} (hw : s.w * 2 ^ t ≤ 2 ^ z) : Shf z (s.dbl t) (s'.dbl t) := by
  obtain ⟨⟨q, hq⟩, w, w0, w1⟩ := h
  refine ⟨⟨q * 2 ^ t, ?_⟩, by show s'.w * 2 ^ t = s.w * 2 ^ t; rw [w], Nat.mul_pos w0 (Nat.two_pow_pos t), hw⟩
  show s'.l * 2 ^ t = s.l * 2 ^ t + q * 2 ^ t * 2 ^ z
  rw [hq, Nat.add_mul, Nat.mul_right_comm]
theorem w_le_o {s : Sp} (h : 1 ≤ s.w) : s.w ≤ 2 ^ s.o := by
  have e : s.l / 2 ^ s.o = (s.l + s.w - 1) / 2 ^ s.o := od_spec
  have p := Nat.two_pow_pos s.o
  have a := Nat.div_add_mod s.l (2 ^ s.o)
  have b := Nat.div_add_mod (s.l + s.w - 1) (2 ^ s.o)
  have c := Nat.mod_lt (s.l + s.w - 1) p
  rw [← e] at b
  omega
theorem plain_wle {z : Nat} {s : Sp} (w0 : 1 ≤ s.w) (w1 : s.w ≤ 2 ^ z) : (s.dbl (plnT s z)).w ≤ 2 ^ z := by
  by_cases g : s.o ≤ z
  · have := w_le_o (s := s.dbl (plnT s z)) (Nat.mul_pos w0 (Nat.two_pow_pos _))
    rw [o_dbl w0] at this
    have e : s.o + plnT s z = z := by unfold plnT; omega
    rw [e] at this; exact this
  · have e : plnT s z = 0 := by unfold plnT; omega
    rw [e, dbl0]; exact w1
theorem stl_w {mn : Mn} {z : Nat} {s : Sp} (hz : 2 ≤ z) (w0 : 1 ≤ s.w) (w1 : s.w ≤ 2 ^ z) : (stl mn z s).s.w ≤ 2 ^ z := by
  have pl := plain_wle w0 w1
  have pw := plain_w (s := s) hz w0
  cases mn with
  | plain => exact pl
  | late =>
    show s.w * 2 ^ tms s.w (z - 1) ≤ 2 ^ z
    cases e : tms s.w (z - 1) with
    | zero => simpa using w1
    | succ t =>
      have := tms_lo (w := s.w) (e := z - 1) (t := t) (by omega)
      have ez : 2 ^ z = 2 ^ (z - 1) * 2 := by rw [← Nat.pow_succ]; congr 1; omega
      rw [Nat.pow_succ, ← Nat.mul_assoc, ez]; omega
  | pending =>
    show s.w * 2 ^ pendT s z ≤ 2 ^ z
    unfold pendT
    rw [Nat.pow_add, ← Nat.mul_assoc]
    have pl' : s.w * 2 ^ plnT s z ≤ 2 ^ z := pl
    have pw' : 2 ≤ (s.dbl (plnT s z)).w := pw
    cases e : tms (mxs (s.dbl (plnT s z))) (z - 2) with
    | zero => simpa using pl'
    | succ t =>
      have := tms_lo (w := mxs (s.dbl (plnT s z))) (e := z - 2) (t := t) (by omega)
      have lr := lf_rt pw'
      have le : s.w * 2 ^ plnT s z ≤ 2 * mxs (s.dbl (plnT s z)) := by
        show (s.dbl (plnT s z)).w ≤ _
        unfold mxs; omega
      have ez : 2 ^ z = 2 ^ (z - 2) * 4 := by rw [show (4 : Nat) = 2 ^ 2 from rfl, ← Nat.pow_add]; congr 1; omega
      have := Nat.mul_le_mul_right (2 ^ (t + 1)) le
      rw [Nat.pow_succ, ez] at *
      rw [show 2 * mxs (s.dbl (plnT s z)) * (2 ^ t * 2) = mxs (s.dbl (plnT s z)) * 2 ^ t * 4 by rw [show (4 : Nat) = 2 * 2 from rfl]; ac_rfl] at this
      omega
  | cut =>
    unfold stl
    simp only [if_true]
    have pl' : (s.dbl (timesT .cut s z)).w ≤ 2 ^ z := pl
    have pw' : 2 ≤ (s.dbl (timesT .cut s z)).w := pw
    generalize s.dbl (timesT .cut s z) = f at *
    rcases cut_cases (s := f) (z := z) hz pw' with ⟨ec, hw⟩ | ⟨k, x, ec, hw, kd, xd, k0, x0, kx, _⟩
    · rw [ec]; exact plain_wle (s := f) (by omega) pl'
    · rw [ec]; exact plain_wle (s := k) k0 (by omega)
end BM
set_option exponentiation.threshold 256
namespace BM
open PySem DL M17 DP
structure St where
  c : Nat
  l : Nat
  r : Nat
deriving DecidableEq
def St.i (s : St) : List Int := [(s.c : Int), (s.l : Int), (s.r : Int)]
def St.k (s : St) : List L2.Key := s.i.map Sum.inl
structure St.ok (r : Rig) (s : St) : Prop where
  c0 : s.c < r.cs.length
  l0 : 1 ≤ s.l
  r0 : 1 ≤ s.r
  w0 : s.l + s.r ≤ 2 ^ r.z
/-- behind the cells from b on, c of them, of a state -/
def nxS (r : Rig) (s : St) (b c : Nat) : Stl := stl r.mn r.z ⟨2 ^ r.z - s.l + b, c, r.z + 1⟩
def sb (r : Rig) (es : List Ent) (s : St) (k : Nat) : Nat := pb r.fine es (s.l + s.r) k
def se (r : Rig) (es : List Ent) (s : St) (k : Nat) : Nat := pe r.fine es (s.l + s.r) k
def tgtS (r : Rig) (es : List Ent) (s : St) (k g : Nat) : St := ⟨g, (nxS r s (sb r es s k) (se r es s k - sb r es s k)).s.lf, (nxS r s (sb r es s k) (se r es s k - sb r es s k)).s.rt⟩
def targ (r : Rig) (es : List Ent) (s : St) (k : Nat) : Option St :=
  if sb r es s k = se r es s k then none else (es[k]?.bind (·.g)).map (tgtS r es s k)
def nexts (r : Rig) (s : St) : List St := match r.cs[s.c]? with
  | some es => (List.range es.length).filterMap (targ r es s)
  | none => []
theorem nexts_len {r : Rig} (rok : r.ok) (s : St) : (nexts r s).length ≤ 4 := by
  unfold nexts
  cases h : r.cs[s.c]? with
  | none => simp
  | some es =>
    have := (rok.con h).l1
    have := List.length_filterMap_le (targ r es s) (List.range es.length)
    simp only [List.length_range] at this
    show (List.filterMap _ _).length ≤ 4
    omega
theorem part_shf {r : Rig} {s : St} {es : List Ent} {m : Nat} (z0 : 2 ≤ r.z) (so : s.ok r) (co : conOk m es) {k : Nat} (ne : sb r es s k ≠ se r es s k) (M d : Nat) (hM : ∃ q, M = 2 ^ r.z + q * 2 ^ r.z) :
    Shf r.z ⟨2 ^ r.z - s.l + sb r es s k, se r es s k - sb r es s k, r.z + 1⟩ ⟨M - s.l + sb r es s k, se r es s k - sb r es s k, d⟩ := by
  obtain ⟨q, hq⟩ := hM
  have T := (con_pos co).1
  have a : sb r es s k ≤ se r es s k := pb_le_pe T
  have b : se r es s k ≤ s.l + s.r := pe_le T
  have w := so.w0
  have l := so.l0
  have rr := so.r0
  refine ⟨⟨q, ?_⟩, rfl, by show 1 ≤ se r es s k - sb r es s k; omega, by show se r es s k - sb r es s k ≤ _; omega⟩
  show M - s.l + sb r es s k = 2 ^ r.z - s.l + sb r es s k + q * 2 ^ r.z
  omega
theorem targ_ok {r : Rig} (rok : r.ok) {s t : St} (so : s.ok r) {es : List Ent} (he : r.cs[s.c]? = some es) {k : Nat} (h : targ r es s k = some t) : t.ok r := by
  unfold targ at h
  split at h
  · cases h
  · rename_i ne
    obtain ⟨g, hg, rfl⟩ := Option.map_eq_some_iff.mp h
    obtain ⟨e, hk, hg⟩ := Option.bind_eq_some_iff.mp hg
    have co := rok.con he
    have eo := co.ok e (List.mem_of_getElem? hk)
    have sh := part_shf rok.z0 so co ne (2 ^ r.z) (r.z + 1) ⟨0, by simp⟩
    have ss := settle_settled (mn := r.mn) (s := ⟨2 ^ r.z - s.l + sb r es s k, se r es s k - sb r es s k, r.z + 1⟩) rok.z0 sh.w0
    have sw := stl_w (mn := r.mn) (s := ⟨2 ^ r.z - s.l + sb r es s k, se r es s k - sb r es s k, r.z + 1⟩) rok.z0 sh.w0 sh.w1
    have w2 := ss.w
    exact ⟨eo.g g hg, lf_pos w2, rt_pos w2, by have := lf_rt w2; show (stl _ _ _).s.lf + (stl _ _ _).s.rt ≤ _; omega⟩
theorem nexts_ok {r : Rig} (rok : r.ok) {s : St} (so : s.ok r) : ∀ t ∈ nexts r s, t.ok r := fun t ht => by
  unfold nexts at ht
  cases h : r.cs[s.c]? with
  | none => rw [h] at ht; simp at ht
  | some es =>
    rw [h] at ht
    obtain ⟨k, _, hk⟩ := List.mem_filterMap.mp ht
    exact targ_ok rok so h hk
theorem nodup_lt : ∀ (n : Nat) (l : List Nat), l.Nodup → (∀ x ∈ l, x < n) → l.length ≤ n
  | 0, l, _, h => by
    cases l with
    | nil => simp
    | cons a l => exact absurd (h a List.mem_cons_self) (Nat.not_lt_zero _)
  | n + 1, l, nd, h => by
    by_cases g : n ∈ l
    · have := nodup_lt n (l.erase n) (nd.erase n) fun x hx => by
        have a := (nd.mem_erase_iff).mp hx
        have := h x a.2
        have := a.1
        omega
      rw [List.length_erase_of_mem g] at this
      omega
    · have := nodup_lt n l nd fun x hx => by
        have := h x hx
        have : x ≠ n := fun e => g (by rw [← e]; exact hx)
        omega
      omega
def code (s : St) : Nat := (s.c * 33 + s.l) * 33 + s.r
theorem code_inj {r : Rig} (rok : r.ok) {a b : St} (ha : a.ok r) (hb : b.ok r) (h : code a = code b) : a = b := by
  have p : 2 ^ r.z ≤ 2 ^ 5 := Nat.pow_le_pow_right (by decide) rok.z1
  have := ha.w0; have := hb.w0; have := ha.r0; have := hb.r0; have := ha.l0; have := hb.l0
  unfold code at h
  have e1 : a.c * 33 + a.l = b.c * 33 + b.l := by omega
  have e2 : a.r = b.r := by omega
  have e3 : a.c = b.c := by omega
  cases a; cases b
  simp only [St.mk.injEq] at *
  omega
theorem states_few {r : Rig} (rok : r.ok) {g : List St} (nd : g.Nodup) (h : ∀ s ∈ g, s.ok r) : g.length ≤ 3267 := by
  have p : 2 ^ r.z ≤ 2 ^ 5 := Nat.pow_le_pow_right (by decide) rok.z1
  have := nodup_lt 3267 (g.map code) (by
    unfold List.Nodup
    rw [List.pairwise_map]
    exact nd.imp_of_mem fun ha hb ne e => ne (code_inj rok (h _ ha) (h _ hb) e)) fun x hx => by
    obtain ⟨s, hs, rfl⟩ := List.mem_map.mp hx
    have so := h s hs
    have := so.w0; have := so.c0; have := rok.l1; have := so.l0; have := so.r0
    unfold code; omega
  simpa using this
variable {nx : St → List St}
structure Dinv (r : Rig) (m : Nat) (g w : List St) : Prop where
  nd : g.Nodup
  go : ∀ s ∈ g, s.ok r
  wo : ∀ s ∈ w, s.ok r
  m : (3267 - g.length) * 5 + w.length ≤ m
theorem Dinv.pos {r : Rig} {m : Nat} {g w : List St} {s : St} (d : Dinv r m g (w ++ [s])) : ∃ n, m = n + 1 := ⟨m - 1, by have := d.m; simp at this; omega⟩
theorem Dinv.old {r : Rig} {m : Nat} {g w : List St} {s : St} (d : Dinv r (m + 1) g (w ++ [s])) : Dinv r m g w :=
  ⟨d.nd, d.go, fun t ht => d.wo t (by simp [ht]), by have := d.m; simp at this; omega⟩
theorem Dinv.new {r : Rig} (rok : r.ok) {m : Nat} {g w : List St} {s : St} (d : Dinv r (m + 1) g (w ++ [s])) (h : s ∉ g) : Dinv r m (g ++ [s]) (w ++ nexts r s) := by
  have so := d.wo s (by simp)
  have nd : (g ++ [s]).Nodup := by
    rw [List.nodup_append]
    exact ⟨d.nd, by simp, fun a ha b hb e => h (by simp at hb; rw [← hb, ← e]; exact ha)⟩
  have go : ∀ t ∈ g ++ [s], t.ok r := fun t ht => by
    rcases List.mem_append.mp ht with ht | ht
    · exact d.go t ht
    · simp at ht; subst ht; exact so
  have fw := states_few rok nd go
  refine ⟨nd, go, fun t ht => ?_, ?_⟩
  · rcases List.mem_append.mp ht with ht | ht
    · exact d.wo t (by simp [ht])
    · exact nexts_ok rok so t ht
  · have := d.m
    have := nexts_len rok s
    simp at this fw ⊢
    simp at *
    omega
end BM
set_option exponentiation.threshold 256
namespace BM
open PySem DL M17 DP
/-- the first block of place L behind the beginning -/
def fbN (s : Sp) (L : Nat) : Nat := (s.l + 2 ^ (s.d - L) - 1) / 2 ^ (s.d - L)
def fitB (s : Sp) (L : Nat) : Bool := decide ((fbN s L + 1) * 2 ^ (s.d - L) ≤ s.l + s.w)
def fbL (s : Sp) : Nat := ((List.range (s.d + 1)).find? (fitB s)).getD s.d
def codeN (s : Sp) : Nat := fbN s (fbL s)
def codeL (s : Sp) : List Nat := bs (codeN s) (fbL s)
theorem fit_d {s : Sp} (w0 : 1 ≤ s.w) : fitB s s.d = true := by
  unfold fitB fbN
  simp
  omega
theorem fbL_spec {s : Sp} (w0 : 1 ≤ s.w) : fbL s ≤ s.d ∧ fitB s (fbL s) = true ∧ ∀ j, j < fbL s → fitB s j = false := by
  unfold fbL
  cases h : (List.range (s.d + 1)).find? (fitB s) with
  | none =>
    rw [List.find?_eq_none] at h
    exact absurd (fit_d w0) (h s.d (by simp))
  | some L =>
    rw [List.find?_range_eq_some] at h
    obtain ⟨h1, h2, h3⟩ := h
    refine ⟨by simp at h2; show L ≤ s.d; omega, h1, fun j hj => ?_⟩
    have := h3 j hj
    simpa using this
theorem fb_bd {s : Sp} {L : Nat} : s.l ≤ fbN s L * 2 ^ (s.d - L) ∧ fbN s L * 2 ^ (s.d - L) < s.l + 2 ^ (s.d - L) := by
  unfold fbN
  have p := Nat.two_pow_pos (s.d - L)
  generalize 2 ^ (s.d - L) = B at p
  have a := Nat.div_add_mod (s.l + B - 1) B
  have b := Nat.mod_lt (s.l + B - 1) p
  rw [Nat.mul_comm] at a
  omega
theorem codeL_len {s : Sp} : (codeL s).length = fbL s := bs_len
end BM
set_option maxHeartbeats 4000000
set_option exponentiation.threshold 2000
namespace K
open PySem DL DP BM M17
theorem ne1 : ¬ (Str.ofString "cells" = Str.ofString "turn") := by decide +kernel
theorem ne2 : ¬ (Str.ofString "cells" = Str.ofString "rest") := by decide +kernel
theorem ne3 : ¬ (Str.ofString "turn" = Str.ofString "rest") := by decide +kernel
theorem ne4 : ¬ (Str.ofString "turn" = Str.ofString "cells") := by decide +kernel
theorem ne5 : ¬ (Str.ofString "rest" = Str.ofString "cells") := by decide +kernel
theorem ne6 : ¬ (Str.ofString "rest" = Str.ofString "turn") := by decide +kernel
/-- the feed's dict -/
def fdd (cells : List Int) (t r : Int) : List (L2.Key × D) := [(.inr "cells", .lst (cells.map D.int)), (.inr "turn", .int t), (.inr "rest", .int r)]
@[simp] theorem vd_c {c : List Int} {t r : Int} : valD (fdd c t r) (.inr "cells") = some (.lst (c.map D.int)) := by simp [valD, fdd]
@[simp] theorem vd_t {c : List Int} {t r : Int} : valD (fdd c t r) (.inr "turn") = some (.int t) := by simp [valD, fdd, ne1, ne2, ne3, ne4, ne5, ne6]
@[simp] theorem vd_r {c : List Int} {t r : Int} : valD (fdd c t r) (.inr "rest") = some (.int r) := by simp [valD, fdd, ne1, ne2, ne3, ne4, ne5, ne6]
@[simp] theorem pd_t {c : List Int} {t r u : Int} : putD (fdd c t r) (.inr "turn") (.int u) = fdd c u r := by simp [putD, fdd, ne1, ne2, ne3, ne4, ne5, ne6]
@[simp] theorem pd_r {c : List Int} {t r u : Int} : putD (fdd c t r) (.inr "rest") (.int u) = fdd c t u := by simp [putD, fdd, ne1, ne2, ne3, ne4, ne5, ne6]
theorem fdd_len {c : List Int} {t r : Int} : (fdd c t r).length < sizeLine := by rw [sl24]; simp [fdd]
/-- the feed: at most k turns so far -/
def FH (k : Nat) (h : Hs) : Prop := ∃ (cells : List Int) (t r : Int) (R : Hs), h = .dic (fdd cells t r) :: R ∧ cells.length ≤ 63 ∧ 0 ≤ t ∧ t ≤ k
theorem FH.mono {j k : Nat} {h : Hs} (s : FH j h) (l : j ≤ k) : FH k h := by
  obtain ⟨c, t, r, R, e, hl, a, b⟩ := s
  exact ⟨c, t, r, R, e, hl, a, by omega⟩
/-- the feed a draw later; all else stays -/
structure FHs (k : Nat) (h h' : Hs) : Prop where
  fh : FH k h'
  fr : ∀ i, i ≠ 0 → h'[i]? = h[i]?
instance {k : Nat} {h h' : Hs} : CoeOut (FHs k h h') (FH k h') := ⟨FHs.fh⟩
theorem FHs.mono {j k : Nat} {h h' : Hs} (s : FHs j h h') (l : j ≤ k) : FH k h' := s.fh.mono l
theorem fr0 {o o' : O} {R : Hs} : ∀ i, i ≠ 0 → (o' :: R)[i]? = (o :: R)[i]? := fun i hi => by
  cases i with
  | zero => exact absurd rfl hi
  | succ i => rfl
def spFeed : FnD := fun xs h P _ => match xs with
  | [.fro cs] => ∃ ns : List Int, cs = ns.map D.int ∧ h = [] ∧ ∀ h', FH 0 h' → P (.ref 0) h'
  | _ => False
theorem k_law_feed {F : Fns} : Kp M F m_law_feed 1 spFeed := by
  intro xs h Q Z q0
  match xs, q0 with
  | [.fro cs], ⟨ns, hc, hh, q⟩ =>
    subst hc hh
    simp [m_law_feed, Ss.d, S.d, E.d, Es.d, startD, dSl, Oe.d, dNo, dPart, wSl, fin, lstW]
    refine q _ ⟨ns.take 63, 0, 0, [], ?_, by rw [List.length_take]; omega, by omega, by omega⟩
    have e := cutD_take (xs := ns.map D.int) (k := 63)
    rw [show ((63 : Nat) : Int) = 63 from rfl] at e
    rw [e, ← List.map_take] <;> rfl
def spDraw : FnD := fun xs h P _ => match xs with
  | [.ref 0, .int n] => ∃ k, FH k h ∧ k ≤ 1000000 ∧ 0 < n ∧ n ≤ 18446744073709551616 ∧ ∀ r h', 0 ≤ r → r < n → FHs (k + 1) h h' → P (.int r) h'
  | _ => False
def mE : Ss := (.cons (.set 6 (.bin .mod (.b1 .int (.bin .add (.bin .add (.bin .mul (.bin .mod (.b1 .int (.var 5)) (.int 1000000021)) (.int 50883)) (.bin .mul (.var 3) (.int 7349))) (.int 403))) (.int 2147483587)))
  (.cons (.set 6 (.bin .mod (.b1 .int (.bin .add (.bin .add (.bin .mul (.var 6) (.var 6)) (.bin .mul (.var 3) (.int 104047))) (.int 33))) (.int 2147483497)))
  (.cons (.ret (.bin .mod (.b1 .int (.bin .fdiv (.bin .mod (.b1 .int (.bin .add (.bin .mul (.var 6) (.var 6)) (.bin .mul (.int 1097) (.var 6)))) (.int 2147483399)) (.int 32))) (.var 1)))
  (.nil))))
theorem mE_ok {F : Fns} {n cell t : Int} {h : Hs} {w2 w4 w6 : Option W} {En : DEnds} (h0 : 0 < n) (t0 : 0 ≤ t) (tk : t ≤ 1000000) (q : ∀ r, 0 ≤ r → r < n → En.rt (.int r) h) :
    mE.d M F [some (.d (.ref 0)), some (.d (.int n)), w2, some (.d (.int t)), w4, some (.d (.int cell)), w6] h En := by
  have m0 : ∀ i : Int, 0 ≤ i % n := fun i => Int.emod_nonneg _ (by omega)
  have m1 : ∀ i : Int, i % n < n := fun i => Int.emod_lt_of_pos _ h0
  have e1 := Int.emod_nonneg cell (b := 1000000021) (by decide)
  have e2 := Int.emod_lt_of_pos cell (b := 1000000021) (by decide)
  have c1 : CMulA (cell % 1000000021) 50883 := .inl (.inl ⟨by omega, by omega⟩)
  have c2 : CMulA t 7349 := .inl (.inl ⟨by omega, by omega⟩)
  have c3 : CMulA t 104047 := .inl (.inl ⟨by omega, by omega⟩)
  have c4 : ∀ m : Int, 0 ≤ m → m < 4294967296 → CMulA m m := fun m a b => .inl (.inl ⟨by omega, by omega⟩)
  have c5 : ∀ m : Int, CMulA 1097 m := fun m => .inl (.inl ⟨by decide, by decide⟩)
  have dv : ∀ i : Int, CDivA i 32 := fun i => .inl ⟨by decide, by decide⟩
  simp [mE, Ss.d, S.d, E.d, wBin, wInt, wB1, wIntc, c1, c2, c3, c5, dv, h0]
  generalize hm : (cell % 1000000021 * 50883 + t * 7349 + 403) % 2147483587 = m
  have hm0 : 0 ≤ m := by rw [← hm]; exact Int.emod_nonneg _ (by decide)
  have hm1 : m < 2147483587 := by rw [← hm]; exact Int.emod_lt_of_pos _ (by decide)
  refine ⟨c4 m hm0 (by omega), ?_⟩
  generalize hu : (m * m + t * 104047 + 33) % 2147483497 = u
  have hu0 : 0 ≤ u := by rw [← hu]; exact Int.emod_nonneg _ (by decide)
  have hu1 : u < 2147483497 := by rw [← hu]; exact Int.emod_lt_of_pos _ (by decide)
  exact ⟨c4 u hu0 (by omega), q _ (m0 _) (m1 _)⟩
def mD : Ss := (.cons (.ite (.and (.cmp .lt (.var 3) (.b1 .len (.var 4))) (.cmp .ge (.var 5) (.bin .pow (.int 10) (.int 18)))) (.cons (.dput (.var 0) (.str "rest") (.bin .fdiv (.var 5) (.var 1)))
  (.cons (.ret (.bin .mod (.b1 .int (.var 5)) (.var 1)))
  (.nil))) (.nil)) mE)
theorem mD_ok {F : Fns} {R : Hs} {n cell t r : Int} {cells : List Int} {w2 w6 : Option W} {En : DEnds} (h0 : 0 < n) (h1 : n ≤ 18446744073709551616) (t0 : 0 ≤ t) (tk : t ≤ 1000000) (q : ∀ x r', 0 ≤ x → x < n → En.rt (.int x) (.dic (fdd cells (t + 1) r') :: R)) :
    mD.d M F [some (.d (.ref 0)), some (.d (.int n)), w2, some (.d (.int t)), some (.d (.lst (cells.map D.int))), some (.d (.int cell)), w6] (.dic (fdd cells (t + 1) r) :: R) En := by
  have m0 : ∀ i : Int, 0 ≤ i % n := fun i => Int.emod_nonneg _ (by omega)
  have m1 : ∀ i : Int, i % n < n := fun i => Int.emod_lt_of_pos _ h0
  have dv : ∀ i : Int, CDivA i n := fun i => .inr ⟨h0, by
    have := (Nat.log2_lt (n := n.natAbs) (k := 65) (by omega)).mpr (by omega)
    omega⟩
  have pw : L2.CPow 10 18 := ⟨by decide, by decide, by decide⟩
  have me := mE_ok (F := F) (n := n) (cell := cell) (t := t) (h := (.dic (fdd cells (t + 1) r) :: R)) (w2 := w2) (w4 := some (.d (.lst (cells.map D.int)))) (w6 := w6) (En := En) h0 t0 tk (fun x a b => q x _ a b)
  unfold mD
  generalize mE = me' at me ⊢
  simp [Ss.d, S.d, E.d, E.t, dDput, wBin, wInt, wB1, wIntc, wCmp, wLt, pw, dv, h0, wLen, seqW, lstW, tupW, fdd_len]
  split
  · split
    · exact q _ _ (m0 _) (m1 _)
    · exact me
  · exact me
def mC : Ss := (.cons (.set 5 (.ite (.cmp .ne (.var 4) (.lst (.nil))) (.ix (.var 4) (.bin .mod (.b1 .int (.var 3)) (.b1 .len (.var 4)))) (.int 5235))) mD)
theorem mC_ok {F : Fns} {R : Hs} {n t r : Int} {cells : List Int} {w2 w5 w6 : Option W} {En : DEnds} (h0 : 0 < n) (h1 : n ≤ 18446744073709551616) (t0 : 0 ≤ t) (tk : t ≤ 1000000) (q : ∀ x r', 0 ≤ x → x < n → En.rt (.int x) (.dic (fdd cells (t + 1) r') :: R)) :
    mC.d M F [some (.d (.ref 0)), some (.d (.int n)), w2, some (.d (.int t)), some (.d (.lst (cells.map D.int))), w5, w6] (.dic (fdd cells (t + 1) r) :: R) En := by
  have md := fun cell => mD_ok (F := F) (R := R) (n := n) (cell := cell) (t := t) (r := r) (cells := cells) (w2 := w2) (w6 := w6) (En := En) h0 h1 t0 tk q
  unfold mC
  generalize mD = md' at md ⊢
  simp [Ss.d, S.d, E.d, E.t, Es.d, -List.map_map]
  refine ne_nilI ?_
  cases cells with
  | nil => simpa using md 5235
  | cons x l =>
    have hp : (0 : Int) < ((x :: l).length : Int) := by simp
    have e0 := Int.emod_nonneg t (b := ((x :: l).length : Int)) (by omega)
    have e1 := Int.emod_lt_of_pos t hp
    refine .inr ⟨by simp, ?_⟩
    refine ⟨hp, ?_⟩
    have ea : L2.atI (List.map D.int (x :: l)) (t % ((x :: l).length : Int)) = some (.int ((x :: l)[(t % ((x :: l).length : Int)).toNat]'(by omega))) := by
      rw [atI_of e0 (by rw [List.length_map]; exact e1), List.getElem_map]
    show wIx _ _ _
    rw [ix_lst]
    exact ⟨_, ea, _, rfl, md _⟩
theorem k_law_draw {F : Fns} : Kp M F m_law_draw 7 spDraw := by
  intro xs h Q Z q0
  match xs, q0 with
  | [.ref 0, .int n], ⟨k, ⟨cells, t, r, R, he, hl, t0, tk⟩, hk, h0, h1, q⟩ =>
    subst he
    have m0 : ∀ i : Int, 0 ≤ i % n := fun i => Int.emod_nonneg _ (by omega)
    have m1 : ∀ i : Int, i % n < n := fun i => Int.emod_lt_of_pos _ h0
    have dv : ∀ i : Int, CDivA i n := fun i => .inr ⟨h0, by
      have := (Nat.log2_lt (n := n.natAbs) (k := 65) (by omega)).mpr (by omega)
      omega⟩
    have hmm : m_law_draw = .cons (.ite (.cmp .gt (.dget (.var 0) (.str "rest")) (.int 0)) (.cons (.set 2 (.bin .mod (.b1 .int (.dget (.var 0) (.str "rest"))) (.var 1)))
      (.cons (.dput (.var 0) (.str "rest") (.bin .fdiv (.dget (.var 0) (.str "rest")) (.var 1))) (.cons (.ret (.var 2)) (.nil)))) (.nil))
      (.cons (.set 3 (.dget (.var 0) (.str "turn"))) (.cons (.dput (.var 0) (.str "turn") (.bin .add (.var 3) (.int 1))) (.cons (.set 4 (.dget (.var 0) (.str "cells"))) mC))) := rfl
    rw [hmm]
    have mc := mC_ok (F := F) (R := R) (n := n) (t := t) (r := r) (cells := cells) (w2 := none) (w5 := none) (w6 := none) (En := fin Q Z) h0 h1 t0 (by omega) (fun x r' a b => q x _ a b ⟨⟨cells, t + 1, r', R, rfl, hl, by omega, by omega⟩, fr0⟩)
    generalize mC = mc' at mc ⊢
    simp [Ss.d, S.d, E.d, E.t, startD, List.replicate_succ, dDput, wBin, wInt, wCmp, wLt, wB1, wIntc, dv, h0, fdd_len]
    split
    · exact q _ _ (m0 _) (m1 _) ⟨⟨cells, t, r / n, R, rfl, hl, t0, by omega⟩, fr0⟩
    · exact mc
/-- one of the rows -/
def spAny : FnD := fun xs h P _ => match xs with
  | [.ref 0, .lst rows] => ∃ k, FH k h ∧ k ≤ 1000000 ∧ 0 < rows.length ∧ rows.length ≤ 1000 ∧ ∀ r h', r ∈ rows → FH (k + 1) h' → P r h'
  | _ => False
theorem k_law_any {F : Fns} (f5 : F.f 20 = spDraw) : Kp M F m_law_any 2 spAny := by
  intro xs h Q Z q0
  match xs, q0 with
  | [.ref 0, .lst rows], ⟨k, hs, hk, h0, h1, q⟩ =>
    simp [m_law_any, Ss.d, S.d, E.d, Es.d, Es.len, startD, fin, f5, spDraw, wB1, wLen, seqW, lstW, tupW]
    refine ⟨k, hs, hk, by omega, by omega, fun r h' r0 r1 hs' => ?_⟩
    have ea := atI_of (xs := rows) r0 r1
    first | exact ⟨_, ea, q _ _ (List.getElem_mem _) hs'⟩ | exact ⟨_, ea, _, rfl, q _ _ (List.getElem_mem _) hs'⟩
end K
set_option maxHeartbeats 4000000
set_option exponentiation.threshold 2000
namespace K
open PySem DL DP BM M17
def rows0 : List D := [.lst [.lst [.tup [.int 1, .int 0], .tup [.int 1, .int (-1)]]], .lst [.lst [.tup [.int 2, .int 0], .tup [.int 1, .int 0], .tup [.int 1, .int (-1)]]], .lst [.lst [.tup [.int 9, .int 0], .tup [.int 1, .int (-1)]]], .lst [.lst [.tup [.int 1, .int 0], .tup [.int 9, .int 0]]], .lst [.lst [.tup [.int 2, .int 0], .tup [.int 1, .int 0]]], .lst [.lst [.tup [.int 1, .int 0], .tup [.int 2, .int 0], .tup [.int 1, .int 0]]], .lst [.lst [.tup [.int 1, .int 0], .tup [.int 2, .int 0], .tup [.int 1, .int (-1)]]], .lst [.lst [.tup [.int 2, .int 0], .tup [.int 1, .int (-1)]]], .lst [.lst [.tup [.int 1, .int (-1)], .tup [.int 2, .int 0]]], .lst [.lst [.tup [.int 1, .int 1], .tup [.int 1, .int 0]], .lst [.tup [.int 1, .int 0], .tup [.int 1, .int 1]]], .lst [.lst [.tup [.int 1, .int 0], .tup [.int 1, .int 1]], .lst [.tup [.int 1, .int 0], .tup [.int 1, .int 1]]], .lst [.lst [.tup [.int 3, .int 0], .tup [.int 2, .int 0], .tup [.int 3, .int 0]]], .lst [.lst [.tup [.int 1, .int (-1)], .tup [.int 1, .int 1]], .lst [.tup [.int 1, .int 1], .tup [.int 9, .int 1]]], .lst [.lst [.tup [.int 1, .int 1], .tup [.int 1, .int (-1)]], .lst [.tup [.int 1, .int (-1)], .tup [.int 9, .int 0]]], .lst [.lst [.tup [.int 3, .int 0], .tup [.int 2, .int (-1)], .tup [.int 3, .int 0]]], .lst [.lst [.tup [.int 3, .int 1], .tup [.int 1, .int (-1)]], .lst [.tup [.int 1, .int (-1)], .tup [.int 1, .int (-1)], .tup [.int 1, .int (-1)]]], .lst [.lst [.tup [.int 2, .int (-1)], .tup [.int 1, .int (-1)]]], .lst [.lst [.tup [.int 1, .int 0], .tup [.int 9, .int (-1)], .tup [.int 1, .int 0]]]]
def pairB (m : Nat) : D → Bool
  | .tup [.int c, .int g] => decide (1 ≤ c) && (decide (c ≤ 12) && (decide (-1 ≤ g) && decide (g < m)))
  | _ => false
def conB (m : Nat) : D → Bool
  | .lst es => decide (2 ≤ es.length) && (decide (es.length ≤ 4) && es.all (pairB m))
  | _ => false
def rowB : D → Bool
  | .lst rs => decide (0 < rs.length) && (decide (rs.length ≤ 3) && rs.all (conB rs.length))
  | _ => false
theorem rows0_ok : ∀ r ∈ rows0, rowB r = true := by decide +kernel
theorem pair_inv {m : Nat} {x : D} (h : pairB m x = true) : ∃ (c : Nat) (g : Int), x = .tup [.int c, .int g] ∧ 1 ≤ c ∧ c ≤ 12 ∧ -1 ≤ g ∧ g < m := by
  unfold pairB at h
  split at h
  · rename_i c g
    simp at h
    obtain ⟨c, rfl⟩ := Int.eq_ofNat_of_zero_le (show 0 ≤ c by omega)
    exact ⟨c, g, rfl, by omega, by omega, h.2.2.1, h.2.2.2⟩
  · cases h
theorem con_inv {m : Nat} {x : D} (h : conB m x = true) : ∃ es, x = .lst es ∧ 2 ≤ es.length ∧ es.length ≤ 4 ∧ ∀ e ∈ es, pairB m e = true := by
  cases x <;> first | (simp [conB] at h; done) | skip
  rename_i es
  simp only [conB, Bool.and_eq_true, decide_eq_true_eq, List.all_eq_true] at h
  exact ⟨es, rfl, h.1, h.2.1, h.2.2⟩
theorem row_inv {x : D} (h : rowB x = true) : ∃ rs, x = .lst rs ∧ 0 < rs.length ∧ rs.length ≤ 3 ∧ ∀ e ∈ rs, conB rs.length e = true := by
  cases x <;> first | (simp [rowB] at h; done) | skip
  rename_i es
  simp only [rowB, Bool.and_eq_true, decide_eq_true_eq, List.all_eq_true] at h
  exact ⟨es, rfl, h.1, h.2.1, h.2.2⟩
def spShape : FnD := fun xs h P _ => match xs with
  | [.ref 0] => ∃ k, FH k h ∧ k ≤ 1000000 ∧ ∀ r h', rowB r = true → FH (k + 1) h' → P r h'
  | _ => False
theorem k_law_shape {F : Fns} (f6 : F.f 21 = spAny) : Kp M F m_law_shape 1 spShape := by
  intro xs h Q Z q0
  match xs, q0 with
  | [.ref 0], ⟨k, hs, hk, q⟩ =>
    have hmm : ∃ a, m_law_shape = .cons (.ret (.call 21 (.cons (.var 0) (.cons a (.nil))))) (.nil) ∧ ∀ ds h P Z, P (.new rows0) h → a.d F ds h P Z := by
      refine ⟨_, rfl, fun ds h P Z p => ?_⟩
      simp (config := { maxSteps := 2000000 }) [E.d, Es.d, wNeg, sl24]
      exact p
    obtain ⟨a, hm, ha⟩ := hmm
    rw [hm]
    simp [Ss.d, S.d, E.d, Es.d, Es.len, startD, fin, f6, spAny]
    refine ha _ _ _ _ ⟨_, rfl, k, hs, hk, by decide, by decide, fun r h' hr hs' => q r h' (rows0_ok r hr) hs'⟩
def mIn : Ss := (.cons (.set 10 (.bin .add (.int 1) (.call 20 (.cons (.var 0) (.cons (.ite (.cmp .eq (.var 8) (.int 0)) (.var 3) (.int 3)) (.nil))))))
  (.cons (.app 7 (.tup (.cons (.var 10) (.cons (.ite (.cmp .eq (.call 20 (.cons (.var 0) (.cons (.int 4) (.nil)))) (.int 0)) (.neg (.int 1)) (.call 20 (.cons (.var 0) (.cons (.var 5) (.nil))))) (.nil)))))
  (.nil)))
theorem in_turn {F : Fns} (f5 : F.f 20 = spDraw) {a b c rare many : Int} {mn : Nat} {w4 w6 w9 w10 : Option W} {row : List D} {k : Nat} {h : Hs} {En : DEnds} (hmn : many = mn) (c0 : 1 ≤ c) (c1 : c ≤ 12) (m0 : 1 ≤ many) (m1 : many ≤ 10) (hl : row.length < 10) (hs : FH k h) (hk : k + 3 ≤ 1000000)
    (q : ∀ e h' w10, pairB mn e = true → FH (k + 3) h' → En.nx [some (.d (.ref 0)), some (.d (.int a)), some (.d (.int b)), some (.d (.int c)), w4, some (.d (.int many)), w6, some (.own (row ++ [e])), some (.d (.int rare)), w9, w10] h') :
    mIn.d M F [some (.d (.ref 0)), some (.d (.int a)), some (.d (.int b)), some (.d (.int c)), w4, some (.d (.int many)), w6, some (.own row), some (.d (.int rare)), w9, w10] h En := by
  have hl' : row.length < 16777216 := by omega
  simp [mIn, Ss.d, S.d, E.d, E.t, Es.d, Es.len, f5, spDraw, wCmp, wEq, dApp, wBin, wInt, hl', sl24, wNeg]
  have one : ∀ n : Int, 1 ≤ n → n ≤ 12 → ∃ k, FH k h ∧ k ≤ 1000000 ∧ 0 < n ∧ n ≤ 18446744073709551616 ∧ ∀ (r : Int) (h' : Hs), 0 ≤ r → r < n → FHs (k + 1) h h' → (∃ k, FH k h' ∧ k ≤ 1000000 ∧ ∀ (r_1 : Int) (h'_1 : Hs), 0 ≤ r_1 → r_1 < 4 → FHs (k + 1) h' h'_1 → if r_1 = 0 then En.nx [some (.d (.ref 0)), some (.d (.int a)), some (.d (.int b)), some (.d (.int c)), w4, some (.d (.int many)), w6, some (.own (row ++ [.tup [.int (1 + r), .int (-1)]])), some (.d (.int rare)), w9, some (.d (.int (1 + r)))] h'_1 else
      ∃ k, FH k h'_1 ∧ k ≤ 1000000 ∧ 0 < many ∧ many ≤ 18446744073709551616 ∧ ∀ (r_2 : Int) (h'_2 : Hs), 0 ≤ r_2 → r_2 < many → FHs (k + 1) h'_1 h'_2 → En.nx [some (.d (.ref 0)), some (.d (.int a)), some (.d (.int b)), some (.d (.int c)), w4, some (.d (.int many)), w6, some (.own (row ++ [.tup [.int (1 + r), .int r_2]])), some (.d (.int rare)), w9, some (.d (.int (1 + r)))] h'_2) := by
    intro n n0 n1
    refine ⟨k, hs, by omega, by omega, by omega, fun r h1 r0 r1 s1 => ⟨k + 1, s1, by omega, fun r2 h2 r20 r21 s2 => ?_⟩⟩
    have pb : ∀ g : Int, -1 ≤ g → g < mn → pairB mn (.tup [.int (1 + r), .int g]) = true := fun g _ _ => by simp [pairB]; omega
    split
    · exact q _ _ _ (pb _ (by omega) (by omega)) (s2.mono (by omega))
    · exact ⟨k + 2, s2, by omega, by omega, by omega, fun r3 h3 _ _ s3 => q _ _ _ (pb _ (by omega) (by omega)) (s3.mono (by omega))⟩
  split
  · exact one c c0 c1
  · obtain ⟨k, a1, a2, _, _, a5⟩ := one 3 (by decide) (by decide)
    exact ⟨k, a1, a2, a5⟩
def mOut : Ss := (.cons (.par2 true 7 (.lst (.nil)) false 8 (.call 20 (.cons (.var 0) (.cons (.int 3) (.nil)))))
  (.cons (.for_ (.nm 9) (.r1 (.bin .add (.int 2) (.call 20 (.cons (.var 0) (.cons (.bin .sub (.var 2) (.int 1)) (.nil)))))) mIn)
  (.cons (.frz 7 (.app 4 (.var 7)))
  (.nil))))
theorem out_turn {F : Fns} (f5 : F.f 20 = spDraw) {a b c many : Int} {mn : Nat} {w6 w7 w8 w9 w10 : Option W} {found : List D} {k : Nat} {h : Hs} {En : DEnds} (hmn : many = mn) (b0 : 2 ≤ b) (b1 : b ≤ 4) (c0 : 1 ≤ c) (c1 : c ≤ 12) (m0 : 1 ≤ many) (m1 : many ≤ 10) (hl : found.length < 10) (hs : FH k h) (hk : k + 20 ≤ 1000000)
    (q : ∀ e h' w7 w8 w9 w10, conB mn e = true → FH (k + 14) h' → En.nx [some (.d (.ref 0)), some (.d (.int a)), some (.d (.int b)), some (.d (.int c)), some (.own (found ++ [e])), some (.d (.int many)), w6, w7, w8, w9, w10] h') :
    mOut.d M F [some (.d (.ref 0)), some (.d (.int a)), some (.d (.int b)), some (.d (.int c)), some (.own found), some (.d (.int many)), w6, w7, w8, w9, w10] h En := by
  have it := fun (En : DEnds) rare w4 w6 w9 w10 row k h => in_turn (F := F) f5 (a := a) (b := b) (c := c) (many := many) (rare := rare) (w4 := w4) (w6 := w6) (w9 := w9) (w10 := w10) (row := row) (k := k) (h := h) (En := En) hmn c0 c1 m0 m1
  unfold mOut
  generalize mIn = mi at it ⊢
  have hl' : found.length < 16777216 := by omega
  simp [Ss.d, S.d, E.d, Es.d, Es.len, f5, spDraw, dPar2, stW, Ic.d, dItR1, sl24, wBin, wInt]
  refine ⟨k, hs, by omega, fun rare h1 _ _ s1 => ⟨k + 1, s1, by omega, by omega, by omega, fun r h2 r0 r1 s2 => ⟨by omega, by omega, ?_⟩⟩⟩
  refine for_inv (fun i ds h' => i ≤ (2 + r).toNat ∧ ∃ row w9 w10, ds = [some (.d (.ref 0)), some (.d (.int a)), some (.d (.int b)), some (.d (.int c)), some (.own found), some (.d (.int many)), w6, some (.own row), some (.d (.int rare)), w9, w10] ∧ row.length = i ∧ (∀ e ∈ row, pairB mn e = true) ∧ FH (k + 2 + 3 * i) h') (rngD 0 (2 + r).toNat) ?_ ?_ ?_
  · rintro i u ds h' En' hu ⟨hi, row, w9, w10, rfl, rl, rp, s3⟩ hrt hex hbk hnx hct
    obtain ⟨rfl, hin⟩ := rng_get hu
    simp
    refine it _ _ _ _ _ _ row (k + 2 + 3 * i) h' (by omega) s3 (by omega) fun e h3 w10 he s4 => hnx _ _ ⟨by omega, row ++ [e], _, w10, rfl, by simp [rl], fun x hx => ?_, s4.mono (by omega)⟩
    rcases List.mem_append.mp hx with hx | hx
    · exact rp x hx
    · simp at hx; subst hx; exact he
  · exact ⟨by omega, [], _, _, rfl, rfl, by simp, s2.mono (by omega)⟩
  · rintro ds h' ⟨hi, row, w9, w10, rfl, rl, rp, s3⟩
    simp at rl s3
    simp [dFrz, dApp, E.d, hl', sl24]
    refine q _ _ _ _ _ _ ?_ (s3.mono (by omega))
    simp only [conB, Bool.and_eq_true, decide_eq_true_eq, List.all_eq_true]
    exact ⟨by omega, by omega, rp⟩
def spDrawn : FnD := fun xs h P _ => match xs with
  | [.ref 0, .int a, .int b, .int c] => ∃ k, FH k h ∧ k ≤ 950000 ∧ 1 ≤ a ∧ a ≤ 3 ∧ 2 ≤ b ∧ b ≤ 4 ∧ 1 ≤ c ∧ c ≤ 12 ∧ ∀ r h', rowB r = true → FH (k + 43) h' → P r h'
  | _ => False
theorem k_law_drawn {F : Fns} (f5 : F.f 20 = spDraw) : Kp M F m_law_drawn 11 spDrawn := by
  intro xs h Q Z q0
  match xs, q0 with
  | [.ref 0, .int a, .int b, .int c], ⟨k, hs, hk, a0, a1, b0, b1, c0, c1, q⟩ =>
    have hm : m_law_drawn = .cons (.par2 true 4 (.lst (.nil)) false 5 (.bin .add (.int 1) (.call 20 (.cons (.var 0) (.cons (.var 1) (.nil)))))) (.cons (.for_ (.nm 6) (.r1 (.var 5)) mOut) (.cons (.frz 4 (.ret (.var 4))) (.nil))) := rfl
    rw [hm]
    have ot := fun (En : DEnds) many mn w6 w7 w8 w9 w10 found k h hmn => out_turn (F := F) f5 (a := a) (b := b) (c := c) (many := many) (mn := mn) (w6 := w6) (w7 := w7) (w8 := w8) (w9 := w9) (w10 := w10) (found := found) (k := k) (h := h) (En := En) hmn b0 b1 c0 c1
    generalize mOut = mo at ot ⊢
    simp [Ss.d, S.d, E.d, Es.d, Es.len, startD, List.replicate_succ, f5, spDraw, dPar2, stW, Ic.d, dItR1, sl24, wBin, wInt]
    refine ⟨k, hs, by omega, by omega, by omega, fun r h1 r0 r1 s1 => ⟨by omega, by omega, ?_⟩⟩
    obtain ⟨mn, hmn⟩ : ∃ mn : Nat, 1 + r = mn := Int.eq_ofNat_of_zero_le (by omega)
    refine for_inv (fun i ds h' => i ≤ (1 + r).toNat ∧ ∃ found w6 w7 w8 w9 w10, ds = [some (.d (.ref 0)), some (.d (.int a)), some (.d (.int b)), some (.d (.int c)), some (.own found), some (.d (.int (1 + r))), w6, w7, w8, w9, w10] ∧ found.length = i ∧ (∀ e ∈ found, conB mn e = true) ∧ FH (k + 1 + 14 * i) h') (rngD 0 (1 + r).toNat) ?_ ?_ ?_
    · rintro i u ds h' En' hu ⟨hi, found, w6, w7, w8, w9, w10, rfl, rl, rp, s3⟩ hrt hex hbk hnx hct
      obtain ⟨rfl, hin⟩ := rng_get hu
      simp
      refine ot _ _ mn _ _ _ _ _ found (k + 1 + 14 * i) h' hmn (by omega) (by omega) (by omega) s3 (by omega) fun e h3 w7 w8 w9 w10 he s4 => hnx _ _ ⟨by omega, found ++ [e], _, w7, w8, w9, w10, rfl, by simp [rl], fun x hx => ?_, s4.mono (by omega)⟩
      rcases List.mem_append.mp hx with hx | hx
      · exact rp x hx
      · simp at hx; subst hx; exact he
    · exact ⟨by omega, [], _, _, _, _, _, rfl, rfl, by simp, s1.mono (by omega)⟩
    · rintro ds h' ⟨hi, found, w6, w7, w8, w9, w10, rfl, rl, rp, s3⟩
      simp at rl s3
      simp [dFrz, E.d, fin]
      refine q _ _ ?_ (s3.mono (by omega))
      simp only [rowB, Bool.and_eq_true, decide_eq_true_eq, List.all_eq_true]
      exact ⟨by omega, by omega, by rw [show found.length = mn by omega]; exact rp⟩
def mans : List D := [.str "plain", .str "pending", .str "cut", .str "late"]
theorem mans_inv {x : D} (h : x ∈ mans) : ∃ m : Mn, x = .str m.s := by
  simp [mans] at h
  rcases h with rfl | rfl | rfl | rfl
  · exact ⟨.plain, rfl⟩
  · exact ⟨.pending, rfl⟩
  · exact ⟨.cut, rfl⟩
  · exact ⟨.late, rfl⟩
def mSg : Ss := (.cons (.asg (.tp (.cons (.nm 15) (.cons (.nm 16) (.nil)))) (.ix (.var 11) (.var 14)))
  (.cons (.set 17 (.ix (.var 9) (.bin .mod (.b1 .int (.bin .add (.bin .mul (.var 14) (.bin .add (.int 1) (.bin .fdiv (.var 12) (.int 2)))) (.var 12))) (.int 5))))
  (.cons (.app 13 (.tup (.cons (.var 17) (.cons (.var 15) (.cons (.ite (.cmp .lt (.var 16) (.int 0)) (.non) (.var 16)) (.nil))))))
  (.nil))))
def pixN (turn k : Nat) : Nat := (k * (1 + turn / 2) + turn) % 5
def poolB (s : Str) : Bool := decide (5 ≤ s.cps.size) && (decide (s.cps.size ≤ 10) && (s.cps.toList.all (fun c => decide (97 ≤ c) && decide (c ≤ 122)) && decide (s.cps.toList.Nodup)))
theorem pix_inj : ∀ turn < 4, ∀ k < 5, ∀ j < 5, pixN turn k = pixN turn j → k = j := by decide
def ltr (pool : Str) (turn k : Nat) : Nat := pool.cps.toList.getD (pixN turn k) 0
theorem ltr_get {pool : Str} (hp : poolB pool = true) {turn k : Nat} : pool.cps.toList[pixN turn k]? = some (ltr pool turn k) ∧ 97 ≤ ltr pool turn k ∧ ltr pool turn k ≤ 122 := by
  simp only [poolB, Bool.and_eq_true, decide_eq_true_eq, List.all_eq_true] at hp
  obtain ⟨h5, _, hc, _⟩ := hp
  have hl : pixN turn k < pool.cps.toList.length := by
    have : pixN turn k < 5 := Nat.mod_lt _ (by decide)
    simp; omega
  have e : pool.cps.toList[pixN turn k]? = some (pool.cps.toList[pixN turn k]) := List.getElem?_eq_getElem hl
  have e2 : ltr pool turn k = pool.cps.toList[pixN turn k] := by unfold ltr; rw [List.getD, e] <;> rfl
  rw [e2]
  exact ⟨e, hc _ (List.getElem_mem hl)⟩
theorem ltr_inj {pool : Str} (hp : poolB pool = true) {turn k j : Nat} (ht : turn < 4) (hk : k < 5) (hj : j < 5) (e : ltr pool turn k = ltr pool turn j) : k = j := by
  have a := (ltr_get hp (turn := turn) (k := k)).1
  have b := (ltr_get hp (turn := turn) (k := j)).1
  rw [e] at a
  simp only [poolB, Bool.and_eq_true, decide_eq_true_eq, List.all_eq_true] at hp
  have nd := hp.2.2.2
  obtain ⟨a1, a2⟩ := List.getElem?_eq_some_iff.mp a
  obtain ⟨b1, b2⟩ := List.getElem?_eq_some_iff.mp b
  have ne := List.pairwise_iff_getElem.mp nd
  refine pix_inj turn ht k hk j hj ?_
  rcases Nat.lt_trichotomy (pixN turn k) (pixN turn j) with h | h | h
  · exact absurd (a2.trans b2.symm) (ne _ _ a1 b1 h)
  · exact h
  · exact absurd (b2.trans a2.symm) (ne _ _ b1 a1 h)
/-- the entry of a pair -/
def entOf (pool : Str) (turn k : Nat) : D → Ent
  | .tup [.int c, .int g] => ⟨ltr pool turn k, c.toNat, if g < 0 then none else some g.toNat⟩
  | _ => ⟨0, 0, none⟩
def entsOf (pool : Str) (turn : Nat) (row : List D) (i : Nat) : List Ent := (List.range i).map fun k => entOf pool turn k (row.getD k .non)
theorem entsOf_succ {pool : Str} {turn : Nat} {row : List D} {i : Nat} : entsOf pool turn row (i + 1) = entsOf pool turn row i ++ [entOf pool turn i (row.getD i .non)] := by
  simp [entsOf, List.range_succ]
theorem entOf_ok {pool : Str} {turn k m : Nat} {x : D} (hp : poolB pool = true) (h : pairB m x = true) : (entOf pool turn k x).ok m ∧ (entOf pool turn k x).c = ltr pool turn k := by
  obtain ⟨c, g, rfl, c0, c1, g0, g1⟩ := pair_inv h
  have := (ltr_get hp (turn := turn) (k := k)).2
  refine ⟨⟨this.1, this.2, by show 1 ≤ (c : Int).toNat; omega, by show (c : Int).toNat ≤ 12; omega, fun j hj => ?_⟩, rfl⟩
  replace hj : (if g < 0 then none else some g.toNat) = some j := hj
  split at hj
  · cases hj
  · cases hj; omega
theorem entsOf_ok {pool : Str} {turn m : Nat} {row : List D} (hp : poolB pool = true) (ht : turn < 4) (r0 : 2 ≤ row.length) (r1 : row.length ≤ 4) (hr : ∀ e ∈ row, pairB m e = true) : conOk m (entsOf pool turn row row.length) := by
  have gd : ∀ k, k < row.length → pairB m (row.getD k .non) = true := fun k hk => by
    rw [List.getD, List.getElem?_eq_getElem hk]
    exact hr _ (List.getElem_mem hk)
  refine ⟨by simp [entsOf]; exact r0, by simp [entsOf]; exact r1, fun e he => ?_, ?_⟩
  · simp only [entsOf, List.mem_map, List.mem_range] at he
    obtain ⟨k, hk, rfl⟩ := he
    exact (entOf_ok hp (gd k hk)).1
  · have e : (entsOf pool turn row row.length).map (·.c) = (List.range row.length).map (ltr pool turn) := by
      unfold entsOf
      rw [List.map_map]
      apply List.map_congr_left
      intro k hk
      exact (entOf_ok hp (gd k (List.mem_range.mp hk))).2
    rw [e]
    refine List.pairwise_iff_getElem.mpr fun a b ha hb hab h => ?_
    simp at ha hb h
    have := ltr_inj hp ht (by omega) (by omega) h
    omega
theorem sg_turn {F : Fns} {w0 w1 w2 w3 w4 w5 w6 w7 w8 w10 w15 w16 w17 : Option W} {pool : Str} {row signs : List D} {turn k m : Nat} {h : Hs} {En : DEnds} (hp : poolB pool = true) (hk : k < row.length) (hr : pairB m row[k] = true) (t1 : turn < 4) (hk2 : k ≤ 10) (hl : signs.length < 10)
    (q : ∀ w15 w16 w17, En.nx [w0, w1, w2, w3, w4, w5, w6, w7, w8, some (.d (.str pool)), w10, some (.d (.lst row)), some (.d (.int turn)), some (.own (signs ++ [entD (entOf pool turn k (row.getD k .non))])), some (.d (.int k)), w15, w16, w17] h) :
    mSg.d M F [w0, w1, w2, w3, w4, w5, w6, w7, w8, some (.d (.str pool)), w10, some (.d (.lst row)), some (.d (.int turn)), some (.own signs), some (.d (.int k)), w15, w16, w17] h En := by
  obtain ⟨c, g, e, c0, c1, g0, g1⟩ := pair_inv hr
  have ai := atI_n hk
  rw [e] at ai
  have hl' : signs.length < 16777216 := by omega
  have dv : CDivA (turn : Int) 2 := .inl ⟨by decide, by decide⟩
  have cm : CMulA (k : Int) (1 + turn / 2) := .inl (.inl ⟨by omega, by omega⟩)
  have lg := (ltr_get hp (turn := turn) (k := k)).1
  have hx : ((k : Int) * (1 + turn / 2) + turn) % 5 = (pixN turn k : Nat) := by unfold pixN; push_cast; rfl
  have ap : L2.atI pool.cps.toList (pixN turn k : Nat) = some (ltr pool turn k) := by
    obtain ⟨a1, a2⟩ := List.getElem?_eq_some_iff.mp lg
    rw [atI_n a1, a2]
  have pl : pool.length ≤ 16777216 := by
    simp only [poolB, Bool.and_eq_true, decide_eq_true_eq] at hp
    show pool.cps.size ≤ _; omega
  have eg : row.getD k .non = .tup [.int c, .int g] := by rw [List.getD, List.getElem?_eq_getElem hk]; exact e
  rw [eg] at q
  simp (config := { maxSteps := 4000000 }) [mSg, Ss.d, S.d, E.d, E.t, Es.d, wIx, seqW, lstW, tupW, ai, Tgs.len, wBin, wInt, dv, cm, wB1, wIntc, hx, ap, pl, dApp, hl', sl24, wCmp, wLt]
  split
  · rename_i hg
    have : entD (entOf pool turn k (.tup [.int c, .int g])) = .tup [.str (chS [ltr pool turn k]), .int c, .non] := by simp [entOf, entD, hg, optD]
    rw [this] at q
    exact q _ _ _
  · rename_i hg
    have : entD (entOf pool turn k (.tup [.int c, .int g])) = .tup [.str (chS [ltr pool turn k]), .int c, .int g] := by simp [entOf, entD, hg, optD]; omega
    rw [this] at q
    exact q _ _ _
def mRw : Ss := (.cons (.par2 false 12 (.call 20 (.cons (.var 0) (.cons (.int 4) (.nil)))) true 13 (.lst (.nil)))
  (.cons (.for_ (.nm 14) (.r1 (.b1 .len (.var 11))) mSg)
  (.cons (.app 10 (.b1 .tuple (.var 13)))
  (.nil))))
theorem rw_turn {F : Fns} (f5 : F.f 20 = spDraw) {w1 w2 w3 w4 w5 w6 w7 w8 w12 w13 w14 w15 w16 w17 : Option W} {pool : Str} {row found : List D} {k m : Nat} {h : Hs} {En : DEnds} (hp : poolB pool = true) (r0 : 2 ≤ row.length) (r1 : row.length ≤ 4) (hr : ∀ e ∈ row, pairB m e = true) (hl : found.length < 10) (hs : FH k h) (hk : k ≤ 999999)
    (q : ∀ es h' w12 w13 w14 w15 w16 w17, conOk m es → FH (k + 1) h' → En.nx [some (.d (.ref 0)), w1, w2, w3, w4, w5, w6, w7, w8, some (.d (.str pool)), some (.own (found ++ [conD es])), some (.d (.lst row)), w12, w13, w14, w15, w16, w17] h') :
    mRw.d M F [some (.d (.ref 0)), w1, w2, w3, w4, w5, w6, w7, w8, some (.d (.str pool)), some (.own found), some (.d (.lst row)), w12, w13, w14, w15, w16, w17] h En := by
  have st := fun (En : DEnds) w0 w1 w2 w3 w4 w5 w6 w7 w8 w10 w15 w16 w17 signs turn k m h => sg_turn (F := F) (w0 := w0) (w1 := w1) (w2 := w2) (w3 := w3) (w4 := w4) (w5 := w5) (w6 := w6) (w7 := w7) (w8 := w8) (w10 := w10) (w15 := w15) (w16 := w16) (w17 := w17) (pool := pool) (row := row) (signs := signs) (turn := turn) (k := k) (m := m) (h := h) (En := En) hp
  unfold mRw
  generalize mSg = ms at st ⊢
  have hl' : found.length < 16777216 := by omega
  simp [Ss.d, S.d, E.d, Es.d, Es.len, f5, spDraw, dPar2, stW, Ic.d, dItR1, sl24, wB1, wLen, seqW, lstW, tupW]
  refine ⟨k, hs, by omega, fun turn h1 t0 t1 s1 => ⟨by omega, ?_⟩⟩
  obtain ⟨turn, rfl⟩ := Int.eq_ofNat_of_zero_le t0
  have t2 : turn < 4 := by omega
  refine for_inv (fun i ds h' => h' = h1 ∧ i ≤ row.length ∧ ∃ w14 w15 w16 w17, ds = [some (.d (.ref 0)), w1, w2, w3, w4, w5, w6, w7, w8, some (.d (.str pool)), some (.own found), some (.d (.lst row)), some (.d (.int turn)), some (.own ((entsOf pool turn row i).map entD)), w14, w15, w16, w17]) (rngD 0 row.length) ?_ ?_ ?_
  · rintro i u ds h' En' hu ⟨rfl, hi, w14, w15, w16, w17, rfl⟩ hrt hex hbk hnx hct
    obtain ⟨rfl, hin⟩ := rng_get hu
    simp
    refine st _ _ _ _ _ _ _ _ _ _ _ _ _ _ _ turn i m _ hin (hr _ (List.getElem_mem hin)) t2 (by omega) (by simp [entsOf]; omega) fun w15 w16 w17 => hnx _ _ ⟨rfl, by omega, some (.d (.int (i : Int))), w15, w16, w17, ?_⟩
    rw [entsOf_succ, List.map_append] <;> rfl
  · exact ⟨rfl, by omega, _, _, _, _, rfl⟩
  · rintro ds h' ⟨rfl, hi, w14, w15, w16, w17, rfl⟩
    have eo := entsOf_ok (turn := turn) hp t2 r0 r1 hr
    have el : (entsOf pool turn row row.length).length ≤ 16777216 := by have := eo.l1; omega
    simp [dApp, E.d, hl', sl24, wB1, wTuple, seqW, lstW, tupW, el]
    exact q _ _ _ _ _ _ _ _ eo s1
def mCf : Ss := (.cons (.par2 false 9 (.call 21 (.cons (.var 0) (.cons (.lst (.cons (.str "abcdef") (.cons (.str "zyxwv") (.cons (.str "eabcd") (.cons (.str "pqrst") (.nil)))))) (.nil)))) true 10 (.lst (.nil)))
  (.cons (.for_ (.nm 11) (.l (.var 8)) mRw)
  (.cons (.ret (.tup (.cons (.var 5) (.cons (.b1 .tuple (.var 10)) (.cons (.var 7) (.cons (.var 6) (.nil)))))))
  (.nil))))
theorem cf_ok {F : Fns} (f5 : F.f 20 = spDraw) (f6 : F.f 21 = spAny) {w1 w2 w3 w4 : Option W} {size : Int} {man : D} {div : Str} {shape : D} {k : Nat} {h : Hs} {En : DEnds} (z0 : 2 ≤ size) (z1 : size ≤ 5) (hd : div = "fine" ∨ div = "coarse") (hma : man ∈ mans) (hr : rowB shape = true) (hs : FH k h) (hk : k ≤ 990000)
    (q : ∀ (r : Rig) h', r.ok → (r.z : Int) = size → FH (k + 4) h' → En.rt (rigD r) h') :
    mCf.d M F [some (.d (.ref 0)), w1, w2, w3, w4, some (.d (.int size)), some (.d man), some (.d (.str div)), some (.d shape), none, none, none, none, none, none, none, none, none] h En := by
  obtain ⟨rs, rfl, r0, r1, rp⟩ := row_inv hr
  obtain ⟨mn, rfl⟩ := mans_inv hma
  obtain ⟨size, rfl⟩ := Int.eq_ofNat_of_zero_le (show 0 ≤ size by omega)
  obtain ⟨fine, rfl⟩ : ∃ b, div = divS b := by
    rcases hd with rfl | rfl
    · exact ⟨true, rfl⟩
    · exact ⟨false, rfl⟩
  have rt := fun (En : DEnds) w1 w2 w3 w4 w5 w6 w7 w8 w12 w13 w14 w15 w16 w17 pool row found k m h hp => rw_turn (F := F) f5 (w1 := w1) (w2 := w2) (w3 := w3) (w4 := w4) (w5 := w5) (w6 := w6) (w7 := w7) (w8 := w8) (w12 := w12) (w13 := w13) (w14 := w14) (w15 := w15) (w16 := w16) (w17 := w17) (pool := pool) (row := row) (found := found) (k := k) (m := m) (h := h) (En := En) hp
  unfold mCf
  generalize mRw = mr at rt ⊢
  simp [Ss.d, S.d, E.d, Es.d, Es.len, f6, spAny, dPar2, stW, Ic.d, dItL, sl24]
  refine ⟨k, hs, by omega, fun pool h1 hpl s1 => ?_⟩
  obtain ⟨ps, rfl, hp⟩ : ∃ s, pool = .str s ∧ poolB s = true := by
    rcases hpl with rfl | rfl | rfl | rfl <;> exact ⟨_, rfl, by decide +kernel⟩
  refine for_inv (fun i ds h' => i ≤ rs.length ∧ ∃ (found : List (List Ent)) (w11 w12 w13 w14 w15 w16 w17 : Option W), ds = [some (.d (.ref 0)), w1, w2, w3, w4, some (.d (.int size)), some (.d (.str mn.s)), some (.d (.str (divS fine))), some (.d (.lst rs)), some (.d (.str ps)), some (.own (found.map conD)), w11, w12, w13, w14, w15, w16, w17] ∧ found.length = i ∧ (∀ e ∈ found, conOk rs.length e) ∧ FH (k + 1 + i) h') rs ?_ ?_ ?_
  · rintro i u ds h' En' hu ⟨hi, found, w11, w12, w13, w14, w15, w16, w17, rfl, rl, rp2, s3⟩ hrt hex hbk hnx hct
    have hin : i < rs.length := (List.getElem?_eq_some_iff.mp hu).1
    obtain ⟨row, rfl, b0, b1, b2⟩ := con_inv (rp u (List.mem_of_getElem? hu))
    simp
    refine rt _ _ _ _ _ _ _ _ _ _ _ _ _ _ _ ps row _ (k + 1 + i) rs.length h' hp b0 b1 b2 (by simp; omega) s3 (by omega) fun es h3 w12 w13 w14 w15 w16 w17 he s4 => hnx _ _ ⟨by omega, found ++ [es], some (.d (.lst row)), w12, w13, w14, w15, w16, w17, by rw [List.map_append] <;> rfl, by simp [rl], fun x hx => ?_, s4.mono (by omega)⟩
    rcases List.mem_append.mp hx with hx | hx
    · exact rp2 x hx
    · simp at hx; subst hx; exact he
  · exact ⟨by omega, [], _, _, _, _, _, _, _, rfl, rfl, by simp, s1.mono (by omega)⟩
  · rintro ds h' ⟨hi, found, w11, w12, w13, w14, w15, w16, w17, rfl, rl, rp2, s3⟩
    simp [E.d, Es.d, wB1, wTuple, seqW, lstW, tupW, sl24]
    exact q ⟨size, found, fine, mn⟩ _ ⟨by show 2 ≤ size; omega, by show size ≤ 5; omega, by show 1 ≤ found.length; omega, by show found.length ≤ 3; omega, by show ∀ es ∈ found, conOk found.length es; rw [rl]; exact rp2⟩ rfl (s3.mono (by omega))
def spCoderZ : FnD := fun xs h P _ => match xs with
  | [.ref 0, .lst sizes, .int a, .int b, .int c] => ∃ k, FH k h ∧ k ≤ 900000 ∧ (∀ s ∈ sizes, ∃ i, s = .int i ∧ 2 ≤ i ∧ i ≤ 5) ∧ 0 < sizes.length ∧ sizes.length ≤ 1000 ∧ 1 ≤ a ∧ a ≤ 3 ∧ 2 ≤ b ∧ b ≤ 4 ∧ 1 ≤ c ∧ c ≤ 12 ∧ ∀ (r : Rig) h', r.ok → D.int (r.z : Int) ∈ sizes → FH (k + 60) h' → P (rigD r) h'
  | _ => False
theorem kz_law_coder {F : Fns} (f5 : F.f 20 = spDraw) (f6 : F.f 21 = spAny) (f7 : F.f 22 = spShape) (f8 : F.f 23 = spDrawn) : Kp M F m_law_coder 18 spCoderZ := by
  intro xs h Q Z q0
  match xs, q0 with
  | [.ref 0, .lst sizes, .int a, .int b, .int c], ⟨k, hs, hk, hz, z0, z1, a0, a1, b0, b1, c0, c1, q⟩ =>
    have hm : m_law_coder = .cons (.par2 false 5 (.call 21 (.cons (.var 0) (.cons (.var 1) (.nil)))) false 6 (.call 21 (.cons (.var 0) (.cons (.lst (.cons (.str "plain") (.cons (.str "pending") (.cons (.str "cut") (.cons (.str "late") (.nil)))))) (.nil)))))
      (.cons (.set 7 (.ite (.cmp .eq (.call 20 (.cons (.var 0) (.cons (.int 3) (.nil)))) (.int 0)) (.str "coarse") (.str "fine")))
      (.cons (.set 8 (.call 22 (.cons (.var 0) (.nil))))
      (.cons (.ite (.cmp .eq (.call 20 (.cons (.var 0) (.cons (.int 2) (.nil)))) (.int 0)) (.cons (.set 8 (.call 23 (.cons (.var 0) (.cons (.var 2) (.cons (.var 3) (.cons (.var 4) (.nil))))))) (.nil)) (.nil)) mCf))) := rfl
    rw [hm]
    have cf := fun size man div shape k h => cf_ok (F := F) f5 f6 (w1 := some (.d (.lst sizes))) (w2 := some (.d (.int a))) (w3 := some (.d (.int b))) (w4 := some (.d (.int c))) (size := size) (man := man) (div := div) (shape := shape) (k := k) (h := h) (En := fin Q Z)
    generalize mCf = mc at cf ⊢
    simp [Ss.d, S.d, E.d, E.t, Es.d, Es.len, startD, List.replicate_succ, f5, f6, f7, f8, spDraw, spAny, spShape, spDrawn, dPar2, stW, sl24, wCmp, wEq]
    refine ⟨k, hs, by omega, by simpa [List.length_pos_iff] using z0, z1, fun sz h1 hsz s1 => ⟨k + 1, s1, by omega, fun man h2 hman s2 => ?_⟩⟩
    obtain ⟨size, rfl, y0, y1⟩ := hz sz hsz
    have hma : man ∈ mans := by simpa [mans] using hman
    refine ⟨k + 2, s2, by omega, fun r h3 r0 r1 s3 => ?_⟩
    have go : ∀ div : Str, (div = "fine" ∨ div = "coarse") → ∃ k, FH k h3 ∧ k ≤ 1000000 ∧ ∀ (r : D) (h' : Hs), rowB r = true → FH (k + 1) h' → ∃ k, FH k h' ∧ k ≤ 1000000 ∧ ∀ (r_1 : Int) (h'_1 : Hs), 0 ≤ r_1 → r_1 < 2 → FHs (k + 1) h' h'_1 → if r_1 = 0 then ∃ k, FH k h'_1 ∧ k ≤ 950000 ∧ 1 ≤ a ∧ a ≤ 3 ∧ 2 ≤ b ∧ b ≤ 4 ∧ 1 ≤ c ∧ c ≤ 12 ∧ ∀ (r : D) (h'_2 : Hs), rowB r = true → FH (k + 43) h'_2 →
        mc.d M F [some (.d (.ref 0)), some (.d (.lst sizes)), some (.d (.int a)), some (.d (.int b)), some (.d (.int c)), some (.d (.int size)), some (.d man), some (.d (.str div)), some (.d r), none, none, none, none, none, none, none, none, none] h'_2 (fin Q Z) else mc.d M F [some (.d (.ref 0)), some (.d (.lst sizes)), some (.d (.int a)), some (.d (.int b)), some (.d (.int c)), some (.d (.int size)), some (.d man), some (.d (.str div)), some (.d r), none, none, none, none, none, none, none, none, none] h'_1 (fin Q Z) := by
      intro div hd
      refine ⟨k + 3, s3, by omega, fun row h4 hrow s4 => ⟨k + 4, s4, by omega, fun r2 h5 _ _ s5 => ?_⟩⟩
      split
      · refine ⟨k + 5, s5, by omega, a0, a1, b0, b1, c0, c1, fun row2 h6 hrow2 s6 => ?_⟩
        exact cf size man div row2 (k + 48) h6 y0 y1 hd hma hrow2 (s6.mono (by omega)) (by omega) fun r h' hr hz2 s => q r h' hr (by rw [hz2]; exact hsz) (s.mono (by omega))
      · exact cf size man div row (k + 5) h5 y0 y1 hd hma hrow s5 (by omega) fun r h' hr hz2 s => q r h' hr (by rw [hz2]; exact hsz) (s.mono (by omega))
    split
    · exact go "coarse" (.inr rfl)
    · exact go "fine" (.inl rfl)
def spTwo : FnD := fun xs h P _ => match xs with
  | [.int n] => 0 ≤ n ∧ n ≤ 100000 ∧ P (.int (2 ^ n.toNat)) h
  | _ => False
theorem k_law_two {F : Fns} : Kp M F m_law_two 1 spTwo := by
  intro xs h Q Z q0
  match xs, q0 with
  | [.int n], ⟨n0, n1, q⟩ =>
    have c : CShlA 1 n := .inl ⟨n0, by omega, by decide⟩
    simp [m_law_two, Ss.d, S.d, E.d, startD, fin, wBin, wInt, c]
    exact q
end K
set_option maxHeartbeats 4000000
set_option exponentiation.threshold 256
namespace K
open PySem DL DP BM M17
def spCoder : FnD := fun xs h P _ => match xs with
  | [.ref 0, .lst sizes, .int a, .int b, .int c] => ∃ k, FH k h ∧ k ≤ 900000 ∧ (∀ s ∈ sizes, ∃ i, s = .int i ∧ 2 ≤ i ∧ i ≤ 5) ∧ 0 < sizes.length ∧ sizes.length ≤ 1000 ∧ 1 ≤ a ∧ a ≤ 3 ∧ 2 ≤ b ∧ b ≤ 4 ∧ 1 ≤ c ∧ c ≤ 12 ∧ ∀ (r : Rig) h', r.ok → FH (k + 60) h' → P (rigD r) h'
  | _ => False
theorem k_law_coder {F : Fns} (f5 : F.f 20 = spDraw) (f6 : F.f 21 = spAny) (f7 : F.f 22 = spShape) (f8 : F.f 23 = spDrawn) : Kp M F m_law_coder 18 spCoder := by
  intro xs h Q Z q0
  match xs, q0 with
  | [.ref 0, .lst sizes, .int a, .int b, .int c], ⟨k, hs, hk, hz, z0, z1, a0, a1, b0, b1, c0, c1, q⟩ =>
    exact kz_law_coder f5 f6 f7 f8 _ h Q Z ⟨k, hs, hk, hz, z0, z1, a0, a1, b0, b1, c0, c1, fun r h' ro _ s => q r h' ro s⟩
end K
set_option maxHeartbeats 4000000
set_option exponentiation.threshold 2000
namespace K
open PySem DL DP BM M17
def sdZ (P : D → Hs → Prop) (x : Xn) (h : Hs) : Prop := (x.c = 0 ∧ ∃ w a, x.fs = ([("at", a), ("word", w)] : List (Str × D)) ∧ P (.tup [.str "use", w, a]) h) ∨ (x.c = 1 ∧ ∃ w a, x.fs = ([("at", a), ("word", w)] : List (Str × D)) ∧ P (.tup [.str "barred", w, a]) h)
def spSaid : HFn := fun act h P _ => ∀ (P1 : D → Hs → Prop) (Z1 : XD), (∀ d h', P (.tup [.str "told", d]) h' → P1 d h') → (∀ x h', sdZ P x h' → Z1 x h') → act h P1 Z1
theorem k_law_said {F : Fns} : KpH M F m_law_said 2 spSaid := by
  intro f act h Q Z q
  simp [m_law_said, Ss.d, S.d, dTryM, E.d, Es.d, startF, sl24]
  refine q _ _ (fun d h' p => by simpa [fin] using p) fun x h' p => ?_
  have hb : (Str.ofString "word" == Str.ofString "at") = false := by decide +kernel
  rcases p with ⟨hc, w, a, hf, p⟩ | ⟨hc, w, a, hf, p⟩
  · refine ⟨by rw [hc]; decide, ?_⟩
    simp [hdD, M, hc, hf, xvals, XI.val, List.lookup, hb, Sk.go]
    exact p
  · refine ⟨by rw [hc]; decide, ?_⟩
    simp [hdD, M, hc, hf, xvals, XI.val, List.lookup, hb, Sk.go]
    exact p
end K
set_option maxHeartbeats 4000000
set_option exponentiation.threshold 2000
namespace K
open PySem DL DP BM M17
def spOpen : FnD := fun xs h P _ => match xs with
  | [.tup [.int l, .int w, .int _]] => 0 ≤ l ∧ 1 ≤ w ∧ P (.int (opn l.toNat w.toNat)) h
  | _ => False
theorem k_open_depth {F : Fns} : Kp M F m_open_depth 4 spOpen := by
  intro xs h Q Z q0
  match xs, q0 with
  | [.tup [.int l, .int w, .int d]], ⟨l0, w1, q⟩ =>
    obtain ⟨l, rfl⟩ := Int.eq_ofNat_of_zero_le l0
    obtain ⟨w, rfl⟩ := Int.eq_ofNat_of_zero_le (show 0 ≤ w by omega)
    simp only [Int.toNat_natCast] at q
    have e : (l : Int) + w - 1 = ((l + w - 1 : Nat) : Int) := by omega
    simp [m_open_depth, Ss.d, S.d, E.d, startD, List.replicate_succ, Tgs.len, wBin, wInt, wBl, fin]
    rw [e, xor_nat]
    exact q
def spSides : FnD := fun xs h P _ => match xs with
  | [.tup [.int l, .int w, .int _]] => 0 ≤ l ∧ 2 ≤ w ∧ l + w ≤ 2 ^ 1000 ∧ P (.tup [.int ((mdl l.toNat w.toNat : Nat) - l), .int (l + w - (mdl l.toNat w.toNat : Nat))]) h
  | _ => False
theorem k_sides_of {F : Fns} (f7 : F.f 3 = spOpen) : Kp M F m_sides_of 6 spSides := by
  intro xs h Q Z q0
  match xs, q0 with
  | [.tup [.int l, .int w, .int d]], ⟨l0, w2, lw, q⟩ =>
    obtain ⟨l, rfl⟩ := Int.eq_ofNat_of_zero_le l0
    obtain ⟨w, rfl⟩ := Int.eq_ofNat_of_zero_le (show 0 ≤ w by omega)
    simp only [Int.toNat_natCast] at q
    have lw' : l + w ≤ 2 ^ 1000 := by omega
    have e : (l : Int) + w - 1 = ((l + w - 1 : Nat) : Int) := by omega
    have o1 := od_pos (a := l) (b := l + w - 1) (by omega)
    have o2 : od l (l + w - 1) ≤ 1000 := od_lt (by omega) (by omega)
    obtain ⟨k, hk⟩ : ∃ k, opn l w = k + 1 := ⟨opn l w - 1, by unfold opn; omega⟩
    have hk' : od l (l + w - 1) = k + 1 := hk
    have c : CShlA (((l + w - 1) / 2 ^ k : Nat) : Int) (k : Int) := cshl (Nat.lt_of_le_of_lt (Nat.div_le_self _ _) (by omega)) (by omega)
    have e3 : ((l : Int) + w - 1) / 2 ^ k = (((l + w - 1) / 2 ^ k : Nat) : Int) := by rw [e]; push_cast; rfl
    have em : (((l + w - 1) / 2 ^ k : Nat) : Int) * 2 ^ k = (mdl l w : Nat) := by
      unfold mdl mid
      rw [hk', Nat.add_sub_cancel]; push_cast; rfl
    simp [m_sides_of, Ss.d, S.d, E.d, Es.d, Es.len, startD, List.replicate_succ, Tgs.len, f7, spOpen, wBin, wInt, hk, sl24, fin, -Int.natCast_ediv]
    rw [e3, em]
    exact ⟨by omega, by omega, c, q⟩
def spDbl : FnD := fun xs h P _ => match xs with
  | [.tup [.int l, .int w, .int d], .int t] => 0 ≤ l ∧ 0 ≤ w ∧ 0 ≤ t ∧ t ≤ 1000 ∧ l < 2 ^ 1000 ∧ w < 2 ^ 1000 ∧ P (.tup [.int (l * 2 ^ t.toNat), .int (w * 2 ^ t.toNat), .int (d + t)]) h
  | _ => False
theorem k_doubled_by {F : Fns} : Kp M F m_doubled_by 5 spDbl := by
  intro xs h Q Z q0
  match xs, q0 with
  | [.tup [.int l, .int w, .int d], .int t], ⟨l0, w0, t0, t1, l1, w1, q⟩ =>
    obtain ⟨l, rfl⟩ := Int.eq_ofNat_of_zero_le l0
    obtain ⟨w, rfl⟩ := Int.eq_ofNat_of_zero_le w0
    obtain ⟨t, rfl⟩ := Int.eq_ofNat_of_zero_le t0
    have c1 : CShlA (l : Int) t := cshl (by omega) (by omega)
    have c2 : CShlA (w : Int) t := cshl (by omega) (by omega)
    simp [m_doubled_by, Ss.d, S.d, E.d, Es.d, startD, List.replicate_succ, Tgs.len, wBin, wInt, c1, c2, sl24, fin]
    simpa using q
def spPlain : FnD := fun xs h P _ => match xs with
  | [.tup [.int l, .int w, .int _], .int z] => 0 ≤ l ∧ 1 ≤ w ∧ 0 ≤ z ∧ P (.int ((z.toNat - opn l.toNat w.toNat : Nat) : Int)) h
  | _ => False
theorem k_plain_times {F : Fns} (f7 : F.f 3 = spOpen) : Kp M F m_plain_times 2 spPlain := by
  intro xs h Q Z q0
  match xs, q0 with
  | [.tup [.int l, .int w, .int d], .int z], ⟨l0, w1, z0, q⟩ =>
    simp [m_plain_times, Ss.d, S.d, E.d, Es.d, Es.len, startD, f7, spOpen, dMM, wBin, wInt, fin]
    refine ⟨l0, w1, ?_⟩
    have e : max 0 (z - (opn l.toNat w.toNat : Nat)) = ((z.toNat - opn l.toNat w.toNat : Nat) : Int) := by omega
    rw [e]; exact q
end K
set_option maxHeartbeats 4000000
set_option exponentiation.threshold 256
namespace K
open PySem DL DP BM M17
theorem lt1000 {w : Nat} (h : w ≤ 2 ^ 950) : w < 2 ^ 1000 := Nat.lt_of_le_of_lt h (Nat.pow_lt_pow_right (by decide) (by decide))
def spLate : FnD := fun xs h P _ => match xs with
  | [.tup [.int _, .int w, .int _], .int z] => 1 ≤ w ∧ w ≤ 2 ^ 950 ∧ 2 ≤ z ∧ z ≤ 5 ∧ P (.int (tms w.toNat (z.toNat - 1) : Nat)) h
  | _ => False
theorem k_late_times {F : Fns} : Kp M F m_late_times 3 spLate := by
  intro xs h Q Z q0
  match xs, q0 with
  | [.tup [.int l, .int w, .int d], .int z], ⟨w1, w2, z0, z1, q⟩ =>
    obtain ⟨w, rfl⟩ := Int.eq_ofNat_of_zero_le (show 0 ≤ w by omega)
    obtain ⟨z, rfl⟩ := Int.eq_ofNat_of_zero_le (show 0 ≤ z by omega)
    simp only [Int.toNat_natCast] at q
    have w1' : 1 ≤ w := by omega
    have w2' : w < 2 ^ 1000 := lt1000 (by exact_mod_cast w2)
    have le := tms_le (w := w) (e := z - 1)
    simp [m_late_times, Ss.d, S.d, E.d, E.t, startD, List.replicate_succ]
    refine ⟨fun m ds h' => h' = h ∧ ∃ t : Nat, ds = [some (.d (.tup [.int l, .int w, .int d])), some (.d (.int z)), some (.d (.int t))] ∧ t + m = tms w (z - 1), ⟨_, rfl, 0, rfl, Nat.zero_add _⟩, ?_⟩
    rintro m ds h' ⟨rfl, t, rfl, hm⟩
    have c1 : CShlA (w : Int) (t : Int) := cshl w2' (by omega)
    have e1 : ((z : Int) - 1) = ((z - 1 : Nat) : Int) := by omega
    have c2 : CShlA 1 ((z - 1 : Nat) : Int) := cshl (l := 1) (Nat.one_lt_two_pow (by decide)) (by omega)
    simp [wIx, seqW, lstW, tupW, L2.atI, L2.ixN, wBin, wInt, c1, c2, e1, wCmp, wLt]
    by_cases ht : t < tms w (z - 1)
    · have := tms_lo ht
      rw [if_pos (by exact_mod_cast this)]
      simp [dAug, E.d, wBin, wInt]
      exact ⟨m - 1, by omega, t + 1, rfl, by omega⟩
    · have e : t = tms w (z - 1) := by omega
      have := tms_hi w1' (e := z - 1)
      rw [← e] at this
      rw [if_neg (by intro g; have : w * 2 ^ t ≤ 2 ^ (z - 1) := by exact_mod_cast g
                     omega)]
      simp [fin]
      rw [e]
      exact q
/-- the match over ints of a span -/
theorem sp_ints {l w d : Int} (l0 : 0 ≤ l) (w0 : 0 ≤ w) (d0 : 0 ≤ d) : ∃ s : Sp, l = s.l ∧ w = s.w ∧ d = s.d := by
  obtain ⟨a, rfl⟩ := Int.eq_ofNat_of_zero_le l0
  obtain ⟨b, rfl⟩ := Int.eq_ofNat_of_zero_le w0
  obtain ⟨c, rfl⟩ := Int.eq_ofNat_of_zero_le d0
  exact ⟨⟨a, b, c⟩, rfl, rfl, rfl⟩
def spOf (l w d : Int) : Sp := ⟨l.toNat, w.toNat, d.toNat⟩
@[simp] theorem spOf_nat {l w d : Nat} : spOf l w d = ⟨l, w, d⟩ := rfl
theorem lf_int {s : Sp} (h : 2 ≤ s.w) : ((s.m : Int) - s.l) = (s.lf : Nat) := by have := m_bd h; unfold Sp.lf; omega
theorem rt_int {s : Sp} (h : 2 ≤ s.w) : ((s.l : Int) + s.w - s.m) = (s.rt : Nat) := by have := m_bd h; unfold Sp.rt; omega
def spPend : FnD := fun xs h P _ => match xs with
  | [.tup [.int l, .int w, .int d], .int z] => 0 ≤ l ∧ 1 ≤ w ∧ 0 ≤ d ∧ l + w ≤ 2 ^ 950 ∧ 2 ≤ z ∧ z ≤ 5 ∧ P (.int (pendT (spOf l w d) z.toNat : Nat)) h
  | _ => False
theorem k_pending_times {F : Fns} (f1 : F.f 6 = spPlain) (f2 : F.f 5 = spDbl) (f3 : F.f 4 = spSides) : Kp M F m_pending_times 4 spPend := by
  intro xs h Q Z q0
  match xs, q0 with
  | [.tup [.int l, .int w, .int d], .int z], ⟨l0, w1, d0, lw, z0, z1, q⟩ =>
    obtain ⟨s, rfl, rfl, rfl⟩ := sp_ints l0 (show 0 ≤ w by omega) d0
    obtain ⟨z, rfl⟩ := Int.eq_ofNat_of_zero_le (show 0 ≤ z by omega)
    rw [spOf_nat, Int.toNat_natCast] at q
    have w1' : 1 ≤ s.w := by omega
    have lw' : s.l + s.w ≤ 2 ^ 950 := by exact_mod_cast lw
    have pz : plnT s z ≤ 5 := by unfold plnT; omega
    have pw := plain_w (s := s) (z := z) (by omega) w1'
    have hh : (s.dbl (plnT s z)).l + (s.dbl (plnT s z)).w ≤ 2 ^ 1000 := by
      show s.l * 2 ^ _ + s.w * 2 ^ _ ≤ _
      rw [← Nat.add_mul]
      refine Nat.le_trans (Nat.mul_le_mul lw' (Nat.pow_le_pow_right (by decide) pz)) ?_
      rw [← Nat.pow_add]
      exact Nat.pow_le_pow_right (by decide) (by decide)
    have hm := mxs_pos pw
    have le := tms_le (w := mxs (s.dbl (plnT s z))) (e := z - 2)
    simp [m_pending_times, Ss.d, S.d, E.d, E.t, Es.d, Es.len, startD, List.replicate_succ, f1, f2, f3, spPlain, spDbl, spSides]
    have ep : z - opn s.l s.w = plnT s z := rfl
    rw [ep]
    have hl : (s.l : Int) < 2 ^ 1000 := by
      have := lt1000 (show s.l ≤ 2 ^ 950 by omega); exact_mod_cast this
    have hw : (s.w : Int) < 2 ^ 1000 := by
      have := lt1000 (show s.w ≤ 2 ^ 950 by omega); exact_mod_cast this
    have dl : (s.l : Int) * 2 ^ plnT s z = ((s.dbl (plnT s z)).l : Nat) := by show _ = ((s.l * 2 ^ _ : Nat) : Int); push_cast; rfl
    have dw : (s.w : Int) * 2 ^ plnT s z = ((s.dbl (plnT s z)).w : Nat) := by show _ = ((s.w * 2 ^ _ : Nat) : Int); push_cast; rfl
    rw [dl, dw]
    simp only [Int.toNat_natCast]
    refine ⟨by omega, by omega, hl, hw, by omega, by omega, by exact_mod_cast hh, ?_⟩
    have e1 : (↑(mdl (s.dbl (plnT s z)).l (s.dbl (plnT s z)).w) - ↑(s.dbl (plnT s z)).l : Int) = ((s.dbl (plnT s z)).lf : Nat) := lf_int pw
    have e2 : (↑(s.dbl (plnT s z)).l + ↑(s.dbl (plnT s z)).w - ↑(mdl (s.dbl (plnT s z)).l (s.dbl (plnT s z)).w) : Int) = ((s.dbl (plnT s z)).rt : Nat) := rt_int pw
    rw [e1, e2]
    have eq0 : pendT s z = plnT s z + tms (mxs (s.dbl (plnT s z))) (z - 2) := rfl
    rw [eq0] at q
    have em : max ((s.dbl (plnT s z)).lf : Int) ((s.dbl (plnT s z)).rt : Int) = (mxs (s.dbl (plnT s z)) : Nat) := by unfold mxs; omega
    refine wMx2 rfl ?_
    rw [em]
    have hmx : mxs (s.dbl (plnT s z)) ≤ 2 ^ 1000 := by
      have := lf_rt pw
      unfold mxs; omega
    generalize mxs (s.dbl (plnT s z)) = m0 at hm hmx le q
    refine ⟨_, rfl, fun m ds h' => h' = h ∧ ∃ t : Nat, ds = [some (.d (.tup [.int s.l, .int s.w, .int s.d])), some (.d (.int z)), some (.d (.int (plnT s z + t : Nat))), some (.d (.int (m0 * 2 ^ t : Nat)))] ∧ t + m = tms m0 (z - 2), ⟨_, rfl, 0, by simp, Nat.zero_add _⟩, ?_⟩
    rintro m ds h' ⟨rfl, t, rfl, hm'⟩
    have e1 : ((z : Int) - 2) = ((z - 2 : Nat) : Int) := by omega
    have c2 : CShlA 1 ((z - 2 : Nat) : Int) := cshl (l := 1) (Nat.one_lt_two_pow (by decide)) (by omega)
    have hlt : m0 * 2 ^ t < 2 ^ 1006 := by
      have : 2 ^ t ≤ 2 ^ 5 := Nat.pow_le_pow_right (by decide) (by omega)
      calc m0 * 2 ^ t ≤ 2 ^ 1000 * 2 ^ 5 := Nat.mul_le_mul hmx this
        _ = 2 ^ 1005 := by rw [← Nat.pow_add]
        _ < 2 ^ 1006 := Nat.pow_lt_pow_right (by decide) (by decide)
    have c1 : CShlA ((m0 * 2 ^ t : Nat) : Int) 1 := cshlB (t := 1) hlt (by decide) (by decide)
    generalize hM : m0 * 2 ^ t = M0 at c1
    simp [wBin, wInt, c1, c2, e1, wCmp, wLt]
    by_cases ht : t < tms m0 (z - 2)
    · have := tms_lo ht
      rw [hM] at this
      rw [if_pos (by exact_mod_cast this)]
      simp [dAug, E.d, wBin, wInt, c1]
      have em2 : M0 * 2 = m0 * 2 ^ (t + 1) := by rw [Nat.pow_succ, ← Nat.mul_assoc, hM]
      exact ⟨m - 1, by omega, t + 1, ⟨by omega, by exact_mod_cast em2⟩, by omega⟩
    · have e : t = tms m0 (z - 2) := by omega
      have := tms_hi hm (e := z - 2)
      rw [← e, hM] at this
      rw [if_neg (by intro g; have : M0 ≤ 2 ^ (z - 2) := by exact_mod_cast g
                     omega)]
      simp [fin]
      rw [← e] at q
      simpa using q
end K
set_option maxHeartbeats 4000000
set_option exponentiation.threshold 256
namespace K
open PySem DL DP BM M17
def spCut : FnD := fun xs h P _ => match xs with
  | [sp, .int z] => ∃ s : Sp, sp = spD s ∧ 2 ≤ s.w ∧ s.l + s.w ≤ 2 ^ 1000 ∧ 2 ≤ z ∧ z ≤ 5 ∧ P (.tup [spD (cutSp s z.toNat).1, lostD (cutSp s z.toNat).2]) h
  | _ => False
theorem k_cut_apart {F : Fns} (f3 : F.f 4 = spSides) : Kp M F m_cut_apart 9 spCut := by
  intro xs h Q Z q0
  match xs, q0 with
  | [_, .int z], ⟨s, rfl, w2, lw, z0, z1, q⟩ =>
    obtain ⟨z, rfl⟩ := Int.eq_ofNat_of_zero_le (show 0 ≤ z by omega)
    rw [Int.toNat_natCast] at q
    have c2 : CShlA 1 ((z : Int) - 2) := by
      have e1 : ((z : Int) - 2) = ((z - 2 : Nat) : Int) := by omega
      rw [e1]; exact cshl (l := 1) (Nat.one_lt_two_pow (by decide)) (by omega)
    simp [m_cut_apart, spD, Ss.d, S.d, E.d, E.t, Es.d, Es.len, startD, List.replicate_succ, f3, spSides, Tgs.len, wBin, wInt, c2, wCmp, wLt, sl24, dPar2, stW, fin]
    have e0 : ((2 : Int) ^ ((z : Int) - 2).toNat < (s.w : Int)) ↔ 2 ^ (z - 2) < s.w := by
      have : ((z : Int) - 2).toNat = z - 2 := by omega
      rw [this]
      constructor
      · intro g; exact_mod_cast g
      · intro g; exact_mod_cast g
    have e1 : ((mdl s.l s.w : Int) - s.l) = (s.lf : Nat) := lf_int w2
    have e2 : ((s.l : Int) + s.w - mdl s.l s.w) = (s.rt : Nat) := rt_int w2
    unfold cutSp at q
    split
    · rename_i g
      rw [if_pos (e0.mp g)] at q
      exact q
    · rename_i g
      rw [if_neg (fun x => g (e0.mpr x))] at q
      refine ⟨by omega, by exact_mod_cast lw, ?_⟩
      simp only [e1, e2]
      split
      · rename_i g2
        rw [if_pos (by omega)] at q
        simpa [spD, lostD] using q
      · rename_i g2
        rw [if_neg (by omega)] at q
        simpa [spD, lostD] using q
def spSettle : FnD := fun xs h P _ => match xs with
  | [rg, sp] => ∃ (r : Rig) (s : Sp), rg = rigD r ∧ sp = spD s ∧ 2 ≤ r.z ∧ r.z ≤ 5 ∧ s.ok ∧ s.d ≤ 900 ∧ P (stlD (stl r.mn r.z s)) h
  | _ => False
theorem spSettle_i {r : Rig} {s : Sp} {h : Hs} {P : D → Hs → Prop} {Z : XD} (z0 : 2 ≤ r.z) (z1 : r.z ≤ 5) (ok : s.ok) (hd : s.d ≤ 900) (p : P (stlD (stl r.mn r.z s)) h) : spSettle [rigD r, spD s] h P Z := ⟨r, s, rfl, rfl, z0, z1, ok, hd, p⟩
theorem pow_le_500 {s : Sp} (h : s.ok) (hd : s.d ≤ 900) : s.l + s.w ≤ 2 ^ 950 := Nat.le_trans h.hi (Nat.pow_le_pow_right (by decide) (by omega))
theorem settle_T1 {F : Fns} (f3 : F.f 6 = spPlain) (f4 : F.f 5 = spDbl) (f5 : F.f 9 = spCut) {w0 w3 w4 : Option W} {z : Nat} {mn : Mn} {s : Sp} {h : Hs} {Q : D → Hs → Prop} {Z : XD} (z0 : 2 ≤ z) (z1 : z ≤ 5) (ok : s.ok) (hd : s.d ≤ 900)
    (q : Q (stlD (stl mn z s)) h) : m_settle_T1.d M F [w0, some (.d (spD s)), some (.d (.int z)), w3, w4, some (.d (.str mn.s)), some (.d .non), some (.d (.int (timesT mn s z : Nat))), none, none] h (fin Q Z) := by
  have w0' := ok.w0
  have lw := pow_le_500 ok hd
  have tl := timesT_le (mn := mn) (z := z) (s := s)
  have pw : mn = .cut → 2 ≤ (s.dbl (timesT mn s z)).w := fun e => by subst e; exact plain_w z0 ok.w0
  have hl : s.l < 2 ^ 1000 := lt1000 (show s.l ≤ 2 ^ 950 by omega)
  have hw : s.w < 2 ^ 1000 := lt1000 (show s.w ≤ 2 ^ 950 by omega)
  have hl' : (s.l : Int) < 2 ^ 1000 := by exact_mod_cast hl
  have hw' : (s.w : Int) < 2 ^ 1000 := by exact_mod_cast hw
  have fo := ok.dbl (timesT mn s z)
  have fd : (s.dbl (timesT mn s z)).d ≤ 920 := by show s.d + _ ≤ _; omega
  have dd : D.tup [.int ((s.l : Int) * 2 ^ timesT mn s z), .int ((s.w : Int) * 2 ^ timesT mn s z), .int ((s.d : Int) + timesT mn s z)] = spD (s.dbl (timesT mn s z)) := by simp [spD, Sp.dbl]
  unfold stl at q
  simp [m_settle_T1, spD, Ss.d, S.d, E.d, E.t, Es.d, Es.len, f4, spDbl]
  refine ⟨by omega, hl', hw', ?_⟩
  rw [dd]
  generalize timesT mn s z = t at tl pw fo fd q
  generalize s.dbl t = f at pw fo fd q
  simp [f3, f5, spPlain, spCut, Tgs.len, wCmp, wEq, s_cut]
  by_cases e : mn = .cut
  · rw [if_pos e] at q
    subst e
    refine .inr ⟨rfl, ?_⟩
    have pw := pw rfl
    have flw : f.l + f.w ≤ 2 ^ 1000 := Nat.le_trans fo.hi (Nat.pow_le_pow_right (by decide) (by omega))
    refine ⟨f, rfl, pw, flw, by omega, by omega, ?_⟩
    have ck : (cutSp f z).1.ok ∧ (cutSp f z).1.d = f.d := by
      rcases cut_cases (s := f) (z := z) z0 pw with ⟨ec, _⟩ | ⟨k, x, ec, _, kd, xd, k0, x0, kx, a, b, c, d, _⟩
      · rw [ec]; exact ⟨fo, rfl⟩
      · rw [ec]; exact ⟨fo.sub k0 kd c, kd⟩
    generalize (cutSp f z).2 = x at q
    generalize (cutSp f z).1 = k at q ck
    have k0 := ck.1.w0
    have kt : plnT k z ≤ 5 := by unfold plnT; omega
    have klw : k.l + k.w ≤ 2 ^ 930 := Nat.le_trans ck.1.hi (Nat.pow_le_pow_right (by decide) (by omega))
    have kl : (k.l : Int) < 2 ^ 1000 := by
      have : k.l < 2 ^ 1000 := Nat.lt_of_le_of_lt (show k.l ≤ 2 ^ 930 by omega) (Nat.pow_lt_pow_right (by decide) (by decide))
      exact_mod_cast this
    have kw : (k.w : Int) < 2 ^ 1000 := by
      have : k.w < 2 ^ 1000 := Nat.lt_of_le_of_lt (show k.w ≤ 2 ^ 930 by omega) (Nat.pow_lt_pow_right (by decide) (by decide))
      exact_mod_cast this
    have kdd : D.tup [.int ((k.l : Int) * 2 ^ plnT k z), .int ((k.w : Int) * 2 ^ plnT k z), .int ((k.d : Int) + plnT k z)] = spD (k.dbl (plnT k z)) := by simp [spD, Sp.dbl]
    have kp : z - opn k.l k.w = plnT k z := rfl
    have q' : Q (.tup [.tup [.int ((k.l : Int) * 2 ^ plnT k z), .int ((k.w : Int) * 2 ^ plnT k z), .int ((k.d : Int) + plnT k z)], .int ((t : Int) + plnT k z), lostD x]) h := by
      rw [kdd]
      exact q
    simp [spD, kp, dAug, m_settle_T2, Ss.d, S.d, E.d, E.t, Es.d, Es.len, f4, f3, spDbl, spPlain, wBin, wInt, sl24]
    exact ⟨by omega, by omega, kl, kw, q'⟩
  · rw [if_neg e] at q
    refine .inl ⟨e, ?_⟩
    simp [m_settle_T2, Ss.d, S.d, E.d, E.t, Es.d, Es.len, sl24, fin]
    exact q
theorem k_settle {F : Fns} (f1 : F.f 7 = spLate) (f2 : F.f 8 = spPend) (f3 : F.f 6 = spPlain) (f4 : F.f 5 = spDbl) (f5 : F.f 9 = spCut) : Kp M F m_settle 10 spSettle := by
  intro xs h Q Z q0
  match xs, q0 with
  | [_, _], ⟨r, s, rfl, rfl, z0, z1, ok, hd, q⟩ =>
    have w0 := ok.w0
    have lw := pow_le_500 ok hd
    have t1 := fun w0 w3 w4 => settle_T1 (F := F) f3 f4 f5 (w0 := w0) (w3 := w3) (w4 := w4) (mn := r.mn) (h := h) (Q := Q) (Z := Z) z0 z1 ok hd q
    have lw' : (s.l : Int) + s.w ≤ 2 ^ 950 := by exact_mod_cast lw
    have w5 : (s.w : Int) ≤ 2 ^ 950 := by
      have : s.w ≤ 2 ^ 950 := by omega
      exact_mod_cast this
    have eL : timesT .late s r.z = tms s.w (r.z - 1) := rfl
    have eP : timesT .pending s r.z = pendT s r.z := rfl
    have eO : r.mn ≠ .late → r.mn ≠ .pending → timesT r.mn s r.z = r.z - opn s.l s.w := fun a b => by cases hm : r.mn <;> simp_all <;> rfl
    unfold m_settle
    generalize m_settle_T1 = mt at t1 ⊢
    simp [rigD, spD, Ss.d, S.d, E.d, E.t, Es.d, Es.len, startD, List.replicate_succ, f1, f2, f3, spLate, spPend, spPlain, Tgs.len, wCmp, wEq, s_late, s_pending]
    by_cases e1 : r.mn = .late
    · rw [e1, eL] at t1
      rw [if_pos e1]
      refine ⟨by omega, w5, by omega, by omega, ?_⟩
      rw [e1]
      exact t1 _ _ _
    · rw [if_neg e1]
      by_cases e2 : r.mn = .pending
      · rw [e2, eP] at t1
        rw [if_pos e2]
        refine ⟨by omega, lw', by omega, by omega, ?_⟩
        rw [e2]
        exact t1 _ _ _
      · rw [if_neg e2]
        refine ⟨by omega, ?_⟩
        rw [eO e1 e2] at t1
        exact t1 _ _ _
end K
set_option maxHeartbeats 4000000
set_option exponentiation.threshold 256
namespace K
open PySem DL DP BM M17
def bTg : Tg := .tp (.cons (.nm 12) (.cons (.nm 13) (.cons (.nm 14) (.nil))))
theorem put_ent {e : Ent} {ds : DSt} {Pp : DSt → Prop} : bTg.put (entD e) ds Pp = Pp (((ds.set 12 (some (.d (.str (chS [e.c]))))).set 13 (some (.d (.int e.n)))).set 14 (some (.d (optD e.g)))) := by
  simp [bTg, entD, Tgs.len]
theorem bounds_B1 {F : Fns} {w0 w1 w3 w4 w6 w7 w12 w14 w15 w16 : Option W} {w T A c : Nat} {fine : Bool} {acc : List D} {h : Hs} {En : DEnds} (hT : 0 < T) (hT2 : T ≤ 100) (hA2 : A ≤ 100) (hc : 1 ≤ c) (hc2 : c ≤ 12) (hl : acc.length < 10)
    (q : En.nx [w0, w1, some (.d (.int w)), w3, w4, some (.d (.str (divS fine))), w6, w7, some (.d (.int T)), some (.d (.int ((w / T : Nat) : Int))), some (.own (acc ++ [.tup [.int (bg fine w T A), .int (bg fine w T (A + c))]])), some (.d (.int ((A + c : Nat) : Int))), w12, some (.d (.int c)), w14, w15, w16] h) :
    m_bounds_of_B1.d M F [w0, w1, some (.d (.int w)), w3, w4, some (.d (.str (divS fine))), w6, w7, some (.d (.int T)), some (.d (.int ((w / T : Nat) : Int))), some (.own acc), some (.d (.int A)), w12, some (.d (.int c)), w14, w15, w16] h En := by
  have c1 : ∀ x : Int, CMulA x A := fun x => .inl (.inr ⟨by omega, by omega⟩)
  have c2 : ∀ x : Int, CMulA x ((A : Int) + c) := fun x => .inl (.inr ⟨by omega, by omega⟩)
  have dv : ∀ i : Int, CDivA i T := fun i => .inl ⟨by omega, by omega⟩
  have hl' : acc.length < 16777216 := by omega
  simp [m_bounds_of_B1, m_bounds_of_T1, Ss.d, S.d, E.d, E.t, Es.d, wCmp, wEq, dApp, dAug, wBin, wInt, c1, c2, dv, hl', sl24, div_fine, hT]
  cases fine with
  | true => simpa [bg] using q
  | false => simpa [bg] using q
theorem ixN_last {n k : Nat} (h : n = k + 1) : L2.ixN n (-1) = some k := by
  subst h
  unfold L2.ixN
  rw [if_neg (by omega), if_pos (by omega)]
  congr 1
  omega
def spBounds : FnD := fun xs h P _ => match xs with
  | [rg, .int c, .int w] => ∃ (r : Rig) (es : List Ent) (ci wn : Nat), rg = rigD r ∧ r.ok ∧ c = ci ∧ w = wn ∧ r.cs[ci]? = some es ∧ P (.lst (bndsD r.fine es wn)) h
  | _ => False
theorem spBounds_i {r : Rig} {es : List Ent} {c w : Nat} {h : Hs} {P : D → Hs → Prop} {Z : XD} (rok : r.ok) (he : r.cs[c]? = some es) (p : P (.lst (bndsD r.fine es w)) h) : spBounds [rigD r, .int c, .int w] h P Z := ⟨r, es, c, w, rfl, rok, rfl, rfl, he, p⟩
theorem k_bounds_of {F : Fns} : Kp M F m_bounds_of 17 spBounds := by
  intro xs h Q Z q0
  match xs, q0 with
  | [_, .int _, .int _], ⟨r, es, ci, wn, rfl, rok, rfl, rfl, hes, q⟩ =>
    have co := rok.con hes
    have ct := con_tot co
    have cp := con_pos co
    have cl := co.l1
    have c2 := co.l0
    have b1 := fun (En : DEnds) w0 w1 w3 w4 w6 w7 w12 w14 w15 w16 A c acc => bounds_B1 (F := F) (w0 := w0) (w1 := w1) (w3 := w3) (w4 := w4) (w6 := w6) (w7 := w7) (w12 := w12) (w14 := w14) (w15 := w15) (w16 := w16) (w := wn) (T := tot es) (A := A) (c := c) (fine := r.fine) (acc := acc) (h := h) (En := En) cp.1 (by omega)
    have ai := at_map (f := conD) hes
    have dv : CDivA (wn : Int) ((tot es : Nat) : Int) := .inl ⟨by omega, by omega⟩
    unfold m_bounds_of
    generalize m_bounds_of_B1 = mb at b1 ⊢
    simp [Ss.d, S.d, E.d, startD, List.replicate_succ, Tgs.len]
    simp [rigD, wIx, seqW, lstW, tupW, ai]
    unfold dLc
    simp [Ic.d, dItT, E.d, conD]
    refine lc_map cntD (es.map entD) [] (fun e hx Kp kp => ?_) (by rw [sl24]; simp; omega) ?_
    · obtain ⟨e, he, rfl⟩ := List.mem_map.mp hx
      simp [entD, Tgs.len, wipeD]
      simpa [cnt_ent] using kp
    · simp only [List.nil_append]
      rw [map_cnt]
      refine ⟨es.map fun e => (e.n : Int), rfl, ?_⟩
      rw [sum_cast]
      have cw : (wn : Int) / ((tot es : Nat) : Int) = ((wn / tot es : Nat) : Int) := by push_cast; rfl
      simp [wBin, wInt, dv, Es.d, sl24, -Int.natCast_ediv]
      rw [cw]
      refine for_inv (fun i ds h' => h' = h ∧ i ≤ es.length ∧ ∃ w12 w13 w14, ds = [some (.d (rigD r)), some (.d (.int ci)), some (.d (.int wn)), some (.d (.int r.z)), some (.d (.tup (r.cs.map conD))), some (.d (.str (divS r.fine))), some (.d (.str r.mn.s)), some (.d (conD es)), some (.d (.int (tot es : Nat))), some (.d (.int ((wn / tot es : Nat) : Int))), some (.own (rawD r.fine es wn i)), some (.d (.int (ahd es i : Nat))), w12, w13, w14, none, none]) (es.map entD) ?_ ?_ ?_
      · rintro i u ds h' En' hu ⟨rfl, hi, w12, w13, w14, rfl⟩ hrt hex hbk hnx hct
        rw [List.getElem?_map] at hu
        obtain ⟨e, he, rfl⟩ := Option.map_eq_some_iff.mp hu
        have hlt : i < es.length := (List.getElem?_eq_some_iff.mp he).1
        have eo := co.ok e (List.mem_of_getElem? he)
        have hs := ahd_succ he
        have ha := ahd_le (es := es) (i := i)
        have pt := put_ent (e := e) (ds := [some (.d (rigD r)), some (.d (.int ci)), some (.d (.int wn)), some (.d (.int r.z)), some (.d (.tup (r.cs.map conD))), some (.d (.str (divS r.fine))), some (.d (.str r.mn.s)), some (.d (conD es)), some (.d (.int (tot es : Nat))), some (.d (.int ((wn / tot es : Nat) : Int))), some (.own (rawD r.fine es wn i)), some (.d (.int (ahd es i : Nat))), w12, w13, w14, none, none]) (Pp := fun ds' => mb.d M F ds' h' En')
        refine Eq.mpr pt ?_
        simp only [List.set_cons_succ, List.set_cons_zero]
        refine b1 _ _ _ _ _ _ _ _ _ _ _ _ _ _ (by omega) eo.n0 eo.n1 (by simp [rawD]; omega) ?_
        rw [← hs, ← rawD_succ]
        exact hnx _ _ ⟨rfl, by omega, _, _, _, rfl⟩
      · exact ⟨rfl, by omega, none, none, none, by simp [rawD, ahd_zero, rigD, conD]⟩
      · rintro ds h' ⟨rfl, hi, w12, w13, w14, rfl⟩
        rw [List.length_map]
        obtain ⟨k, hk⟩ : ∃ k, es.length = k + 1 := ⟨es.length - 1, by omega⟩
        have rs := raw_set (fine := r.fine) (w := wn) hk
        have rl : (rawD r.fine es wn es.length).length = k + 1 := by simp [rawD, hk]
        have gk : (rawD r.fine es wn es.length)[k]? = some (.tup [.int (bg r.fine wn (tot es) (ahd es k)), .int (bg r.fine wn (tot es) (ahd es (k + 1)))]) := by
          rw [hk]; simp [rawD, hk]
        have al : L2.atI (rawD r.fine es wn es.length) (-1) = some (.tup [.int (bg r.fine wn (tot es) (ahd es k)), .int (bg r.fine wn (tot es) (ahd es (k + 1)))]) := by
          unfold L2.atI
          rw [rl, ixN_last rfl]
          exact gk
        generalize rawD r.fine es wn es.length = raw at rs rl gk al
        simp [m_bounds_of_T2, Ss.d, S.d, E.d, Es.d, wNeg, wIx, seqW, lstW, tupW, al, Tgs.len, dSix, sl24, dFrz, rl, ixN_last, fin]
        rw [rs]
        exact q
end K
set_option maxHeartbeats 4000000
set_option exponentiation.threshold 256
namespace K
open PySem DL DP BM M17
def spLetters : FnD := fun xs h P _ => match xs with
  | [x] => Wordy x ∧ P (.bl (isLets x)) h
  | _ => False
theorem k_is_letters {F : Fns} (c0 : F.c 0 = .str "abcdefghijklmnopqrstuvwxyz") : Kp M F m_is_letters 2 spLetters := by
  intro xs h Q Z q0
  match xs, q0 with
  | [x], ⟨wx, q⟩ =>
    have hz := wx.s
    have hx := wx.g
    simp [m_is_letters, Ss.d, S.d, E.d, Es.d, Es.len, Ic.d, Oe.t, startD, fin, w_str hx]
    cases x <;> simp_all [isS, isLets, good]
    rename_i s
    unfold dLc dItS
    simp
    refine lc_map (fun x => .bl (isLets x)) _ [] (fun x hx Kp k => ?_) (by rw [sl24]; simp; omega) ?_
    · simp at hx
      obtain ⟨c, hc, rfl⟩ := hx
      simp [isLets, lets] at k
      simp [Tg.put, wipeD, E.d, c0, wCmp, wIn, lts_memA]
      exact k
    · simp [wB1, wAll, lstW]
      refine ⟨s.cps.toList.map fun c => decide (97 ≤ c) && decide (c ≤ 122), ?_, ?_⟩
      · simp [isLets, lets]
      · simpa [lets, List.all_map, Function.comp_def, Array.all_toList] using q
def spPlace : FnD := fun xs h P _ => match xs with
  | [rg, .int c, .str s] => ∃ (r : Rig) (es : List Ent) (ci ch : Nat), rg = rigD r ∧ r.ok ∧ c = ci ∧ s = chS [ch] ∧ r.cs[ci]? = some es ∧ P (.int (plcI es ch)) h
  | _ => False
theorem spPlace_i {r : Rig} {es : List Ent} {c ch : Nat} {h : Hs} {P : D → Hs → Prop} {Z : XD} (rok : r.ok) (he : r.cs[c]? = some es) (p : P (.int (plcI es ch)) h) : spPlace [rigD r, .int c, .str (chS [ch])] h P Z := ⟨r, es, c, ch, rfl, rok, rfl, rfl, he, p⟩
theorem k_place_of {F : Fns} : Kp M F m_place_of 5 spPlace := by
  intro xs h Q Z q0
  match xs, q0 with
  | [_, .int _, .str _], ⟨r, es, ci, ch, rfl, rok, rfl, rfl, hes, q⟩ =>
    have ai := at_map (f := conD) hes
    simp [m_place_of, Ss.d, S.d, E.d, Ic.d, startD, List.replicate_succ]
    unfold dItE
    simp [rigD, wIx, seqW, lstW, tupW, ai, conD]
    refine for_inv (fun i ds h' => h' = h ∧ (∀ j e', j < i → es[j]? = some e' → e'.c ≠ ch) ∧ ∃ w3 w4, ds = [some (.d (.tup [.int r.z, .tup (r.cs.map conD), .str (divS r.fine), .str r.mn.s])), some (.d (.int ci)), some (.d (.str (chS [ch]))), w3, w4]) (enD (es.map entD)) ?_ ?_ ?_
    · rintro i u ds h' En' hu ⟨rfl, hno, w3, w4, rfl⟩ hrt hex hbk hnx hct
      obtain ⟨y, hy, rfl⟩ := enD_get hu
      rw [List.getElem?_map] at hy
      obtain ⟨e, he, rfl⟩ := Option.map_eq_some_iff.mp hy
      simp [Tgs.len, m_place_of_B1, Ss.d, S.d, E.d, E.t, entD, wIx, seqW, lstW, tupW, wCmp, wEq, chS_inj]
      split
      · rename_i hc
        rw [hrt]
        have : plcI es ch = (i : Int) := by unfold plcI; rw [plc_at he hc hno]
        rw [this] at q
        exact q
      · rename_i hc
        refine hnx _ _ ⟨rfl, fun j e' hj hj' => ?_, _, _, rfl⟩
        by_cases hji : j = i
        · subst hji; rw [he] at hj'; cases hj'; exact hc
        · exact hno j e' (by omega) hj'
    · exact ⟨rfl, fun j e' hj _ => by omega, _, _, rfl⟩
    · rintro ds h' ⟨rfl, hno, w3, w4, rfl⟩
      rw [enD_len, List.length_map] at hno
      have : plcI es ch = -1 := by
        unfold plcI
        rw [plc_no fun j e' hj => hno j e' (List.getElem?_eq_some_iff.mp hj).1 hj]
      rw [this] at q
      simp [m_place_of_T1, Ss.d, S.d, E.d, wNeg, fin]
      exact q
end K
set_option maxHeartbeats 4000000
set_option exponentiation.threshold 256
namespace K
open PySem DL DP BM M17
def spBegun : FnD := fun xs h P _ => match xs with
  | [rg] => ∃ r : Rig, rg = rigD r ∧ r.ok ∧ P (spD (begunS r)) h
  | _ => False
theorem spBegun_i {r : Rig} {h : Hs} {P : D → Hs → Prop} {Z : XD} (rok : r.ok) (p : P (spD (begunS r)) h) : spBegun [rigD r] h P Z := ⟨r, rfl, rok, p⟩
theorem k_begun {F : Fns} : Kp M F m_begun 1 spBegun := by
  intro xs h Q Z q0
  match xs, q0 with
  | [_], ⟨r, rfl, rok, q⟩ =>
    have z1 := rok.z1
    have c : CShlA 1 (r.z : Int) := cshl (l := 1) (Nat.one_lt_two_pow (by decide)) (by omega)
    simp [m_begun, rigD, Ss.d, S.d, E.d, Es.d, startD, wIx, seqW, lstW, tupW, wBin, wInt, c, sl24, fin]
    simpa [spD, begunS] using q
end K
set_option maxHeartbeats 4000000
set_option exponentiation.threshold 256
namespace K
open PySem DL DP BM M17
def xnW (n : Int) : Xn := ⟨0, [("at", .int n), ("word", .str "word")]⟩
theorem flW : M.flds 0 = (["word", "at"] : List Str) := rfl
def xnBr (w : Str) (n : Int) : Xn := ⟨1, [("at", .int n), ("word", .str w)]⟩
theorem flB : M.flds 1 = (["word", "at"] : List Str) := rfl
def spPath : FnD := fun xs h P Z => match xs with
  | [rg, x] => ∃ r : Rig, rg = rigD r ∧ r.ok ∧ Wordy x ∧ (∀ w p rm, x = .str (chS w) → lets w = true → wrun r.cs w = some (p, rm) → P (.tup [.lst (p.map pairD), optD rm]) h) ∧ (∀ n, dflt r.cs x = some n → Z (xnW n) h)
  | _ => False
theorem path_B1 {F : Fns} (f1 : F.f 11 = spPlace) {r : Rig} {w1 w4 w5 w6 : Option W} {i c : Nat} {p : Pth} {rm : Option Nat} {h : Hs} {En : DEnds} (rok : r.ok) (hrm : ∀ k, rm = some k → k < r.cs.length) (hl : p.length < 2000)
    (q1 : ∀ x w6, wstep r.cs rm c = some x → En.nx [some (.d (rigD r)), w1, some (.own (p.map pairD ++ [pairD (x.1, x.2.1)])), some (.d (optD x.2.2)), some (.d (.int i)), some (.d (.str (chS [c]))), w6] h)
    (q2 : wstep r.cs rm c = none → ∀ ds, En.ex (xnW i) ds h) :
    m_path_of_B1.d M F [some (.d (rigD r)), w1, some (.own (p.map pairD)), some (.d (optD rm)), some (.d (.int i)), some (.d (.str (chS [c]))), w6] h En := by
  have q2' : wstep r.cs rm c = none → ∀ ds, En.ex { c := 0, fs := [("at", .int i), ("word", .str "word")] } ds h := q2
  have hl' : p.length < 16777216 := by omega
  simp [m_path_of_B1, Ss.d, S.d, E.d, E.t, Es.d, Es.len, f1, wNeg, wCmp, wLt]
  cases rm with
  | none =>
    simp [optD, dRaise, flW]
    exact q2' rfl _
  | some k =>
    have hk := hrm k rfl
    have hes : r.cs[k]? = some r.cs[k] := List.getElem?_eq_getElem hk
    generalize r.cs[k] = es at hes
    simp [optD]
    refine spPlace_i rok hes ?_
    cases hp : plc es c with
    | none =>
      have e1 : plcI es c = -1 := by unfold plcI; rw [hp]
      have e2 : wstep r.cs (some k) c = none := by simp [wstep, hes, hp]
      simp [e1, dRaise, flW]
      exact q2' e2 _
    | some j =>
      have e1 : plcI es c = (j : Int) := by unfold plcI; rw [hp]
      obtain ⟨e, he, hc⟩ := plc_some hp
      have e2 : wstep r.cs (some k) c = some (k, j, e.g) := by simp [wstep, hes, hp, he]
      have a1 := at_map (f := conD) hes
      have a2 := at_map (f := entD) he
      have nn : ¬ ((j : Int) < 0) := by omega
      have qq := q1 _ (some (.d (.int j))) e2
      simp [e1, nn, m_path_of_T2, Ss.d, S.d, E.d, Es.d, dApp, hl', sl24, rigD, wIx, seqW, lstW, tupW, a1, conD, a2, entD] at qq ⊢
      exact qq
theorem k_path_of {F : Fns} (f0 : F.f 0 = spLetters) (f1 : F.f 11 = spPlace) : Kp M F m_path_of 7 spPath := by
  intro xs h Q Z q0
  match xs, q0 with
  | [_, x], ⟨r, rfl, rok, wx, q1, q2⟩ =>
    have b1 := fun (En : DEnds) w1 w4 w5 w6 i c p rm => path_B1 (F := F) f1 (r := r) (w1 := w1) (w4 := w4) (w5 := w5) (w6 := w6) (i := i) (c := c) (p := p) (rm := rm) (h := h) (En := En) rok
    have q2' : ∀ n, dflt r.cs x = some n → Z { c := 0, fs := [("at", .int n), ("word", .str "word")] } h := q2
    unfold m_path_of m_path_of_T1
    generalize m_path_of_B1 = mb at b1 ⊢
    simp [Ss.d, S.d, E.d, E.t, Es.d, Es.len, startD, List.replicate_succ, f0, spLetters, wNeg, dRaise, flW, fin, Ic.d, sl24]
    refine ⟨wx, ?_⟩
    cases hx : isLets x with
    | false =>
      simp
      refine q2' (-1) ?_
      cases x <;> first | rfl | skip
      rename_i s
      have : lets s.cps.toList = false := hx
      show (if lets s.cps.toList = true then (wflt r.cs s.cps.toList).map Int.ofNat else some (-1)) = _
      rw [this] <;> rfl
    | true =>
      cases x <;> first | (cases hx; done) | skip
      rename_i s
      have hw : lets s.cps.toList = true := hx
      have hz := wx.s s rfl
      obtain ⟨w, rfl⟩ : ∃ w, s = chS w := ⟨s.cps.toList, (chS_self s).symm⟩
      rw [chS_cps] at hw
      have wl : w.length ≤ 1000 := by simpa [chS] using hz
      have dfl := dflt_ch (cs := r.cs) hw
      simp
      unfold dItES
      simp
      refine for_inv (fun i ds h' => h' = h ∧ i ≤ w.length ∧ ∃ p rm w4 w5 w6, wrun r.cs (w.take i) = some (p, rm) ∧ ds = [some (.d (rigD r)), some (.d (.str (chS w))), some (.own (p.map pairD)), some (.d (optD rm)), w4, w5, w6]) _ ?_ ?_ ?_
      · rintro i u ds h' En' hu ⟨rfl, hi, p, rm, w4, w5, w6, hr, rfl⟩ hrt hex hbk hnx hct
        obtain ⟨y, hy, rfl⟩ := enD_get hu
        rw [List.getElem?_map] at hy
        obtain ⟨c, hc, rfl⟩ := Option.map_eq_some_iff.mp hy
        have hin : i < w.length := (List.getElem?_eq_some_iff.mp hc).1
        obtain ⟨pl, po, pm⟩ := wrun_ok rok hr
        have wt := wrun_take (cs := r.cs) hc
        simp [Tgs.len]
        refine b1 _ _ w4 w5 _ _ _ _ _ pm (by rw [pl]; simp; omega) (fun x w6 hx => ?_) (fun hx ds => ?_)
        · refine hnx _ _ ⟨rfl, by omega, p ++ [(x.1, x.2.1)], x.2.2, some (.d (.int i)), some (.d (.str (chS [c]))), w6, ?_, by rw [List.map_append] <;> rfl⟩
          rw [wt, hr]; simp [wfold, hx]
        · rw [hex]
          refine q2' _ ?_
          rw [dfl, wflt_at hin hr (by rw [wt, hr]; simp [wfold, hx])] <;> rfl
      · exact ⟨rfl, by omega, [], some 0, _, _, _, rfl, rfl⟩
      · rintro ds h' ⟨rfl, hi, p, rm, w4, w5, w6, hr, rfl⟩
        rw [enD_len, List.length_map, List.take_length] at hr
        simp [m_path_of_T3, Ss.d, S.d, E.d, Es.d, dFrz, sl24]
        exact q1 w p rm rfl hw hr
end K
set_option maxHeartbeats 4000000
set_option exponentiation.threshold 256
namespace K
open PySem DL DP BM M17
def spBehind : FnD := fun xs h P _ => match xs with
  | [rg, sp, .int c, .int k] => ∃ (r : Rig) (s : Sp) (ci ki : Nat) (es : List Ent) (e : Ent), rg = rigD r ∧ r.ok ∧ sp = spD s ∧ s.ok ∧ s.d ≤ 890 ∧ c = ci ∧ k = ki ∧ r.cs[ci]? = some es ∧ es[ki]? = some e ∧ P (lostD (bhd r s (ci, ki))) h
  | _ => False
theorem spBehind_i {r : Rig} {s : Sp} {c k : Nat} {es : List Ent} {e : Ent} {h : Hs} {P : D → Hs → Prop} {Z : XD} (rok : r.ok) (sok : s.ok) (sd : s.d ≤ 890) (he : r.cs[c]? = some es) (hk : es[k]? = some e) (p : P (lostD (bhd r s (c, k))) h) : spBehind [rigD r, spD s, .int c, .int k] h P Z := ⟨r, s, c, k, es, e, rfl, rok, rfl, sok, sd, rfl, rfl, he, hk, p⟩
theorem k_span_behind {F : Fns} (f1 : F.f 1 = spBounds) (f2 : F.f 10 = spSettle) : Kp M F m_span_behind 10 spBehind := by
  intro xs h Q Z q0
  match xs, q0 with
  | [_, _, .int _, .int _], ⟨r, s, ci, ki, es, e, rfl, rok, rfl, sok, sd, rfl, rfl, hes, he, q⟩ =>
    have co := rok.con hes
    have cp := con_pos co
    have ba := bnds_at (fine := r.fine) (w := s.w) he
    have a1 := at_map (f := conD) hes
    have a2 := at_map (f := entD) he
    have le := pb_le_pe (fine := r.fine) (w := s.w) (i := ki) cp.1
    have pq : bhd r s (ci, ki) = (part r es s ki).map fun t => if e.g = none then t else (stl r.mn r.z t).s := by simp [bhd, hes, he]
    rw [pq] at q
    simp [m_span_behind, spD, Ss.d, S.d, E.d, E.t, Es.d, Es.len, startD, List.replicate_succ, f1, Tgs.len]
    refine spBounds_i rok hes ?_
    simp [wIx, seqW, lstW, tupW, ba, wCmp, wEq]
    unfold part at q
    by_cases g : pb r.fine es s.w ki = pe r.fine es s.w ki
    · rw [if_pos g] at q
      exact .inr ⟨by rw [g], q⟩
    · rw [if_neg g] at q
      refine .inl ⟨by omega, ?_⟩
      have tok : ∃ t, part r es s ki = some t ∧ t = ⟨s.l + pb r.fine es s.w ki, pe r.fine es s.w ki - pb r.fine es s.w ki, s.d⟩ := ⟨_, by unfold part; rw [if_neg g], rfl⟩
      obtain ⟨t, ht, te⟩ := tok
      obtain ⟨to, td⟩ := part_ok co sok ht
      have et : D.tup [.int ((s.l : Int) + pb r.fine es s.w ki), .int ((pe r.fine es s.w ki : Int) - pb r.fine es s.w ki), .int s.d] = spD t := by
        rw [te]; simp [spD]; omega
      rw [← te] at q
      simp [m_span_behind_T1, Ss.d, S.d, E.d, E.t, Es.d, Es.len, wBin, wInt, sl24, wIx, seqW, lstW, tupW, f2]
      rw [et]
      simp [rigD, a1, conD, a2, entD]
      cases hg : e.g with
      | none =>
        simp [hg] at q
        simp [optD]
        exact q
      | some k =>
        simp [hg] at q
        simp [optD]
        refine spSettle_i (r := r) rok.z0 rok.z1 to (by omega) ?_
        simp [stlD, wIx, seqW, lstW, tupW]
        exact q
def spWs : FnD := fun xs h P Z => match xs with
  | [rg, x, .lst pl] => ∃ (r : Rig) (w : List Nat) (p : Pth) (rm : Option Nat), rg = rigD r ∧ r.ok ∧ x = .str (chS w) ∧ wrun r.cs w = some (p, rm) ∧ pl = p.map pairD ∧ r.z + 2 * r.z * w.length ≤ 880 ∧ (∀ ss, srun r p = some ss → P (.lst (ss.map spD)) h) ∧ (∀ n, sflt r p = some n → Z (xnBr (chS (w.take (n + 1))) n) h)
  | _ => False
theorem k_written_spans {F : Fns} (f1 : F.f 13 = spBegun) (f2 : F.f 14 = spBehind) : Kp M F m_written_spans 8 spWs := by
  intro xs h Q Z q0
  match xs, q0 with
  | [_, _, .lst _], ⟨r, w, p, rm, rfl, rok, rfl, hr, rfl, wl, q1, q2⟩ =>
    obtain ⟨pl, po, pm⟩ := wrun_ok rok hr
    have w220 : w.length ≤ 220 := by
      have z0 := rok.z0
      have : 4 * w.length ≤ 2 * r.z * w.length := Nat.mul_le_mul_right _ (by omega)
      omega
    have q2' : ∀ n : Nat, sflt r p = some n → Z { c := 1, fs := [("at", .int n), ("word", .str (chS (w.take (n + 1))))] } h := q2
    simp [m_written_spans, Ss.d, S.d, E.d, E.t, Es.d, Es.len, startD, List.replicate_succ, f1, sl24, Ic.d]
    refine spBegun_i rok ?_
    unfold dItEL
    simp
    refine for_inv (fun i ds h' => h' = h ∧ i ≤ p.length ∧ ∃ ss w4 w5 w6 w7, srun r (p.take i) = some ss ∧ ds = [some (.d (rigD r)), some (.d (.str (chS w))), some (.d (.lst (p.map pairD))), some (.own (ss.map spD)), w4, w5, w6, w7]) _ ?_ ?_ ?_
    · rintro i u ds h' En' hu ⟨rfl, hi, ss, w4, w5, w6, w7, hs, rfl⟩ hrt hex hbk hnx hct
      obtain ⟨y, hy, rfl⟩ := enD_get hu
      rw [List.getElem?_map] at hy
      obtain ⟨x, hx, rfl⟩ := Option.map_eq_some_iff.mp hy
      have hin : i < p.length := (List.getElem?_eq_some_iff.mp hx).1
      obtain ⟨es, e, he1, he2⟩ := po x (List.mem_of_getElem? hx)
      have st := srun_take (r := r) hx
      obtain ⟨sl, sa⟩ := srun_invz rok (n := i) (by simp; omega) hs
      have dz : 2 * r.z * i ≤ 2 * r.z * w.length := Nat.mul_le_mul_left _ (by omega)
      obtain ⟨ss0, s, rfl⟩ : ∃ ss0 s, ss = ss0 ++ [s] := ⟨ss.dropLast, ss.getLast (by intro z; subst z; simp at sl), (List.dropLast_concat_getLast _).symm⟩
      obtain ⟨sok, sd⟩ := sa s (by simp)
      have al : L2.atI ((ss0 ++ [s]).map spD) (-1) = some (spD s) := by rw [List.map_append]; exact at_last
      have hll : (ss0 ++ [s]).length < 16777216 := by omega
      have wl2 : w.length ≤ 16777216 := by omega
      simp [Tgs.len, pairD, m_written_spans_B1, Ss.d, S.d, E.d, E.t, Es.d, Es.len, wNeg, wIx, seqW, lstW, tupW, f2, -List.map_append]
      refine ⟨_, al, spBehind_i rok sok (by omega) he1 he2 ?_⟩
      cases hb : bhd r s x with
      | none =>
        have e2 : srun r (p.take (i + 1)) = none := by rw [st, hs]; simp [sfold, hb]
        have hq := q2' i (sflt_at hin hs e2)
        have ei : ((i : Int) + 1) = ((i + 1 : Nat) : Int) := by omega
        simp [lostD, dRaise, flB, dSl, Oe.d, dNo, dPart, E.d, wBin, wInt, wSl, sl24, wl2, ei, cut_take, -Int.natCast_add]
        rw [hex]
        exact hq
      | some t =>
        have e2 : srun r (p.take (i + 1)) = some ((ss0 ++ [s]) ++ [t]) := by rw [st, hs]; simp [sfold, hb]
        simp [lostD, spD, m_written_spans_T1, Ss.d, S.d, E.d, dApp, sl24]
        refine ⟨by simp at hll; omega, hnx _ _ ⟨rfl, by omega, (ss0 ++ [s]) ++ [t], some (.d (.int i)), some (.d (.int x.1)), some (.d (.int x.2)), some (.d (spD t)), e2, by simp [spD]⟩⟩
    · exact ⟨rfl, by omega, [begunS r], _, _, _, _, rfl, rfl⟩
    · rintro ds h' ⟨rfl, hi, ss, w4, w5, w6, w7, hs, rfl⟩
      rw [enD_len, List.length_map, List.take_length] at hs
      simp [m_written_spans_T2, Ss.d, S.d, E.d, dFrz, fin]
      exact q1 ss hs
theorem spWs_j {r : Rig} {w : List Nat} {p : Pth} {rm : Option Nat} {h : Hs} {P : D → Hs → Prop} {Z : XD} (rok : r.ok) (hr : wrun r.cs w = some (p, rm)) (wl : r.z + 2 * r.z * w.length ≤ 880) (q1 : ∀ ss, srun r p = some ss → P (.lst (ss.map spD)) h) (q2 : ∀ n, sflt r p = some n → Z (xnBr (chS (w.take (n + 1))) n) h) :
    spWs [rigD r, .str (chS w), .lst (p.map pairD)] h P Z := ⟨r, w, p, rm, rfl, rok, rfl, hr, rfl, wl, q1, q2⟩
theorem fit40 {r : Rig} (rok : r.ok) {n : Nat} (h : n ≤ 40) : r.z + 2 * r.z * n ≤ 880 := by
  have z1 := rok.z1
  have a : 2 * r.z * n ≤ 2 * r.z * 40 := Nat.mul_le_mul_left _ h
  omega
theorem spWs_i {r : Rig} {w : List Nat} {p : Pth} {rm : Option Nat} {h : Hs} {P : D → Hs → Prop} {Z : XD} (rok : r.ok) (hr : wrun r.cs w = some (p, rm)) (wl : w.length ≤ 40) (q1 : ∀ ss, srun r p = some ss → P (.lst (ss.map spD)) h) (q2 : ∀ n, sflt r p = some n → Z (xnBr (chS (w.take (n + 1))) n) h) :
    spWs [rigD r, .str (chS w), .lst (p.map pairD)] h P Z := spWs_j rok hr (fit40 rok wl) q1 q2
end K
set_option maxHeartbeats 4000000
set_option exponentiation.threshold 256
namespace K
open PySem DL DP BM M17
def spKnown : FnD := fun xs h P _ => match xs with
  | [sp] => ∃ s : Sp, sp = spD s ∧ s.ok ∧ P (.int ((s.d - s.o : Nat) : Int)) h
  | _ => False
theorem spKnown_i {s : Sp} {h : Hs} {P : D → Hs → Prop} {Z : XD} (ok : s.ok) (p : P (.int ((s.d - s.o : Nat) : Int)) h) : spKnown [spD s] h P Z := ⟨s, rfl, ok, p⟩
theorem k_law_known {F : Fns} : Kp M F m_law_known 4 spKnown := by
  intro xs h Q Z q0
  match xs, q0 with
  | [_], ⟨s, rfl, ok, q⟩ =>
    have w0 := ok.w0
    have ol := o_le ok
    have e1 : ((s.l : Int) + s.w - 1) = ((s.l + s.w - 1 : Nat) : Int) := by omega
    have dv : ∀ x : Int, CDivA x 2 := fun x => .inl ⟨by decide, by decide⟩
    have oe : ∀ t, s.o ≤ t ↔ s.l / 2 ^ t = (s.l + s.w - 1) / 2 ^ t := fun t => od_le
    simp [m_law_known, Ss.d, S.d, E.d, E.t, Es.d, startD, List.replicate_succ, dPar3, stW, wBin, wInt]
    rw [e1]
    generalize s.l + s.w - 1 = hi at oe
    refine ⟨fun k ds h' => h' = h ∧ ∃ t : Nat, ds = [some (.d (spD s)), some (.d (.int ((s.l / 2 ^ t : Nat) : Int))), some (.d (.int ((hi / 2 ^ t : Nat) : Int))), some (.d (.int ((s.d - t : Nat) : Int)))] ∧ t + k = s.o, ⟨_, rfl, 0, by simp, Nat.zero_add _⟩, ?_⟩
    rintro k ds h' ⟨rfl, t, rfl, hk⟩
    have ot := oe t
    have p1 : s.l / 2 ^ (t + 1) = s.l / 2 ^ t / 2 := by rw [Nat.pow_succ, Nat.div_div_eq_div_mul]
    have p2 : hi / 2 ^ (t + 1) = hi / 2 ^ t / 2 := by rw [Nat.pow_succ, Nat.div_div_eq_div_mul]
    generalize hA : s.l / 2 ^ t = A at ot p1
    generalize hB : hi / 2 ^ t = B at ot p2
    simp [wCmp, wEq]
    by_cases g : A = B
    · have : t = s.o := by have := ot.mpr g; omega
      subst this
      subst g
      simp [m_law_known_T1, Ss.d, S.d, E.d, fin]
      exact q
    · have lt : t < s.o := by
        apply Nat.lt_of_not_le
        intro z; exact g (ot.mp z)
      have g2 : ¬ (A : Int) = B := by omega
      simp [g, g2, m_law_known_B1, Ss.d, S.d, E.d, dPar3, stW, wBin, wInt, dv]
      refine ⟨k - 1, by omega, t + 1, ⟨?_, ?_, by omega⟩, by omega⟩
      · exact_mod_cast p1.symm
      · exact_mod_cast p2.symm
def spMid : FnD := fun xs h P _ => match xs with
  | [sp] => ∃ s : Sp, sp = spD s ∧ s.ok ∧ s.d ≤ 8100 ∧ 2 ≤ s.w ∧ P (.tup [.int s.lf, .int s.rt]) h
  | _ => False
theorem spMid_i {s : Sp} {h : Hs} {P : D → Hs → Prop} {Z : XD} (ok : s.ok) (hd : s.d ≤ 8100) (w2 : 2 ≤ s.w) (p : P (.tup [.int s.lf, .int s.rt]) h) : spMid [spD s] h P Z := ⟨s, rfl, ok, hd, w2, p⟩
theorem k_law_middle {F : Fns} (f1 : F.f 27 = spKnown) (f2 : F.f 25 = spTwo) : Kp M F m_law_middle 3 spMid := by
  intro xs h Q Z q0
  match xs, q0 with
  | [_], ⟨s, rfl, ok, hd, w2, q⟩ =>
    have ol := o_le ok
    have op := o_pos w2
    have mf := m_form w2
    have mb := m_bd w2
    have hi := ok.hi
    simp [m_law_middle, Ss.d, S.d, E.d, Es.d, Es.len, startD, List.replicate_succ, f1, f2]
    refine spKnown_i ok ?_
    have e0 : ((s.d : Int) - ((s.d - s.o : Nat) : Int) - 1) = ((s.o - 1 : Nat) : Int) := by omega
    simp [wBin, wInt, -Int.natCast_sub]
    rw [e0]
    simp only [spTwo]
    refine ⟨by omega, by omega, ?_⟩
    rw [Int.toNat_natCast]
    have e2 : 2 ^ s.o = 2 * 2 ^ (s.o - 1) := by rw [Nat.mul_comm, ← Nat.pow_succ]; congr 1; omega
    have hb : 2 ^ (s.o - 1) < 2 ^ 8200 := Nat.pow_lt_pow_right (by decide) (by omega)
    have lb : s.l < 2 ^ 8200 := Nat.lt_of_le_of_lt (show s.l ≤ 2 ^ s.d by omega) (Nat.pow_lt_pow_right (by decide) (by omega))
    have e3 : (2 : Int) ^ (s.o - 1) = ((2 ^ (s.o - 1) : Nat) : Int) := by push_cast; rfl
    rw [e3]
    have hp := Nat.two_pow_pos (s.o - 1)
    rw [e2] at mf
    have hl1 : 2 * 2 ^ (s.o - 1) < 2 ^ 8300 := by
      rw [← e2]; exact Nat.pow_lt_pow_right (by decide) (by omega)
    generalize 2 ^ (s.o - 1) = H at mf hb hp hl1
    have c0 : CMulA 2 (H : Int) := .inl (.inl ⟨by decide, by decide⟩)
    have e4 : (2 : Int) * (H : Int) = ((2 * H : Nat) : Int) := by push_cast; rfl
    have d1 : CDivA (s.l : Int) ((2 * H : Nat) : Int) := .inr ⟨by omega, by
      rw [Int.natAbs_natCast]
      have := log2_lt hl1 (by decide)
      omega⟩
    have e5 : (s.l : Int) / ((2 * H : Nat) : Int) = ((s.l / (2 * H) : Nat) : Int) := by rw [Int.natCast_ediv]
    have c1 : ∀ x : Int, CMulA x 2 := fun x => .inl (.inr ⟨by decide, by decide⟩)
    have e6 : ((s.l / (2 * H) : Nat) : Int) * 2 = ((s.l / (2 * H) * 2 : Nat) : Int) := by push_cast; rfl
    have xb : s.l / (2 * H) * 2 < 2 ^ 8201 := by
      have := Nat.div_le_self s.l (2 * H)
      rw [show 8201 = 8200 + 1 from rfl, Nat.pow_succ]
      omega
    have c2 : CMulA ((s.l / (2 * H) * 2 : Nat) : Int) (H : Int) := cmulB xb hb (by decide) (by decide) (by decide)
    have e7 : ((s.l / (2 * H) * 2 : Nat) : Int) * (H : Int) + (H : Int) = (s.m : Nat) := by
      rw [mf]; push_cast; rw [Int.mul_assoc]
    have e8 : (0 : Int) < ((2 * H : Nat) : Int) := by omega
    simp [wBin, wInt, c0, sl24, -Int.natCast_mul, -Int.natCast_ediv]
    rw [e4]
    simp [wBin, wInt, d1, -Int.natCast_mul, -Int.natCast_ediv]
    rw [e5, e6, e7, show ((s.m : Int) - s.l) = (s.lf : Nat) by unfold Sp.lf; omega, show ((s.l : Int) + s.w - s.m) = (s.rt : Nat) by unfold Sp.rt; omega]
    exact ⟨c1 _, c2, q⟩
def spDoubled : FnD := fun xs h P _ => match xs with
  | [sp] => ∃ s : Sp, sp = spD s ∧ P (spD (s.dbl 1)) h
  | _ => False
theorem spDoubled_i {s : Sp} {h : Hs} {P : D → Hs → Prop} {Z : XD} (p : P (spD (s.dbl 1)) h) : spDoubled [spD s] h P Z := ⟨s, rfl, p⟩
theorem k_law_doubled {F : Fns} : Kp M F m_law_doubled 1 spDoubled := by
  intro xs h Q Z q0
  match xs, q0 with
  | [_], ⟨s, rfl, q⟩ =>
    have c1 : ∀ x : Int, CMulA 2 x := fun x => .inl (.inl ⟨by decide, by decide⟩)
    simp [m_law_doubled, Ss.d, S.d, E.d, Es.d, startD, wBin, wInt, c1, sl24, fin]
    have : spD (s.dbl 1) = .tup [.int (2 * s.l), .int (2 * s.w), .int (s.d + 1)] := by simp [spD, Sp.dbl]; omega
    rw [this] at q
    exact q
def spPlainL : FnD := fun xs h P _ => match xs with
  | [rg, sp] => ∃ (r : Rig) (s : Sp), rg = rigD r ∧ sp = spD s ∧ s.ok ∧ P (spD (s.dbl (plnT s r.z))) h
  | _ => False
theorem spPlainL_i {r : Rig} {s : Sp} {h : Hs} {P : D → Hs → Prop} {Z : XD} (ok : s.ok) (p : P (spD (s.dbl (plnT s r.z))) h) : spPlainL [rigD r, spD s] h P Z := ⟨r, s, rfl, rfl, ok, p⟩
theorem k_law_plain {F : Fns} (f1 : F.f 27 = spKnown) (f2 : F.f 29 = spDoubled) : Kp M F m_law_plain 2 spPlainL := by
  intro xs h Q Z q0
  match xs, q0 with
  | [_, _], ⟨r, s, rfl, rfl, ok, q⟩ =>
    simp [m_law_plain, Ss.d, S.d, E.d, E.t, Es.d, Es.len, startD, f1]
    refine ⟨fun k ds h' => h' = h ∧ ∃ t : Nat, ds = [some (.d (rigD r)), some (.d (spD (s.dbl t)))] ∧ t + k = plnT s r.z, ⟨_, rfl, 0, by rw [dbl0], Nat.zero_add _⟩, ?_⟩
    rintro k ds h' ⟨rfl, t, rfl, hk⟩
    have dok := ok.dbl t
    have dol := o_le dok
    have od := o_dbl (s := s) (t := t) ok.w0
    simp
    refine spKnown_i dok ?_
    simp [wBin, wInt, wCmp, wLt, -Int.natCast_sub]
    have e0 : (((s.dbl t).d : Nat) : Int) - (((s.dbl t).d - (s.dbl t).o : Nat) : Int) = ((s.o + t : Nat) : Int) := by omega
    rw [e0]
    by_cases g : s.o + t < r.z
    · first | rw [if_pos (by first | exact g | omega | exact_mod_cast g | (push_cast; omega) | simpa using g)] | rw [if_neg (by first | exact g | omega | exact_mod_cast g | (push_cast; omega) | simpa using g)] | refine Or.inl ⟨(by first | exact g | omega | exact_mod_cast g | (push_cast; omega) | simpa using g), ?_⟩ | refine Or.inr ⟨(by first | exact g | omega | exact_mod_cast g | (push_cast; omega) | simpa using g), ?_⟩
      simp [m_law_plain_B1, Ss.d, S.d, E.d, Es.d, Es.len, f2]
      refine spDoubled_i ?_
      refine ⟨k - 1, by unfold plnT at hk; omega, rfl, t + 1, ?_, by unfold plnT at hk ⊢; omega⟩
      rw [dbl_dbl]
    · first | rw [if_pos (by first | exact g | omega | exact_mod_cast g | (push_cast; omega) | simpa using g)] | rw [if_neg (by first | exact g | omega | exact_mod_cast g | (push_cast; omega) | simpa using g)] | refine Or.inl ⟨(by first | exact g | omega | exact_mod_cast g | (push_cast; omega) | simpa using g), ?_⟩ | refine Or.inr ⟨(by first | exact g | omega | exact_mod_cast g | (push_cast; omega) | simpa using g), ?_⟩
      have : t = plnT s r.z := by unfold plnT at hk ⊢; omega
      subst this
      simp [m_law_plain_T1, Ss.d, S.d, E.d, fin]
      exact q
def spLSettled : FnD := fun xs h P _ => match xs with
  | [rg, sp] => ∃ (r : Rig) (s : Sp), rg = rigD r ∧ sp = spD s ∧ 2 ≤ r.z ∧ r.z ≤ 5 ∧ s.ok ∧ s.d ≤ 8010 ∧ P (.tup [spD (stl r.mn r.z s).s, lostD (stl r.mn r.z s).x]) h
  | _ => False
theorem spLSettled_i {r : Rig} {s : Sp} {h : Hs} {P : D → Hs → Prop} {Z : XD} (z0 : 2 ≤ r.z) (z1 : r.z ≤ 5) (ok : s.ok) (hd : s.d ≤ 8010) (p : P (.tup [spD (stl r.mn r.z s).s, lostD (stl r.mn r.z s).x]) h) : spLSettled [rigD r, spD s] h P Z := ⟨r, s, rfl, rfl, z0, z1, ok, hd, p⟩
theorem late_cond {w z t : Nat} (hz : 2 ≤ z) : w * 2 ^ t * 2 ≤ 2 ^ z ↔ w * 2 ^ t ≤ 2 ^ (z - 1) := by
  have : 2 ^ z = 2 ^ (z - 1) * 2 := by rw [← Nat.pow_succ]; congr 1; omega
  rw [this]; omega
theorem pend_cond {w z t : Nat} (hz : 2 ≤ z) : w * 2 ^ t * 4 ≤ 2 ^ z ↔ w * 2 ^ t ≤ 2 ^ (z - 2) := by
  have : 2 ^ z = 2 ^ (z - 2) * 4 := by
    rw [show (4 : Nat) = 2 ^ 2 from rfl, ← Nat.pow_add]; congr 1; omega
  rw [this]; omega
theorem four_le {w z : Nat} (hz : 2 ≤ z) : 2 ^ z < w * 4 ↔ 2 ^ (z - 2) < w := by
  have := pend_cond (w := w) (t := 0) hz
  simp at this
  omega
theorem settled_T3 {F : Fns} (f1 : F.f 28 = spMid) (f2 : F.f 30 = spPlainL) {r : Rig} {f : Sp} {h : Hs} {Q : D → Hs → Prop} {Z : XD} (z0 : 2 ≤ r.z) (ok : f.ok) (hd : f.d ≤ 8100) (w2 : 2 ≤ f.w)
    (q : Q (if r.mn = .cut then .tup [spD ((cutSp f r.z).1.dbl (plnT (cutSp f r.z).1 r.z)), lostD (cutSp f r.z).2] else .tup [spD f, .non]) h) (fo : r.mn = .cut → r.z ≤ f.o) :
    m_law_settled_T3.d M F [some (.d (rigD r)), some (.d (spD f)), some (.d (.int ((2 ^ r.z : Nat) : Int))), none, none, none, none] h (fin Q Z) := by
  have a := lf_pos w2
  have b := rt_pos w2
  have c := lf_rt w2
  have c4 : CMulA (f.w : Int) 4 := .inl (.inr ⟨by decide, by decide⟩)
  have fl := four_le (w := f.w) z0
  have mb := m_bd w2
  simp [m_law_settled_T3, Ss.d, S.d, E.d, E.t, Es.d, Es.len, wCmp, wEq, wLt, s_cut, wBin, wInt, c4, sl24]
  by_cases e : r.mn = .cut
  · rw [if_pos e] at q
    first | rw [if_pos (by first | exact e | omega | exact_mod_cast e | (push_cast; omega) | simpa using e)] | rw [if_neg (by first | exact e | omega | exact_mod_cast e | (push_cast; omega) | simpa using e)] | refine Or.inl ⟨(by first | exact e | omega | exact_mod_cast e | (push_cast; omega) | simpa using e), ?_⟩ | refine Or.inr ⟨(by first | exact e | omega | exact_mod_cast e | (push_cast; omega) | simpa using e), ?_⟩
    by_cases g : 2 ^ r.z < f.w * 4
    · first | rw [if_pos (by first | exact g | omega | exact_mod_cast g | (push_cast; omega) | simpa using g)] | rw [if_neg (by first | exact g | omega | exact_mod_cast g | (push_cast; omega) | simpa using g)] | refine Or.inl ⟨(by first | exact g | omega | exact_mod_cast g | (push_cast; omega) | simpa using g), ?_⟩ | refine Or.inr ⟨(by first | exact g | omega | exact_mod_cast g | (push_cast; omega) | simpa using g), ?_⟩
      have ec : cutSp f r.z = (f, none) := by unfold cutSp; rw [if_pos (fl.mp g)]
      rw [ec] at q
      rw [plain_zero (fo e), dbl0] at q
      exact q
    · have g' : f.w * 4 ≤ 2 ^ r.z := by omega
      first | rw [if_pos (by first | exact g | omega | exact_mod_cast g | (push_cast; omega) | simpa using g)] | rw [if_neg (by first | exact g | omega | exact_mod_cast g | (push_cast; omega) | simpa using g)] | refine Or.inl ⟨(by first | exact g | omega | exact_mod_cast g | (push_cast; omega) | simpa using g), ?_⟩ | refine Or.inr ⟨(by first | exact g | omega | exact_mod_cast g | (push_cast; omega) | simpa using g), ?_⟩
      simp [m_law_settled_T4, Ss.d, S.d, E.d, E.t, Es.d, Es.len, f1, f2, dPar2, stW, wBin, wInt, wCmp, wLt, Tgs.len, sl24]
      refine spMid_i ok (by omega) w2 ?_
      unfold cutSp at q
      rw [if_neg (by omega)] at q
      simp [Tgs.len]
      by_cases g2 : f.rt ≤ f.lf
      · rw [if_pos g2] at q
        first | rw [if_pos (by first | exact g2 | omega | exact_mod_cast g2 | (push_cast; omega) | simpa using g2)] | rw [if_neg (by first | exact g2 | omega | exact_mod_cast g2 | (push_cast; omega) | simpa using g2)] | refine Or.inl ⟨(by first | exact g2 | omega | exact_mod_cast g2 | (push_cast; omega) | simpa using g2), ?_⟩ | refine Or.inr ⟨(by first | exact g2 | omega | exact_mod_cast g2 | (push_cast; omega) | simpa using g2), ?_⟩
        exact spPlainL_i (r := r) (s := ⟨f.l, f.lf, f.d⟩) (ok.sub a rfl (by show f.l + f.lf ≤ _; omega)) q
      · rw [if_neg g2] at q
        first | rw [if_pos (by first | exact g2 | omega | exact_mod_cast g2 | (push_cast; omega) | simpa using g2)] | rw [if_neg (by first | exact g2 | omega | exact_mod_cast g2 | (push_cast; omega) | simpa using g2)] | refine Or.inl ⟨(by first | exact g2 | omega | exact_mod_cast g2 | (push_cast; omega) | simpa using g2), ?_⟩ | refine Or.inr ⟨(by first | exact g2 | omega | exact_mod_cast g2 | (push_cast; omega) | simpa using g2), ?_⟩
        simp [m_law_settled_T5, Ss.d, S.d, E.d, Es.d, Es.len, f2, sl24]
        exact spPlainL_i (r := r) (s := ⟨f.l + f.lf, f.rt, f.d⟩) (ok.sub b rfl (by show f.l + f.lf + f.rt ≤ _; omega)) q
  · rw [if_neg e] at q
    first | rw [if_pos (by first | exact e | omega | exact_mod_cast e | (push_cast; omega) | simpa using e)] | rw [if_neg (by first | exact e | omega | exact_mod_cast e | (push_cast; omega) | simpa using e)] | refine Or.inl ⟨(by first | exact e | omega | exact_mod_cast e | (push_cast; omega) | simpa using e), ?_⟩ | refine Or.inr ⟨(by first | exact e | omega | exact_mod_cast e | (push_cast; omega) | simpa using e), ?_⟩
    exact q
theorem settled_T2 {F : Fns} (f1 : F.f 28 = spMid) (f2 : F.f 30 = spPlainL) (f3 : F.f 29 = spDoubled) {r : Rig} {s : Sp} {h : Hs} {Q : D → Hs → Prop} {Z : XD} (z0 : 2 ≤ r.z) (z1 : r.z ≤ 5) (ok : s.ok) (hd : s.d ≤ 8010) (hn : r.mn ≠ .late)
    (q : Q (.tup [spD (stl r.mn r.z s).s, lostD (stl r.mn r.z s).x]) h) :
    m_law_settled_T2.d M F [some (.d (rigD r)), some (.d (spD s)), some (.d (.int ((2 ^ r.z : Nat) : Int))), none, none, none, none] h (fin Q Z) := by
  have pw := plain_w (s := s) (z := r.z) z0 ok.w0
  have po := plain_o (s := s) (z := r.z) ok.w0
  have pz : plnT s r.z ≤ 5 := by unfold plnT; omega
  have dok := ok.dbl (plnT s r.z)
  have dd : (s.dbl (plnT s r.z)).d ≤ 8015 := by show s.d + _ ≤ _; omega
  have t3 := fun f => settled_T3 (F := F) f1 f2 (r := r) (f := f) (h := h) (Q := Q) (Z := Z) z0
  unfold m_law_settled_T2
  generalize m_law_settled_T3 = m3 at t3 ⊢
  simp [Ss.d, S.d, E.d, E.t, Es.d, Es.len, f1, f2, wCmp, wEq, s_pending]
  refine spPlainL_i ok ?_
  unfold stl at q
  by_cases e : r.mn = .pending
  · first | rw [if_pos (by first | exact e | omega | exact_mod_cast e | (push_cast; omega) | simpa using e)] | rw [if_neg (by first | exact e | omega | exact_mod_cast e | (push_cast; omega) | simpa using e)] | refine Or.inl ⟨(by first | exact e | omega | exact_mod_cast e | (push_cast; omega) | simpa using e), ?_⟩ | refine Or.inr ⟨(by first | exact e | omega | exact_mod_cast e | (push_cast; omega) | simpa using e), ?_⟩
    rw [if_neg (by rw [e]; decide)] at q
    have eq0 : timesT r.mn s r.z = plnT s r.z + tms (mxs (s.dbl (plnT s r.z))) (r.z - 2) := by rw [e] <;> rfl
    rw [eq0, ← dbl_dbl] at q
    have hm := mxs_pos pw
    have le := tms_le (w := mxs (s.dbl (plnT s r.z))) (e := r.z - 2)
    generalize s.dbl (plnT s r.z) = p at pw po dok dd q hm le
    refine ⟨fun k ds h' => h' = h ∧ ∃ t : Nat, ds = [some (.d (rigD r)), some (.d (spD (p.dbl t))), some (.d (.int ((2 ^ r.z : Nat) : Int))), none, none, none, none] ∧ t + k = tms (mxs p) (r.z - 2), ⟨_, rfl, 0, by rw [dbl0]; simp, Nat.zero_add _⟩, ?_⟩
    rintro k ds h' ⟨rfl, t, rfl, hk⟩
    have tok := dok.dbl t
    have td : (p.dbl t).d ≤ 8100 := by show p.d + t ≤ 8100; omega
    have tw : 2 ≤ (p.dbl t).w := Nat.le_trans pw (Nat.le_mul_of_pos_right _ (Nat.two_pow_pos t))
    have mx := mxs_dbl (s := p) (t := t) pw
    have emx : max ((p.dbl t).lf : Int) ((p.dbl t).rt : Int) = (mxs (p.dbl t) : Nat) := by unfold mxs; omega
    have pc := pend_cond (w := mxs p) (z := r.z) (t := t) z0
    rw [← mx] at pc
    have c1 : CMulA ((mxs (p.dbl t) : Nat) : Int) 4 := .inl (.inr ⟨by decide, by decide⟩)
    simp [f1, wCmp, wLt]
    refine spMid_i tok td tw ?_
    simp [wB1, wList, seqW, lstW, tupW]
    refine wMx2 rfl ?_
    rw [emx]
    simp [wBin, wInt, c1]
    by_cases ht : t < tms (mxs p) (r.z - 2)
    · have := tms_lo ht
      rw [← mx] at this
      have g := pc.mpr this
      first | rw [if_pos (by first | exact g | omega | exact_mod_cast g | (push_cast; omega) | simpa using g)] | rw [if_neg (by first | exact g | omega | exact_mod_cast g | (push_cast; omega) | simpa using g)] | refine Or.inl ⟨(by first | exact g | omega | exact_mod_cast g | (push_cast; omega) | simpa using g), ?_⟩ | refine Or.inr ⟨(by first | exact g | omega | exact_mod_cast g | (push_cast; omega) | simpa using g), ?_⟩
      simp [m_law_settled_B2, Ss.d, S.d, E.d, Es.d, Es.len, f3]
      refine spDoubled_i ?_
      refine ⟨k - 1, by omega, rfl, t + 1, ?_, by omega⟩
      rw [dbl_dbl]
    · have e2 : t = tms (mxs p) (r.z - 2) := by omega
      have := tms_hi hm (e := r.z - 2)
      rw [← e2, ← mx] at this
      have g : ¬ mxs (p.dbl t) * 4 ≤ 2 ^ r.z := fun z => by have := pc.mp z; omega
      first | rw [if_pos (by first | exact g | omega | exact_mod_cast g | (push_cast; omega) | simpa using g)] | rw [if_neg (by first | exact g | omega | exact_mod_cast g | (push_cast; omega) | simpa using g)] | refine Or.inl ⟨(by first | exact g | omega | exact_mod_cast g | (push_cast; omega) | simpa using g), ?_⟩ | refine Or.inr ⟨(by first | exact g | omega | exact_mod_cast g | (push_cast; omega) | simpa using g), ?_⟩
      subst e2
      have := t3 (p.dbl (tms (mxs p) (r.z - 2))) tok td tw (by rw [if_neg (by rw [e]; decide)]; exact q) (fun z => by rw [e] at z; cases z)
      simpa using this
  · first | rw [if_pos (by first | exact e | omega | exact_mod_cast e | (push_cast; omega) | simpa using e)] | rw [if_neg (by first | exact e | omega | exact_mod_cast e | (push_cast; omega) | simpa using e)] | refine Or.inl ⟨(by first | exact e | omega | exact_mod_cast e | (push_cast; omega) | simpa using e), ?_⟩ | refine Or.inr ⟨(by first | exact e | omega | exact_mod_cast e | (push_cast; omega) | simpa using e), ?_⟩
    have et : timesT r.mn s r.z = plnT s r.z := by cases hm : r.mn <;> simp_all <;> rfl
    rw [et] at q
    have := t3 (s.dbl (plnT s r.z)) dok (by omega) pw (by
      by_cases ec : r.mn = .cut
      · rw [if_pos ec] at q ⊢; exact q
      · rw [if_neg ec] at q ⊢; exact q) (fun _ => po)
    simpa using this
theorem k_law_settled {F : Fns} (f0 : F.f 25 = spTwo) (f1 : F.f 28 = spMid) (f2 : F.f 30 = spPlainL) (f3 : F.f 29 = spDoubled) : Kp M F m_law_settled 7 spLSettled := by
  intro xs h Q Z q0
  match xs, q0 with
  | [_, _], ⟨r, s, rfl, rfl, z0, z1, ok, hd, q⟩ =>
    have t2 := fun hn => settled_T2 (F := F) f1 f2 f3 (r := r) (s := s) (h := h) (Q := Q) (Z := Z) z0 z1 ok hd hn q
    have w1 := ok.w0
    unfold m_law_settled
    generalize m_law_settled_T2 = m2 at t2 ⊢
    simp [Ss.d, S.d, E.d, E.t, Es.d, Es.len, startD, List.replicate_succ, f0, spTwo, wCmp, wEq, s_late]
    refine ⟨by omega, ?_⟩
    by_cases e : r.mn = .late
    · first | rw [if_pos (by first | exact e | omega | exact_mod_cast e | (push_cast; omega) | simpa using e)] | rw [if_neg (by first | exact e | omega | exact_mod_cast e | (push_cast; omega) | simpa using e)] | refine Or.inl ⟨(by first | exact e | omega | exact_mod_cast e | (push_cast; omega) | simpa using e), ?_⟩ | refine Or.inr ⟨(by first | exact e | omega | exact_mod_cast e | (push_cast; omega) | simpa using e), ?_⟩
      unfold stl at q
      rw [if_neg (by rw [e]; decide)] at q
      have et : timesT r.mn s r.z = tms s.w (r.z - 1) := by rw [e] <;> rfl
      rw [et] at q
      refine ⟨fun k ds h' => h' = h ∧ ∃ t : Nat, ds = [some (.d (rigD r)), some (.d (spD (s.dbl t))), some (.d (.int ((2 ^ r.z : Nat) : Int))), none, none, none, none] ∧ t + k = tms s.w (r.z - 1), ⟨_, rfl, 0, by rw [dbl0]; simp, Nat.zero_add _⟩, ?_⟩
      rintro k ds h' ⟨rfl, t, rfl, hk⟩
      have pc := late_cond (w := s.w) (z := r.z) (t := t) z0
      have ew : (s.dbl t).w = s.w * 2 ^ t := rfl
      rw [← ew] at pc
      have c1 : CMulA (((s.dbl t).w : Nat) : Int) 2 := .inl (.inr ⟨by decide, by decide⟩)
      simp [wCmp, wLt, wBin, wInt, c1]
      by_cases ht : t < tms s.w (r.z - 1)
      · have := tms_lo ht
        rw [← ew] at this
        have g := pc.mpr this
        first | rw [if_pos (by first | exact g | omega | exact_mod_cast g | (push_cast; omega) | simpa using g)] | rw [if_neg (by first | exact g | omega | exact_mod_cast g | (push_cast; omega) | simpa using g)] | refine Or.inl ⟨(by first | exact g | omega | exact_mod_cast g | (push_cast; omega) | simpa using g), ?_⟩ | refine Or.inr ⟨(by first | exact g | omega | exact_mod_cast g | (push_cast; omega) | simpa using g), ?_⟩
        simp [m_law_settled_B1, Ss.d, S.d, E.d, Es.d, Es.len, f3]
        refine spDoubled_i ?_
        refine ⟨k - 1, by omega, rfl, t + 1, ?_, by omega⟩
        rw [dbl_dbl]
      · have e2 : t = tms s.w (r.z - 1) := by omega
        have := tms_hi w1 (e := r.z - 1)
        rw [← e2, ← ew] at this
        have g : ¬ (s.dbl t).w * 2 ≤ 2 ^ r.z := fun z => by have := pc.mp z; omega
        first | rw [if_pos (by first | exact g | omega | exact_mod_cast g | (push_cast; omega) | simpa using g)] | rw [if_neg (by first | exact g | omega | exact_mod_cast g | (push_cast; omega) | simpa using g)] | refine Or.inl ⟨(by first | exact g | omega | exact_mod_cast g | (push_cast; omega) | simpa using g), ?_⟩ | refine Or.inr ⟨(by first | exact g | omega | exact_mod_cast g | (push_cast; omega) | simpa using g), ?_⟩
        subst e2
        simp [m_law_settled_T1, Ss.d, S.d, E.d, Es.d, sl24, fin]
        exact q
    · first | rw [if_pos (by first | exact e | omega | exact_mod_cast e | (push_cast; omega) | simpa using e)] | rw [if_neg (by first | exact e | omega | exact_mod_cast e | (push_cast; omega) | simpa using e)] | refine Or.inl ⟨(by first | exact e | omega | exact_mod_cast e | (push_cast; omega) | simpa using e), ?_⟩ | refine Or.inr ⟨(by first | exact e | omega | exact_mod_cast e | (push_cast; omega) | simpa using e), ?_⟩
      have := t2 e
      simpa using this
end K
set_option maxHeartbeats 4000000
set_option exponentiation.threshold 256
namespace K
open PySem DL DP BM M17
def spLParts : FnD := fun xs h P _ => match xs with
  | [rg, en, .int w] => ∃ (r : Rig) (es : List Ent) (wn m : Nat), rg = rigD r ∧ en = conD es ∧ conOk m es ∧ w = wn ∧ P (.lst (cellsD r.fine es wn)) h
  | _ => False
theorem spLParts_i {r : Rig} {es : List Ent} {w m : Nat} {h : Hs} {P : D → Hs → Prop} {Z : XD} (co : conOk m es) (p : P (.lst (cellsD r.fine es w)) h) : spLParts [rigD r, conD es, .int w] h P Z := ⟨r, es, w, m, rfl, rfl, co, rfl, p⟩
/-- cells so far -/
def celD (fine : Bool) (es : List Ent) (w i : Nat) : List D := (List.range i).map fun i => .tup [.int (pb fine es w i), .int ((pe fine es w i : Nat) - (pb fine es w i : Nat) : Nat)]
theorem celD_succ {fine : Bool} {es : List Ent} {w i : Nat} : celD fine es w (i + 1) = celD fine es w i ++ [.tup [.int (pb fine es w i), .int ((pe fine es w i : Nat) - (pb fine es w i : Nat) : Nat)]] := by simp [celD, List.range_succ]
theorem k_law_parts {F : Fns} : Kp M F m_law_parts 12 spLParts := by
  intro xs h Q Z q0
  match xs, q0 with
  | [_, _, .int _], ⟨r, es, w, m, rfl, rfl, co, rfl, q⟩ =>
    have cp := con_pos co
    have cl := co.l1
    have c2 := co.l0
    simp [m_law_parts, Ss.d, S.d, E.d, E.t, Es.d, Ic.d, dItR1, startD, List.replicate_succ, dPar3, stW, sl24]
    unfold dLc
    simp [Ic.d, dItT, E.d, conD, -List.map_map]
    refine lc_map cntD (es.map entD) [] (fun e hx Kp kp => ?_) (by rw [sl24]; simp; omega) ?_
    · obtain ⟨e, he, rfl⟩ := List.mem_map.mp hx
      simp [wipeD]
      simpa [cnt_ent] using kp
    simp only [List.nil_append]
    rw [map_cnt]
    refine ⟨es.map fun e => (e.n : Int), rfl, ?_⟩
    rw [sum_cast]
    simp
    repeat (with_reducible refine And.intro ?_ ?_; focus (first | assumption | exact Int.natCast_nonneg _ | omega | decide | (norm_cast; done) | (exact_mod_cast (by assumption))))
    refine for_inv (fun i ds h' => h' = h ∧ i ≤ es.length ∧ ∃ w6 w7 w8 w9 w10 w11, ds = [some (.d (rigD r)), some (.d (.tup (es.map entD))), some (.d (.int w)), some (.d (.int (tot es : Nat))), some (.d (.int (ahd es i : Nat))), some (.own (celD r.fine es w i)), w6, w7, w8, w9, w10, w11]) (rngD 0 es.length) ?_ ?_ ?_
    · rintro i u ds h' En' hu ⟨rfl, hi, w6, w7, w8, w9, w10, w11, rfl⟩ hrt hex hbk hnx hct
      obtain ⟨rfl, hin⟩ := rng_get hu
      have he : es[i]? = some es[i] := List.getElem?_eq_getElem hin
      generalize es[i] = e at he
      have a1 := at_map (f := entD) he
      have eo := co.ok e (List.mem_of_getElem? he)
      have hs := ahd_succ he
      have ha := ahd_le (es := es) (i := i)
      have ha2 := ahd_le (es := es) (i := i + 1)
      have hnx' := fun w6 w7 w8 w9 w10 w11 ds' hd => hnx ds' h' ⟨rfl, by omega, w6, w7, w8, w9, w10, w11, hd⟩
      rw [celD_succ] at hnx'
      have le := pb_le_pe (fine := r.fine) (w := w) (i := i) cp.1
      have cA : ∀ x : Int, CMulA x ((ahd es i : Nat) : Int) := fun x => .inl (.inr ⟨by omega, by omega⟩)
      have cB : ∀ x : Int, CMulA x (((ahd es i : Nat) : Int) + (e.n : Int)) := fun x => .inl (.inr ⟨by have := eo.n1; omega, by have := eo.n1; omega⟩)
      have dv : ∀ x : Int, CDivA x ((tot es : Nat) : Int) := fun x => .inl ⟨by omega, by omega⟩
      have f1 : (w : Int) * ((ahd es i : Nat) : Int) / ((tot es : Nat) : Int) = ((w * ahd es i / tot es : Nat) : Int) := by push_cast; rfl
      have f2 : (w : Int) * (((ahd es i : Nat) : Int) + (e.n : Int)) / ((tot es : Nat) : Int) = ((w * ahd es (i + 1) / tot es : Nat) : Int) := by rw [hs]; push_cast; rfl
      have g1 : (w : Int) / ((tot es : Nat) : Int) * ((ahd es i : Nat) : Int) = ((w / tot es * ahd es i : Nat) : Int) := by push_cast; rfl
      have g2 : (w : Int) / ((tot es : Nat) : Int) * (((ahd es i : Nat) : Int) + (e.n : Int)) = ((w / tot es * ahd es (i + 1) : Nat) : Int) := by rw [hs]; push_cast; rfl
      have hll : i < 16777216 := by omega
      have es2 : ((ahd es i : Nat) : Int) + (e.n : Int) = ((ahd es (i + 1) : Nat) : Int) := by rw [hs]; push_cast; rfl
      simp [m_law_parts_B1, Ss.d, S.d, E.d, E.t, Es.d, a1, wBin, wInt, cA, cB, dv, cp.1, wCmp, wEq, wLt, div_coarse, dPar2, stW, -Int.natCast_ediv]
      rw [f1, f2, g1, g2]
      have t1 : ∀ (b e' : Nat) w10 w11, b = pb r.fine es w i → e' = pe r.fine es w i → m_law_parts_T1.d M F [some (.d (rigD r)), some (.d (.tup (es.map entD))), some (.d (.int w)), some (.d (.int (tot es : Nat))), some (.d (.int (ahd es i : Nat))), some (.own (celD r.fine es w i)), some (.d (.int i)), some (.d (.int e.n)), some (.d (.int b)), some (.d (.int e')), w10, w11] h' En' := by
        intro b e' w10 w11 hb he'
        subst hb he'
        have e3 : ((pe r.fine es w i : Nat) : Int) - ((pb r.fine es w i : Nat) : Int) = ((pe r.fine es w i - pb r.fine es w i : Nat) : Int) := by omega
        have cl' : (celD r.fine es w i).length < 16777216 := by simp [celD]; omega
        simp [m_law_parts_T1, Ss.d, S.d, E.d, Es.d, dApp, wBin, wInt, sl24, cl', -Int.natCast_sub]
        rw [e3, es2]
        exact hnx' _ _ _ _ _ _ _ rfl
      by_cases hf : r.fine = true
      · first | rw [if_pos (by first | exact hf | omega | exact_mod_cast hf | (push_cast; omega) | simpa using hf)] | rw [if_neg (by first | exact hf | omega | exact_mod_cast hf | (push_cast; omega) | simpa using hf)] | refine Or.inl ⟨(by first | exact hf | omega | exact_mod_cast hf | (push_cast; omega) | simpa using hf), ?_⟩ | refine Or.inr ⟨(by first | exact hf | omega | exact_mod_cast hf | (push_cast; omega) | simpa using hf), ?_⟩
        refine t1 _ _ _ _ ?_ ?_
        · unfold pb bg; rw [if_pos hf]
        · rw [hf, pe_fine cp.1 hin]; unfold bg; rw [if_pos rfl]
      · first | rw [if_pos (by first | exact hf | omega | exact_mod_cast hf | (push_cast; omega) | simpa using hf)] | rw [if_neg (by first | exact hf | omega | exact_mod_cast hf | (push_cast; omega) | simpa using hf)] | refine Or.inl ⟨(by first | exact hf | omega | exact_mod_cast hf | (push_cast; omega) | simpa using hf), ?_⟩ | refine Or.inr ⟨(by first | exact hf | omega | exact_mod_cast hf | (push_cast; omega) | simpa using hf), ?_⟩
        have hf' : r.fine = false := by simpa using hf
        by_cases hl : i + 1 = es.length
        · have g : ¬ (i : Int) < (es.length : Int) - 1 := by omega
          first | rw [if_pos (by first | exact g | omega | exact_mod_cast g | (push_cast; omega) | simpa using g)] | rw [if_neg (by first | exact g | omega | exact_mod_cast g | (push_cast; omega) | simpa using g)] | refine Or.inl ⟨(by first | exact g | omega | exact_mod_cast g | (push_cast; omega) | simpa using g), ?_⟩ | refine Or.inr ⟨(by first | exact g | omega | exact_mod_cast g | (push_cast; omega) | simpa using g), ?_⟩
          refine t1 _ _ _ _ ?_ ?_
          · unfold pb bg; rw [if_neg hf]
          · unfold pe; rw [if_pos hl]
        · have g : (i : Int) < (es.length : Int) - 1 := by omega
          first | rw [if_pos (by first | exact g | omega | exact_mod_cast g | (push_cast; omega) | simpa using g)] | rw [if_neg (by first | exact g | omega | exact_mod_cast g | (push_cast; omega) | simpa using g)] | refine Or.inl ⟨(by first | exact g | omega | exact_mod_cast g | (push_cast; omega) | simpa using g), ?_⟩ | refine Or.inr ⟨(by first | exact g | omega | exact_mod_cast g | (push_cast; omega) | simpa using g), ?_⟩
          refine t1 _ _ _ _ ?_ ?_
          · unfold pb bg; rw [if_neg hf]
          · unfold pe bg; rw [if_neg hl, if_neg hf]
    · exact ⟨rfl, by omega, none, none, none, none, none, none, by simp [celD, ahd_zero]⟩
    · rintro ds h' ⟨rfl, hi, w6, w7, w8, w9, w10, w11, rfl⟩
      simp [m_law_parts_T2, Ss.d, S.d, E.d, dFrz, fin]
      exact q
end K
set_option maxHeartbeats 4000000
set_option exponentiation.threshold 256
namespace K
open PySem DL DP BM M17
def spLPlace : FnD := fun xs h P _ => match xs with
  | [rg, rm, .str s] => ∃ (r : Rig) (o : Option Nat) (ch : Nat), rg = rigD r ∧ r.ok ∧ rm = optD o ∧ s = chS [ch] ∧ (∀ k, o = some k → k < r.cs.length) ∧ P (optD (o.bind fun k => (r.cs[k]?).bind fun es => plc es ch)) h
  | _ => False
theorem spLPlace_i {r : Rig} {o : Option Nat} {ch : Nat} {h : Hs} {P : D → Hs → Prop} {Z : XD} (rok : r.ok) (ho : ∀ k, o = some k → k < r.cs.length) (p : P (optD (o.bind fun k => (r.cs[k]?).bind fun es => plc es ch)) h) : spLPlace [rigD r, optD o, .str (chS [ch])] h P Z := ⟨r, o, ch, rfl, rok, rfl, rfl, ho, p⟩
theorem k_law_place {F : Fns} : Kp M F m_law_place 6 spLPlace := by
  intro xs h Q Z q0
  match xs, q0 with
  | [_, _, .str _], ⟨r, o, ch, rfl, rok, rfl, rfl, ho, q⟩ =>
    cases o with
    | none =>
      simp [m_law_place, Ss.d, S.d, E.d, E.t, startD, List.replicate_succ, optD, fin]
      simpa [optD] using q
    | some k =>
      have hk := ho k rfl
      have hes : r.cs[k]? = some r.cs[k] := List.getElem?_eq_getElem hk
      generalize r.cs[k] = es at hes
      have co := rok.con hes
      have cl := co.l1
      have a1 := at_map (f := conD) hes
      simp [hes] at q
      simp [m_law_place, m_law_place_T1, Ss.d, S.d, E.d, E.t, Ic.d, dItR1, Oe.t, startD, List.replicate_succ, optD, a1, conD, sl24]
      unfold dLc dItR1
      simp [sl24, E.d, Es.d]
      repeat (with_reducible refine And.intro ?_ ?_; focus (first | assumption | exact Int.natCast_nonneg _ | omega | decide | (norm_cast; done) | (exact_mod_cast (by assumption))))
      refine lc_fil (fun x => match x with | .int j => decide ((es[j.toNat]?.map (·.c)) = some ch) | _ => false) (fun x => x) (rngD 0 es.length) [] (fun x hx Kt Kf kt kf => ?_) (by rw [rng_len, sl24]; simp; omega) ?_
      · simp only [rngD, List.mem_map, List.mem_range] at hx
        obtain ⟨j, hj, rfl⟩ := hx
        have he : es[j]? = some es[j] := List.getElem?_eq_getElem hj
        generalize es[j] = e at he
        have a2 := at_map (f := entD) he
        simp [he] at kt kf
        simp [wipeD, E.d, a2, wCmp, wEq, chS_inj]
        by_cases g : e.c = ch
        · first | rw [if_pos (by first | exact g | omega | exact_mod_cast g | (push_cast; omega) | simpa using g)] | rw [if_neg (by first | exact g | omega | exact_mod_cast g | (push_cast; omega) | simpa using g)] | refine Or.inl ⟨(by first | exact g | omega | exact_mod_cast g | (push_cast; omega) | simpa using g), ?_⟩ | refine Or.inr ⟨(by first | exact g | omega | exact_mod_cast g | (push_cast; omega) | simpa using g), ?_⟩
          exact kt g
        · first | rw [if_pos (by first | exact g | omega | exact_mod_cast g | (push_cast; omega) | simpa using g)] | rw [if_neg (by first | exact g | omega | exact_mod_cast g | (push_cast; omega) | simpa using g)] | refine Or.inl ⟨(by first | exact g | omega | exact_mod_cast g | (push_cast; omega) | simpa using g), ?_⟩ | refine Or.inr ⟨(by first | exact g | omega | exact_mod_cast g | (push_cast; omega) | simpa using g), ?_⟩
          exact kf g
      · have ef : (rngD 0 es.length).filter (fun x => match x with | .int j => decide ((es[j.toNat]?.map (·.c)) = some ch) | _ => false) = (((List.range es.length).filter fun k => decide ((es[k]?.map (·.c)) = some ch)).map fun (k : Nat) => (k : Int)).map D.int := by
          unfold rngD
          rw [List.filter_map, List.map_map]
          have : ((fun x => match x with | .int j => decide ((es[j.toNat]?.map (·.c)) = some ch) | _ => false) ∘ fun i : Nat => D.int (0 + i)) = fun k => decide ((es[k]?.map (·.c)) = some ch) := by
            funext k; simp
          rw [this]
          apply List.map_congr_left
          intro a _; simp
        have pf := plc_find (es := es) (ch := ch)
        rw [← List.head?_filter] at pf
        rw [ef]
        generalize (List.range es.length).filter (fun k => decide ((es[k]?.map (·.c)) = some ch)) = l at pf
        rw [← pf] at q
        simp [-List.map_map]
        refine ne_nilI ?_
        cases l with
        | nil => simpa [optD, fin] using q
        | cons k l => simpa [optD, fin] using q
end K
set_option maxHeartbeats 4000000
set_option exponentiation.threshold 256
namespace K
open PySem DL DP BM M17
def optI : Option Int → D
  | none => .non
  | some n => .int n
/-- a value, a text of any common length -/
structure WordyL (x : D) : Prop where
  g : good x = true
  s : ∀ t, x = .str t → t.cps.size ≤ 100000
  pl : plD x = true
def spLFault : FnD := fun xs h P _ => match xs with
  | [rg, x] => ∃ r : Rig, rg = rigD r ∧ r.ok ∧ WordyL x ∧ P (optI (dflt r.cs x)) h
  | _ => False
theorem spLFault_i {r : Rig} {x : D} {h : Hs} {P : D → Hs → Prop} {Z : XD} (rok : r.ok) (wx : Wordy x) (p : P (optI (dflt r.cs x)) h) : spLFault [rigD r, x] h P Z := ⟨r, rfl, rok, ⟨wx.g, fun t e => Nat.le_trans (wx.s t e) (by decide), wx.b.pl⟩, p⟩
theorem room_of {o : Option Nat} {cs : List (List Ent)} {c : Nat} : (wstep cs o c).map (·.2.1) = o.bind fun k => (cs[k]?).bind fun es => plc es c := by
  cases o with
  | none => rfl
  | some k =>
    unfold wstep
    cases h : cs[k]? with
    | none => simp [h]
    | some es =>
      cases hp : plc es c with
      | none => simp [h, hp]
      | some j =>
        obtain ⟨e, he, _⟩ := plc_some hp
        simp [h, hp, he]
theorem fault_B1 {F : Fns} (f1 : F.f 32 = spLPlace) {r : Rig} {w4 w5 : Option W} {i c : Nat} {w : List Nat} {rm : Option Nat} {h : Hs} {En : DEnds} (rok : r.ok) (hrm : ∀ k, rm = some k → k < r.cs.length) (wl : w.length ≤ 100000) (hc : w[i]? = some c)
    (q1 : ∀ x w4, wstep r.cs rm c = some x → En.nx [some (.d (rigD r)), some (.d (.str (chS w))), some (.d (optD x.2.2)), some (.d (.int i)), w4, w5] h)
    (q2 : wstep r.cs rm c = none → En.rt (.int i) h) :
    m_law_fault_B1.d M F [some (.d (rigD r)), some (.d (.str (chS w))), some (.d (optD rm)), some (.d (.int i)), w4, w5] h En := by
  have ac := at_some hc
  simp [m_law_fault_B1, Ss.d, S.d, E.d, E.t, Es.d, Es.len, f1, ac, sl24, ch1]
  refine ⟨by omega, spLPlace_i rok hrm ?_⟩
  have ro := room_of (o := rm) (cs := r.cs) (c := c)
  rw [← ro]
  cases hs : wstep r.cs rm c with
  | none =>
    simp [optD]
    exact q2 hs
  | some x =>
    obtain ⟨rfl, es, e, h1, h2, h3, h4⟩ := wstep_ok hs
    have a1 := at_map (f := conD) h1
    have a2 := at_map (f := entD) h3
    have qq := q1 x (some (.d (.int x.2.1))) hs
    simp [optD, m_law_fault_T2, Ss.d, S.d, E.d, a1, a2]
    rw [h4] at qq
    exact qq
theorem k_law_fault {F : Fns} (f1 : F.f 32 = spLPlace) : Kp M F m_law_fault 6 spLFault := by
  intro xs h Q Z q0
  match xs, q0 with
  | [_, x], ⟨r, rfl, rok, wx, q⟩ =>
    have b1 := fun (En : DEnds) w4 w5 i c w rm => fault_B1 (F := F) f1 (r := r) (w4 := w4) (w5 := w5) (i := i) (c := c) (w := w) (rm := rm) (h := h) (En := En) rok
    unfold m_law_fault m_law_fault_T1
    generalize m_law_fault_B1 = mb at b1 ⊢
    simp [Ss.d, S.d, E.d, E.t, Es.d, Es.len, startD, List.replicate_succ, w_str wx.g, wNeg, sl24, Ic.d, dItR1, Oe.t]
    cases x <;> first | (simpa [isS, dflt, optI, fin] using q) | skip
    rename_i s
    have hz := wx.s s rfl
    obtain ⟨w, rfl⟩ : ∃ w, s = chS w := ⟨s.cps.toList, (chS_self s).symm⟩
    have wl : w.length ≤ 100000 := by simpa [chS] using hz
    simp [isS]
    unfold dLc dItS
    simp
    refine lc_fil notLet (fun x => x) (w.map fun c => .str (chS [c])) [] (fun x hx Kt Kf kt kf => ?_) (by rw [sl24]; simp; omega) ?_
    · obtain ⟨c, hc, rfl⟩ := List.mem_map.mp hx
      simp [notLet, lets] at kt kf
      simp [wipeD, E.d, E.t, dChain, wCmp, wLt, lt_a, le_a, lt_z, le_z]
      by_cases g1 : c < 97
      · exact .inl ⟨g1, kt (.inl g1)⟩
      · refine .inr ⟨by omega, ?_⟩
        by_cases g2 : 122 < c
        · exact .inl ⟨g2, kt (.inr g2)⟩
        · exact .inr ⟨by omega, kf (by omega) (by omega)⟩
    · have bds : Bds (w.length * 14) 0 ((w.map fun c => D.str (chS [c])).filter notLet) := by
        refine (Bds.all (n := 12) (d := 0) fun x hx => ?_).mono ?_ (Nat.le_refl _)
        · obtain ⟨hx, _⟩ := List.mem_filter.mp hx
          obtain ⟨c, hc, rfl⟩ := List.mem_map.mp hx
          exact bd_char wx.pl hc
        · have := List.length_filter_le notLet (w.map fun c => D.str (chS [c]))
          rw [List.length_map] at this
          omega
      have fl := fil_lets (w := w)
      rw [List.nil_append, List.map_id']
      refine ne_nilN bds (by decide) ?_
      rw [fl]
      cases hw : lets w with
      | false =>
        have : dflt r.cs (.str (chS w)) = some (-1) := by
          show (if lets (chS w).cps.toList = true then _ else _) = _
          rw [chS_cps, hw] <;> rfl
        rw [this] at q
        exact .inr ⟨rfl, q⟩
      | true =>
        rw [dflt_ch hw] at q
        refine .inl ⟨rfl, ?_⟩
        rw [sl24]
        repeat (with_reducible refine And.intro ?_ ?_; focus (first | assumption | exact Int.natCast_nonneg _ | omega | decide | (norm_cast; done) | (exact_mod_cast (by assumption))))
        refine for_inv (fun i ds h' => h' = h ∧ i ≤ w.length ∧ ∃ p rm w3 w4 w5, wrun r.cs (w.take i) = some (p, rm) ∧ ds = [some (.d (rigD r)), some (.d (.str (chS w))), some (.d (optD rm)), w3, w4, w5]) (rngD 0 w.length) ?_ ?_ ?_
        · rintro i u ds h' En' hu ⟨rfl, hi, p, rm, w3, w4, w5, hr, rfl⟩ hrt hex hbk hnx hct
          obtain ⟨rfl, hin⟩ := rng_get hu
          have hc : w[i]? = some w[i] := List.getElem?_eq_getElem hin
          generalize w[i] = c at hc
          obtain ⟨pl, po, pm⟩ := wrun_ok rok hr
          have wt := wrun_take (cs := r.cs) hc
          simp
          refine b1 _ _ _ _ _ _ _ pm wl hc (fun x w4 hx => ?_) (fun hx => ?_)
          · refine hnx _ _ ⟨rfl, by omega, p ++ [(x.1, x.2.1)], x.2.2, some (.d (.int i)), w4, w5, ?_, rfl⟩
            rw [wt, hr]; simp [wfold, hx]
          · rw [hrt]
            rw [wflt_at hin hr (by rw [wt, hr]; simp [wfold, hx])] at q
            exact q
        · exact ⟨rfl, by omega, [], some 0, none, none, none, rfl, rfl⟩
        · rintro ds h' ⟨rfl, hi, p, rm, w3, w4, w5, hr, rfl⟩
          rw [rng_len, List.take_length] at hr
          rw [wflt_none hr] at q
          simp [m_law_fault_T3, Ss.d, S.d, E.d, fin]
          exact q
end K
set_option maxHeartbeats 4000000
set_option exponentiation.threshold 256
namespace K
open PySem DL DP BM M17
/-- a word of the coder, its path, its room -/
def spLCtx : FnD := fun xs h P _ => match xs with
  | [rg, x] => ∃ (r : Rig) (w : List Nat) (p : Pth) (rm : Option Nat), rg = rigD r ∧ r.ok ∧ x = .str (chS w) ∧ wrun r.cs w = some (p, rm) ∧ w.length ≤ 100000 ∧ P (optD rm) h
  | _ => False
theorem spLCtx_i {r : Rig} {w : List Nat} {p : Pth} {rm : Option Nat} {h : Hs} {P : D → Hs → Prop} {Z : XD} (rok : r.ok) (hr : wrun r.cs w = some (p, rm)) (wl : w.length ≤ 100000) (q : P (optD rm) h) : spLCtx [rigD r, .str (chS w)] h P Z := ⟨r, w, p, rm, rfl, rok, rfl, hr, wl, q⟩
theorem step_of {r : Rig} (rok : r.ok) {w : List Nat} {p : Pth} {rm : Option Nat} (hr : wrun r.cs w = some (p, rm)) {i c : Nat} (hc : w[i]? = some c) : ∃ rm' x, wrun r.cs (w.take i) = some (p.take i, rm') ∧ wstep r.cs rm' c = some x ∧ p[i]? = some (x.1, x.2.1) ∧ wrun r.cs (w.take (i + 1)) = some (p.take (i + 1), x.2.2) := by
  have hin : i < w.length := (List.getElem?_eq_some_iff.mp hc).1
  obtain ⟨pl, po, pm⟩ := wrun_ok rok hr
  obtain ⟨rm', h1⟩ := wrun_pre rok rfl hr i (by omega)
  obtain ⟨rm2, h2⟩ := wrun_pre rok rfl hr (i + 1) (by omega)
  have wt := wrun_take (cs := r.cs) hc
  rw [h1] at wt
  cases e : wstep r.cs rm' c with
  | none => rw [h2] at wt; simp [wfold, e] at wt
  | some x =>
    have hp : p[i]? = some p[i] := List.getElem?_eq_getElem (by omega)
    have e3 := wt
    rw [h2] at e3
    simp only [wfold, e, Option.bind_some, Option.map_some, Option.some.injEq, Prod.mk.injEq] at e3
    have e4 : p.take (i + 1) = p.take i ++ [p[i]] := take_snoc hp
    rw [e4] at e3
    have e5 : p[i] = (x.1, x.2.1) := by
      have := List.append_cancel_left e3.1
      simpa using this
    refine ⟨rm', x, h1, e, by rw [hp, e5], ?_⟩
    rw [h2, e3.2]
theorem k_law_context {F : Fns} (f1 : F.f 32 = spLPlace) : Kp M F m_law_context 4 spLCtx := by
  intro xs h Q Z q0
  match xs, q0 with
  | [_, _], ⟨r, w, p, rm, rfl, rok, rfl, hr, wl, q⟩ =>
    simp [m_law_context, Ss.d, S.d, E.d, Es.d, Es.len, startD, List.replicate_succ, Ic.d]
    unfold dItS
    simp
    refine for_inv (fun i ds h' => h' = h ∧ i ≤ w.length ∧ ∃ rm' w3, wrun r.cs (w.take i) = some (p.take i, rm') ∧ ds = [some (.d (rigD r)), some (.d (.str (chS w))), some (.d (optD rm')), w3]) (w.map fun c => .str (chS [c])) ?_ ?_ ?_
    · rintro i u ds h' En' hu ⟨rfl, hi, rm', w3, h1, rfl⟩ hrt hex hbk hnx hct
      rw [List.getElem?_map] at hu
      obtain ⟨c, hc, rfl⟩ := Option.map_eq_some_iff.mp hu
      obtain ⟨rm2, x, g1, g2, g3, g4⟩ := step_of rok hr hc
      rw [h1] at g1
      cases g1
      obtain ⟨rfl, es, e, k1, k2, k3, k4⟩ := wstep_ok g2
      obtain ⟨_, _, pm⟩ := wrun_ok rok h1
      have ro := room_of (o := some x.1) (cs := r.cs) (c := c)
      rw [g2] at ro
      have a1 := at_map (f := conD) k1
      have a2 := at_map (f := entD) k3
      have hin : i < w.length := (List.getElem?_eq_some_iff.mp hc).1
      simp [m_law_context_B1, Ss.d, S.d, E.d, Es.d, Es.len, f1, optD, a1]
      refine spLPlace_i (o := some x.1) rok pm ?_
      rw [← ro]
      simp [optD, a2]
      refine hnx _ _ ⟨rfl, by omega, x.2.2, some (.d (.str (chS [c]))), g4, ?_⟩
      rw [k4] <;> rfl
    · exact ⟨rfl, by omega, some 0, none, rfl, rfl⟩
    · rintro ds h' ⟨rfl, hi, rm', w3, h1, rfl⟩
      rw [List.length_map, List.take_length] at h1
      have e1 : rm = rm' := by rw [hr] at h1; injection h1 with h1; injection h1
      subst e1
      simp [m_law_context_T1, Ss.d, S.d, E.d, fin]
      exact q
def spLNext : FnD := fun xs h P _ => match xs with
  | [rg, .int c, sp, .str t] => ∃ (r : Rig) (ci ch : Nat) (s : Sp) (x : Nat × Nat × Option Nat), rg = rigD r ∧ r.ok ∧ c = ci ∧ sp = spD s ∧ s.ok ∧ s.d ≤ 8010 ∧ t = chS [ch] ∧ wstep r.cs (some ci) ch = some x ∧ P (.tup [lostD (bhd r s (x.1, x.2.1)), lostD (bhl r s (x.1, x.2.1))]) h
  | _ => False
theorem spLNext_i {r : Rig} {ci ch : Nat} {s : Sp} {x : Nat × Nat × Option Nat} {h : Hs} {P : D → Hs → Prop} {Z : XD} (rok : r.ok) (ok : s.ok) (sd : s.d ≤ 8010) (hs : wstep r.cs (some ci) ch = some x) (q : P (.tup [lostD (bhd r s (x.1, x.2.1)), lostD (bhl r s (x.1, x.2.1))]) h) : spLNext [rigD r, .int ci, spD s, .str (chS [ch])] h P Z := ⟨r, ci, ch, s, x, rfl, rok, rfl, rfl, ok, sd, rfl, hs, q⟩
theorem k_law_next {F : Fns} (f1 : F.f 32 = spLPlace) (f2 : F.f 26 = spLParts) (f3 : F.f 31 = spLSettled) : Kp M F m_law_next 8 spLNext := by
  intro xs h Q Z q0
  match xs, q0 with
  | [_, .int _, _, .str _], ⟨r, ci, ch, s, x, rfl, rok, rfl, rfl, ok, sd, rfl, hs, q⟩ =>
    obtain ⟨ex, es, e, k1, k2, k3, k4⟩ := wstep_ok hs
    cases ex
    obtain ⟨ci, k, g⟩ := x
    simp only at k1 k2 k3 k4 q
    have co := rok.con k1
    have cp := con_pos co
    have hci : ci < r.cs.length := (List.getElem?_eq_some_iff.mp k1).1
    have ro := room_of (o := some ci) (cs := r.cs) (c := ch)
    rw [hs] at ro
    have a1 := at_map (f := conD) k1
    have a2 := at_map (f := entD) k3
    have a3 := cells_at (fine := r.fine) (w := s.w) k3
    have le := pb_le_pe (fine := r.fine) (w := s.w) (i := k) cp.1
    have pq : bhd r s (ci, k) = (part r es s k).map fun t => if e.g = none then t else (stl r.mn r.z t).s := by simp [bhd, k1, k3]
    have pl : bhl r s (ci, k) = (part r es s k).bind fun t => if e.g = none then none else (stl r.mn r.z t).x := by simp [bhl, k1, k3]
    rw [pq, pl] at q
    simp [m_law_next, Ss.d, S.d, E.d, E.t, Es.d, Es.len, startD, List.replicate_succ, f1]
    refine spLPlace_i (o := some ci) rok (fun j hj => by cases hj; exact hci) ?_
    rw [← ro]
    simp [optD, a1, f2]
    refine spLParts_i co ?_
    simp [a3, Tgs.len, wCmp, wEq, sl24, -Int.natCast_sub]
    unfold part at q
    by_cases g0 : pb r.fine es s.w k = pe r.fine es s.w k
    · rw [if_pos g0] at q
      have g1 : pe r.fine es s.w k - pb r.fine es s.w k = 0 := by omega
      first | rw [if_pos (by first | exact g1 | omega | exact_mod_cast g1 | (push_cast; omega) | simpa using g1)] | rw [if_neg (by first | exact g1 | omega | exact_mod_cast g1 | (push_cast; omega) | simpa using g1)] | refine Or.inl ⟨(by first | exact g1 | omega | exact_mod_cast g1 | (push_cast; omega) | simpa using g1), ?_⟩ | refine Or.inr ⟨(by first | exact g1 | omega | exact_mod_cast g1 | (push_cast; omega) | simpa using g1), ?_⟩
      exact q
    · rw [if_neg g0] at q
      have g1 : ¬ (pe r.fine es s.w k - pb r.fine es s.w k = 0) := by omega
      first | rw [if_pos (by first | exact g1 | omega | exact_mod_cast g1 | (push_cast; omega) | simpa using g1)] | rw [if_neg (by first | exact g1 | omega | exact_mod_cast g1 | (push_cast; omega) | simpa using g1)] | refine Or.inl ⟨(by first | exact g1 | omega | exact_mod_cast g1 | (push_cast; omega) | simpa using g1), ?_⟩ | refine Or.inr ⟨(by first | exact g1 | omega | exact_mod_cast g1 | (push_cast; omega) | simpa using g1), ?_⟩
      obtain ⟨t, ht, te⟩ : ∃ t, part r es s k = some t ∧ t = ⟨s.l + pb r.fine es s.w k, pe r.fine es s.w k - pb r.fine es s.w k, s.d⟩ := ⟨_, by unfold part; rw [if_neg g0], rfl⟩
      obtain ⟨to, td⟩ := part_ok co ok ht
      have et : D.tup [.int ((s.l : Int) + pb r.fine es s.w k), .int ((pe r.fine es s.w k - pb r.fine es s.w k : Nat) : Int), .int s.d] = spD t := by
        rw [te]; simp [spD]
      rw [← te] at q
      simp [m_law_next_T1, Ss.d, S.d, E.d, E.t, Es.d, Es.len, wBin, wInt, sl24, a1, a2, -Int.natCast_sub]
      rw [et]
      cases hg : e.g with
      | none =>
        simp [hg] at q
        simp [optD]
        exact q
      | some j =>
        simp [hg] at q
        simp [optD, m_law_next_T2, Ss.d, S.d, E.d, Es.d, Es.len, f3]
        exact spLSettled_i rok.z0 rok.z1 to (by omega) q
/-- the spans of a word, as far as it can be written -/
def spLSpans : FnD := fun xs h P _ => match xs with
  | [rg, x] => ∃ (r : Rig) (w : List Nat) (p : Pth) (rm : Option Nat), rg = rigD r ∧ r.ok ∧ x = .str (chS w) ∧ wrun r.cs w = some (p, rm) ∧ (w.length ≤ 800 ∨ w.length ≤ 100000 ∧ ∀ i ss s, srun r (p.take i) = some (ss ++ [s]) → s.d ≤ 8010) ∧ (∀ ss, srun r p = some ss → P (.lst (ss.map spD)) h) ∧ (∀ n ss, sflt r p = some n → srun r (p.take n) = some ss → P (.lst (ss.map spD)) h)
  | _ => False
theorem spLSpans_i {r : Rig} {w : List Nat} {p : Pth} {rm : Option Nat} {h : Hs} {P : D → Hs → Prop} {Z : XD} (rok : r.ok) (hr : wrun r.cs w = some (p, rm)) (wl : w.length ≤ 800) (q1 : ∀ ss, srun r p = some ss → P (.lst (ss.map spD)) h) (q2 : ∀ n ss, sflt r p = some n → srun r (p.take n) = some ss → P (.lst (ss.map spD)) h) : spLSpans [rigD r, .str (chS w)] h P Z := ⟨r, w, p, rm, rfl, rok, rfl, hr, .inl wl, q1, q2⟩
theorem k_law_spans {F : Fns} (f0 : F.f 25 = spTwo) (f1 : F.f 35 = spLNext) (f2 : F.f 32 = spLPlace) : Kp M F m_law_spans 7 spLSpans := by
  intro xs h Q Z q0
  match xs, q0 with
  | [_, _], ⟨r, w, p, rm, rfl, rok, rfl, hr, wl, q1, q2⟩ =>
    obtain ⟨pl, po, pm⟩ := wrun_ok rok hr
    have z1 := rok.z1
    have wl2 : w.length ≤ 100000 := by rcases wl with z | ⟨z, _⟩ <;> omega
    simp [m_law_spans, Ss.d, S.d, E.d, Es.d, Es.len, startD, List.replicate_succ, Ic.d, f0, spTwo, dPar2, stW, sl24]
    refine ⟨by omega, ?_⟩
    unfold dItS
    simp
    refine for_inv (fun i ds h' => h' = h ∧ i ≤ w.length ∧ ∃ rm' ss w4 w5 w6, wrun r.cs (w.take i) = some (p.take i, rm') ∧ srun r (p.take i) = some ss ∧ ds = [some (.d (rigD r)), some (.d (.str (chS w))), some (.own (ss.map spD)), some (.d (optD rm')), w4, w5, w6]) (w.map fun c => .str (chS [c])) ?_ ?_ ?_
    · rintro i u ds h' En' hu ⟨rfl, hi, rm', ss, w4, w5, w6, h1, hs, rfl⟩ hrt hex hbk hnx hct
      rw [List.getElem?_map] at hu
      obtain ⟨c, hc, rfl⟩ := Option.map_eq_some_iff.mp hu
      have hin : i < w.length := (List.getElem?_eq_some_iff.mp hc).1
      obtain ⟨rm2, x, g1, g2, g3, g4⟩ := step_of rok hr hc
      rw [h1] at g1
      cases g1
      obtain ⟨rfl, es, e, k1, k2, k3, k4⟩ := wstep_ok g2
      obtain ⟨_, _, pm'⟩ := wrun_ok rok h1
      have ro := room_of (o := some x.1) (cs := r.cs) (c := c)
      rw [g2] at ro
      have a1 := at_map (f := conD) k1
      have a2 := at_map (f := entD) k3
      obtain ⟨sl, sa⟩ := srun_inv rok (n := i) (by simp; omega) hs
      obtain ⟨ss0, s, rfl⟩ : ∃ ss0 s, ss = ss0 ++ [s] := ⟨ss.dropLast, ss.getLast (by intro z; subst z; simp at sl), (List.dropLast_concat_getLast _).symm⟩
      obtain ⟨sok, sd⟩ := sa s (by simp)
      have st := srun_take (r := r) g3
      have al : L2.atI ((ss0 ++ [s]).map spD) (-1) = some (spD s) := by rw [List.map_append]; exact at_last
      simp [m_law_spans_B1, Ss.d, S.d, E.d, E.t, Es.d, Es.len, f1, wNeg, al, optD, -List.map_append]
      have sd8 : s.d ≤ 8010 := by
        rcases wl with z | ⟨_, z⟩
        · omega
        · exact z _ _ _ hs
      refine spLNext_i (x := x) rok sok sd8 g2 ?_
      cases hb : bhd r s (x.1, x.2.1) with
      | none =>
        have e2 : srun r (p.take (i + 1)) = none := by rw [st, hs]; simp [sfold, hb]
        simp [lostD, Tgs.len, dFrz, Ss.d, S.d, E.d]
        rw [hrt]
        have := q2 i _ (sflt_at (by omega) hs e2) hs
        rw [List.map_append] at this
        exact this
      | some t =>
        have e2 : srun r (p.take (i + 1)) = some ((ss0 ++ [s]) ++ [t]) := by rw [st, hs]; simp [sfold, hb]
        have hll : (ss0 ++ [s]).length < 16777216 := by omega
        have hll2 : ss0.length + 1 < 16777216 := by simp at hll; omega
        generalize lostD (bhl r s (x.1, x.2.1)) = lx
        simp [lostD, Tgs.len]
        rw [if_neg (by simp [spD])]
        simp [m_law_spans_T1, Ss.d, S.d, E.d, Es.d, Es.len, dApp, sl24, hll2, a1, f2]
        refine spLPlace_i (o := some x.1) rok pm' ?_
        rw [← ro]
        simp [optD, a2]
        refine hnx _ _ ⟨rfl, by omega, x.2.2, (ss0 ++ [s]) ++ [t], some (.d (.str (chS [c]))), some (.d (spD t)), some (.d lx), g4, e2, ?_⟩
        rw [k4]
        simp [optD]
    · refine ⟨rfl, by omega, some 0, [begunS r], none, none, none, rfl, rfl, ?_⟩
      simp [spD, begunS, optD]
    · rintro ds h' ⟨rfl, hi, rm', ss, w4, w5, w6, h1, hs, rfl⟩
      rw [List.length_map, ← pl, List.take_length] at hs
      simp [m_law_spans_T2, Ss.d, S.d, E.d, dFrz, fin]
      exact q1 ss hs
end K
set_option maxHeartbeats 4000000
set_option exponentiation.threshold 256
namespace K
open PySem DL DP BM M17
def spLWord : FnD := fun xs h P _ => match xs with
  | [.ref 0, rg, .int m] => ∃ (r : Rig) (k : Nat), rg = rigD r ∧ r.ok ∧ FH k h ∧ k ≤ 900000 ∧ 1 ≤ m ∧ m ≤ 30 ∧ ∀ (w : List Nat) (p : Pth) (rm : Option Nat) h', lets w = true → wrun r.cs w = some (p, rm) → (w.length : Int) ≤ m → FH (k + 40) h' → P (.str (chS w)) h'
  | _ => False
theorem word_B1 {F : Fns} (f1 : F.f 21 = spAny) {r : Rig} {w2 w5 w6 w7 w8 : Option W} {w : List Nat} {p : Pth} {rm : Option Nat} {k : Nat} {h : Hs} {En : DEnds} (rok : r.ok) (hw : lets w = true) (hr : wrun r.cs w = some (p, rm)) (wl : w.length ≤ 100) (hs : FH k h) (hk : k ≤ 990000)
    (q : ∀ (w' : List Nat) p' rm' w7 h', lets w' = true → wrun r.cs w' = some (p', rm') → w'.length ≤ w.length + 1 → FH (k + 1) h' → En.nx [some (.d (.ref 0)), some (.d (rigD r)), w2, some (.d (optD rm')), some (.d (.str (chS w'))), w5, w6, w7, w8] h') :
    m_law_word_B1.d M F [some (.d (.ref 0)), some (.d (rigD r)), w2, some (.d (optD rm)), some (.d (.str (chS w))), w5, w6, w7, w8] h En := by
  obtain ⟨pl, po, pm⟩ := wrun_ok rok hr
  cases rm with
  | none =>
    simp [m_law_word_B1, Ss.d, S.d, E.d, E.t, optD]
    have := q w p none w7 h hw hr (by omega) (hs.mono (by omega))
    simpa [optD] using this
  | some j =>
    have hj := pm j rfl
    have hes : r.cs[j]? = some r.cs[j] := List.getElem?_eq_getElem hj
    generalize r.cs[j] = es at hes
    have co := rok.con hes
    have cl := co.l1
    have c2 := co.l0
    have a1 := at_map (f := conD) hes
    simp [m_law_word_B1, Ss.d, S.d, E.d, E.t, Es.d, Es.len, optD, a1, wB1, wList, conD, seqW, lstW, tupW, f1]
    refine ⟨k, hs, by omega, by simp; omega, by simp; omega, fun x h' hx hs' => ?_⟩
    obtain ⟨e, he, rfl⟩ := List.mem_map.mp hx
    obtain ⟨p', hr'⟩ := wrun_add rok hr hes he
    have qq := q _ p' e.g (some (.d (entD e))) h' (lets_add rok hw hes he) hr' (by simp) hs'
    simp [dPar2, stW, wBin, wCat, chS_app, sl24]
    exact ⟨by omega, by simpa [optD] using qq⟩
theorem ne_nilW {n d : Nat} {xs : List D} {Q : W → Prop} (b : Bds n d xs) (hd : d ≤ 60) (q : Q (.d (.bl (!xs.isEmpty)))) : wData true (.d (.lst xs)) (.new []) Q := by
  refine ⟨.list (pyDs xs), .list [], by simp only [pyW, toPy, toPys_pl b.pl, Option.map_some], by simp [pyW, toPys], ?_, by decide +kernel, ?_⟩
  · have := shp_pl (x := .lst xs) b.lst.pl (Nat.le_trans b.lst.dp (by omega))
    simpa [pyD] using this
  · rw [if_pos rfl, eqv_nilL]
    have : (pyDs xs).isEmpty = xs.isEmpty := by cases xs <;> rfl
    rw [this]; exact q
def endLE : D → Bool
  | .tup [_, _, .non] => true
  | _ => false
def ltrD : D → D
  | .tup (x :: _) => x
  | x => x
/-- behind the laps: one ending letter more, or none -/
theorem word_end {F : Fns} (f1 : F.f 21 = spAny) {r : Rig} {w3 w6 w7 : Option W} {wish m : Int} {L : List D} {w : List Nat} {p : Pth} {rm : Option Nat} {k : Nat} {h : Hs} {Q : D → Hs → Prop} {Z : XD} (hw : lets w = true) (hr : wrun r.cs w = some (p, rm)) (wl : (w.length : Int) ≤ m) (m1 : m ≤ 30) (hs : FH k h) (hk : k ≤ 990000)
    (hL : ∀ x ∈ L, ∃ c p', x = .str (chS [c]) ∧ lets (w ++ [c]) = true ∧ wrun r.cs (w ++ [c]) = some (p', none)) (Ll : L.length ≤ 10)
    (q : ∀ (w : List Nat) (p : Pth) (rm : Option Nat) h', lets w = true → wrun r.cs w = some (p, rm) → (w.length : Int) ≤ m → FH (k + 1) h' → Q (.str (chS w)) h') :
    (dSeq (dIte (E.t F (.and (.cmp .eq (.var 5) (.int 0)) (.and (.cmp .ne (.var 8) (.lst (.nil))) (.cmp .lt (.b1 .len (.var 4)) (.var 2))))) (dSeq (dSet 4 (dOp2 (wBin .add) (dVar 4) (dCall 2 (F.f 21) (dCons (dVar 0) (dCons (dVar 8) dNil))))) dNext) dNext) (m_law_word_T2.d M F))
      [some (.d (.ref 0)), some (.d (rigD r)), some (.d (.int m)), w3, some (.d (.str (chS w))), some (.d (.int wish)), w6, w7, some (.d (.lst L))] h (fin Q Z) := by
  have b : Bds (L.length * 14) 0 L := Bds.all (n := 12) (d := 0) fun x hx => by
    obtain ⟨c, p', rfl, hc, _⟩ := hL x hx
    have : c < 128 := lets_lt hc c (by simp)
    exact bd_chS (m := 1) (fun d hd => by simp at hd; omega) (by simp)
  have old := q w p rm h hw hr wl (hs.mono (by omega))
  have wl' : w.length ≤ 16777216 := by omega
  simp [E.t, E.d, Es.d, wCmp, wEq, sl24]
  by_cases g : wish = 0
  · first | rw [if_pos (by first | exact g | omega | exact_mod_cast g | (push_cast; omega) | simpa using g)] | rw [if_neg (by first | exact g | omega | exact_mod_cast g | (push_cast; omega) | simpa using g)] | refine Or.inl ⟨(by first | exact g | omega | exact_mod_cast g | (push_cast; omega) | simpa using g), ?_⟩ | refine Or.inr ⟨(by first | exact g | omega | exact_mod_cast g | (push_cast; omega) | simpa using g), ?_⟩
    refine ne_nilW b (by decide) ?_
    cases L with
    | nil =>
      simp [m_law_word_T2, Ss.d, S.d, E.d, fin]
      exact old
    | cons x L =>
      simp [wLt, wl']
      by_cases g2 : (w.length : Int) < m
      · first | rw [if_pos (by first | exact g2 | omega | exact_mod_cast g2 | (push_cast; omega) | simpa using g2)] | rw [if_neg (by first | exact g2 | omega | exact_mod_cast g2 | (push_cast; omega) | simpa using g2)] | refine Or.inl ⟨(by first | exact g2 | omega | exact_mod_cast g2 | (push_cast; omega) | simpa using g2), ?_⟩ | refine Or.inr ⟨(by first | exact g2 | omega | exact_mod_cast g2 | (push_cast; omega) | simpa using g2), ?_⟩
        simp [f1, spAny, Es.len]
        refine ⟨k, hs, by omega, by simp at Ll; omega, fun y h' hy hs' => ?_⟩
        obtain ⟨c, p', rfl, hc, hr'⟩ := hL y (by simpa using hy)
        simp [wBin, wCat, chS_app, sl24, m_law_word_T2, Ss.d, S.d, E.d, fin]
        exact ⟨by omega, q _ p' none h' hc hr' (by simp; omega) hs'⟩
      · first | rw [if_pos (by first | exact g2 | omega | exact_mod_cast g2 | (push_cast; omega) | simpa using g2)] | rw [if_neg (by first | exact g2 | omega | exact_mod_cast g2 | (push_cast; omega) | simpa using g2)] | refine Or.inl ⟨(by first | exact g2 | omega | exact_mod_cast g2 | (push_cast; omega) | simpa using g2), ?_⟩ | refine Or.inr ⟨(by first | exact g2 | omega | exact_mod_cast g2 | (push_cast; omega) | simpa using g2), ?_⟩
        simp [m_law_word_T2, Ss.d, S.d, E.d, fin]
        exact old
  · first | rw [if_pos (by first | exact g | omega | exact_mod_cast g | (push_cast; omega) | simpa using g)] | rw [if_neg (by first | exact g | omega | exact_mod_cast g | (push_cast; omega) | simpa using g)] | refine Or.inl ⟨(by first | exact g | omega | exact_mod_cast g | (push_cast; omega) | simpa using g), ?_⟩ | refine Or.inr ⟨(by first | exact g | omega | exact_mod_cast g | (push_cast; omega) | simpa using g), ?_⟩
    simp [m_law_word_T2, Ss.d, S.d, E.d, fin]
    exact old
theorem k_law_word {F : Fns} (f0 : F.f 20 = spDraw) (f1 : F.f 21 = spAny) : Kp M F m_law_word 9 spLWord := by
  intro xs h Q Z q0
  match xs, q0 with
  | [.ref 0, _, .int m], ⟨r, k, rfl, rok, hs, hk, m0, m1, q⟩ =>
    have b1 := fun (En : DEnds) w2 w5 w6 w7 w8 w p rm k h => word_B1 (F := F) f1 (r := r) (w2 := w2) (w5 := w5) (w6 := w6) (w7 := w7) (w8 := w8) (w := w) (p := p) (rm := rm) (k := k) (h := h) (En := En) rok
    unfold m_law_word
    generalize m_law_word_B1 = mb at b1 ⊢
    simp [Ss.d, S.d, E.d, E.t, Es.d, Es.len, startD, List.replicate_succ, f0, spDraw, dPar3, stW, Ic.d, dItR1, wBin, wInt, chS_nil]
    refine ⟨k, hs, by omega, fun wish h1 u0 u1 s1 => ⟨k + 1, s1, by omega, by omega, by omega, fun n h2 n0 n1 s2 => ⟨by omega, by omega, ?_⟩⟩⟩
    refine for_inv (fun i ds h' => i ≤ (1 + n).toNat ∧ ∃ w p rm w6 w7, lets w = true ∧ wrun r.cs w = some (p, rm) ∧ w.length ≤ i ∧ FH (k + 2 + i) h' ∧ ds = [some (.d (.ref 0)), some (.d (rigD r)), some (.d (.int m)), some (.d (optD rm)), some (.d (.str (chS w))), some (.d (.int wish)), w6, w7, none]) (rngD 0 (1 + n).toNat) ?_ ?_ ?_
    · rintro i u ds h' En' hu ⟨hi, w, p, rm, w6, w7, hw, hr, hl, s3, rfl⟩ hrt hex hbk hnx hct
      obtain ⟨rfl, hin⟩ := rng_get hu
      simp
      refine b1 _ _ _ _ _ _ w p rm (k + 2 + i) h' hw hr (by omega) s3 (by omega) fun w' p' rm' w7 h3 g1 g2 g3 g4 => hnx _ _ ⟨by omega, w', p', rm', _, w7, g1, g2, by omega, g4, rfl⟩
    · exact ⟨by omega, [], [], some 0, none, none, rfl, rfl, Nat.le_refl _, by simpa using s2.fh, rfl⟩
    · rintro ds h' ⟨hi, w, p, rm, w6, w7, hw, hr, hl, s3, rfl⟩
      rw [rng_len] at hl s3
      have wlm : (w.length : Int) ≤ m := by omega
      obtain ⟨pl, po, pm⟩ := wrun_ok rok hr
      have we := fun w3 L hL Ll => word_end (F := F) f1 (r := r) (w3 := w3) (w6 := w6) (w7 := w7) (wish := wish) (m := m) (L := L) (w := w) (p := p) (rm := rm) (Q := Q) (Z := Z) hw hr wlm m1 s3 (by omega) hL Ll (fun w p rm h' g1 g2 g3 g4 => q w p rm h' g1 g2 g3 (g4.mono (by omega)))
      have hT : m_law_word_T1.d M F = dSeq (dSet 8 (E.d F (.ite (.isN false (.var 3)) (.lst (.nil)) (.lc (.nm 7) (.t (.ix (.ix (.var 1) (.int 1)) (.var 3))) (.some (.isN false (.ix (.var 7) (.int 2)))) (.ix (.var 7) (.int 0)) [("_law_entry", 7)])))) (dSeq (dIte (E.t F (.and (.cmp .eq (.var 5) (.int 0)) (.and (.cmp .ne (.var 8) (.lst (.nil))) (.cmp .lt (.b1 .len (.var 4)) (.var 2))))) (dSeq (dSet 4 (dOp2 (wBin .add) (dVar 4) (dCall 2 (F.f 21) (dCons (dVar 0) (dCons (dVar 8) dNil))))) dNext) dNext) (m_law_word_T2.d M F)) := rfl
      show m_law_word_T1.d M F _ _ _
      rw [hT]
      generalize dSeq (dIte (E.t F (.and (.cmp .eq (.var 5) (.int 0)) (.and (.cmp .ne (.var 8) (.lst (.nil))) (.cmp .lt (.b1 .len (.var 4)) (.var 2))))) (dSeq (dSet 4 (dOp2 (wBin .add) (dVar 4) (dCall 2 (F.f 21) (dCons (dVar 0) (dCons (dVar 8) dNil))))) dNext) dNext) (m_law_word_T2.d M F) = tl at we ⊢
      cases rm with
      | none =>
        simp [E.d, E.t, Es.d, optD, sl24]
        exact we _ [] (fun x hx => by simp at hx) (by simp)
      | some j =>
        have hj := pm j rfl
        have hes : r.cs[j]? = some r.cs[j] := List.getElem?_eq_getElem hj
        generalize r.cs[j] = es at hes
        have co := rok.con hes
        have cl := co.l1
        have a1 := at_map (f := conD) hes
        simp [E.d, E.t, Es.d, optD, Oe.t, Ic.d]
        unfold dLc dItT
        simp [a1, conD]
        refine lc_fil endLE ltrD (es.map entD) [] (fun x hx Kt Kf kt kf => ?_) (by rw [sl24]; simp; omega) ?_
        · obtain ⟨e, he, rfl⟩ := List.mem_map.mp hx
          simp [wipeD, E.d, E.t]
          cases hg : e.g with
          | none =>
            have := kt (by simp [endLE, entD, hg, optD])
            simpa [optD, ltrD, entD] using this
          | some j =>
            have := kf (by simp [endLE, entD, hg, optD])
            simpa [optD] using this
        · refine we _ _ (fun x hx => ?_) ?_
          · simp only [List.nil_append, List.mem_map] at hx
            obtain ⟨y, hy, rfl⟩ := hx
            obtain ⟨hy, hb⟩ := List.mem_filter.mp hy
            obtain ⟨e, he, rfl⟩ := List.mem_map.mp hy
            obtain ⟨p', hr'⟩ := wrun_add rok hr hes he
            have hg : e.g = none := by
              cases hg : e.g with
              | none => rfl
              | some j => simp [endLE, entD, hg, optD] at hb
            rw [hg] at hr'
            exact ⟨e.c, p', rfl, lets_add rok hw hes he, hr'⟩
          · simp only [List.nil_append, List.length_map]
            have := List.length_filter_le endLE (es.map entD)
            rw [List.length_map] at this
            omega
end K
set_option maxHeartbeats 4000000
set_option exponentiation.threshold 256
namespace K
open PySem DL DP BM M17
/-- the runs of a value that is a word; its faults -/
def runs (r : Rig) (x : D) (h : Hs) (Z : XD) (G : List Nat → Pth → Option Nat → Prop) : Prop :=
  r.ok ∧ Wordy x ∧ (∀ w p rm, x = .str (chS w) → lets w = true → wrun r.cs w = some (p, rm) → w.length ≤ 40 ∧ G w p rm) ∧ (∀ n, dflt r.cs x = some n → Z (xnW n) h)
def brd (r : Rig) (w : List Nat) (p : Pth) (h : Hs) (Z : XD) : Prop := ∀ n, sflt r p = some n → Z (xnBr (chS (w.take (n + 1))) n) h
theorem path_of_runs {r : Rig} {x : D} {h : Hs} {P : D → Hs → Prop} {Z Z' : XD} {G : List Nat → Pth → Option Nat → Prop} (g : runs r x h Z G) (hz : ∀ n, Z (xnW n) h → Z' (xnW n) h) (k : ∀ w p rm, x = .str (chS w) → wrun r.cs w = some (p, rm) → w.length ≤ 40 → G w p rm → P (.tup [.lst (p.map pairD), optD rm]) h) : spPath [rigD r, x] h P Z' :=
  ⟨r, rfl, g.1, g.2.1, fun w p rm hx hw hr => k w p rm hx hr (g.2.2.1 w p rm hx hw hr).1 (g.2.2.1 w p rm hx hw hr).2, fun n hn => hz n (g.2.2.2 n hn)⟩
theorem last_of {ss : List Sp} {n : Nat} (h : ss.length = n + 1) : ∃ s0 s, ss = s0 ++ [s] := ⟨ss.dropLast, ss.getLast (by intro z; subst z; simp at h), (List.dropLast_concat_getLast _).symm⟩
end K
set_option maxHeartbeats 4000000
set_option exponentiation.threshold 256
namespace K
open PySem DL DP BM M17
def spSpanOf : FnD := fun xs h P Z => match xs with
  | [rg, x] => ∃ r : Rig, rg = rigD r ∧ runs r x h Z fun w p rm => (∀ ss s, srun r p = some (ss ++ [s]) → P (spD s) h) ∧ brd r w p h Z
  | _ => False
theorem k_span_of {F : Fns} (f1 : F.f 12 = spPath) (f2 : F.f 15 = spWs) : Kp M F m_span_of 2 spSpanOf := by
  intro xs h Q Z q0
  match xs, q0 with
  | [_, x], ⟨r, rfl, g⟩ =>
    simp [m_span_of, Ss.d, S.d, E.d, Es.d, Es.len, startD, f1, f2, fin, wNeg]
    refine path_of_runs g (fun n z => z) fun w p rm hx hr wl ⟨q1, q2⟩ => ?_
    subst hx
    simp
    refine spWs_i g.1 hr wl (fun ss hs => ?_) q2
    obtain ⟨pl, po, pm⟩ := wrun_ok g.1 hr
    obtain ⟨sl, _⟩ := srun_inv g.1 rfl hs
    obtain ⟨s0, s, rfl⟩ := last_of sl
    have al : L2.atI ((s0 ++ [s]).map spD) (-1) = some (spD s) := by rw [List.map_append]; exact at_last
    simp [al, -List.map_append]
    exact q1 _ _ hs
end K
set_option maxHeartbeats 4000000
set_option exponentiation.threshold 2000
namespace K
open PySem DL DP BM M17
def spWritten : FnD := fun xs h P _ => match xs with
  | [.int n, .int c] => 0 ≤ n ∧ 0 ≤ c ∧ c ≤ 1000 ∧ P (.str (bt n.toNat c.toNat)) h
  | _ => False
theorem k_written {F : Fns} : Kp M F m_written 3 spWritten := by
  intro xs h Q Z q0
  match xs, q0 with
  | [.int n, .int c], ⟨n0, c0, c1, q⟩ =>
    obtain ⟨n, rfl⟩ := Int.eq_ofNat_of_zero_le n0
    obtain ⟨c, rfl⟩ := Int.eq_ofNat_of_zero_le c0
    simp only [Int.toNat_natCast] at q
    simp [m_written, Ss.d, S.d, E.d, startD, List.replicate_succ, dJoin]
    unfold dLc
    simp [Ic.d, dItR3, E.d, wBin, wInt, wNeg]
    repeat (with_reducible refine And.intro ?_ ?_; focus (first | assumption | exact Int.natCast_nonneg _ | omega | decide | (norm_cast; done) | (exact_mod_cast (by assumption))))
    refine lc_map (fun x => match x with | .int p => .str (bt1 (n / 2 ^ p.toNat)) | x => x) (dwnD ((c : Int) - 1) c) [] (fun x hx Kp kp => ?_) (by simp [dwnD]; rw [sl24]; omega) ?_
    · simp only [dwnD, List.mem_map, List.mem_range] at hx
      obtain ⟨i, hi, rfl⟩ := hx
      have hi' : ((c : Int) - 1 - i).toNat = c - 1 - i := by omega
      have e1 : ((n : Int) / 2 ^ (c - 1 - i)) = ((n / 2 ^ (c - 1 - i) : Nat) : Int) := by push_cast; rfl
      dsimp only at kp
      rw [hi'] at kp
      simp [wipeD, E.t, E.d, wBin, wInt]
      refine ⟨by omega, ?_⟩
      rw [e1, band1]
      generalize n / 2 ^ (c - 1 - i) = b at kp ⊢
      unfold bt1 at kp
      by_cases hb : b % 2 = 1
      · rw [if_pos hb] at kp
        exact .inr ⟨by omega, kp⟩
      · rw [if_neg hb] at kp
        exact .inl ⟨by omega, kp⟩
    · refine ⟨_, (List.range c).map fun i => bt1 (n / 2 ^ (c - 1 - i)), rfl, ?_, ?_, ?_⟩
      · simp [seqW, lstW, tupW, dwnD]
      · rw [sum_bt1]
        simp
        have : (Str.ofString "" : Str).length = 0 := by decide +kernel
        rw [this]; omega
      · rw [join_bits]
        exact ⟨_, rfl, q⟩
end K
set_option maxHeartbeats 4000000
set_option exponentiation.threshold 256
namespace K
open PySem DL DP BM M17
theorem cmp_leI {i j : Int} {Q : W → Prop} : wCmp .le (.d (.int i)) (.d (.int j)) Q = Q (.d (.bl (decide (i ≤ j)))) := rfl
theorem bt_chS {n d : Nat} : bt n d = chS (bs n d) := rfl
def spFB : FnD := fun xs h P _ => match xs with
  | [sp] => ∃ s : Sp, sp = spD s ∧ s.ok ∧ s.d ≤ 420 ∧ P (.str (chS (codeL s))) h
  | _ => False
theorem spFB_i {s : Sp} {h : Hs} {P : D → Hs → Prop} {Z : XD} (ok : s.ok) (hd : s.d ≤ 420) (p : P (.str (chS (codeL s))) h) : spFB [spD s] h P Z := ⟨s, rfl, ok, hd, p⟩
theorem fbL_at {s : Sp} {i : Nat} (w0 : 1 ≤ s.w) (h : ∀ j, j < i → fitB s j = false) (hi : fitB s i = true) : fbL s = i := by
  obtain ⟨a, b, c⟩ := fbL_spec w0
  rcases Nat.lt_trichotomy (fbL s) i with g | g | g
  · rw [h _ g] at b; cases b
  · exact g
  · rw [c _ g] at hi; cases hi
theorem k_first_bits {F : Fns} (f1 : F.f 2 = spWritten) : Kp M F m_first_bits 7 spFB := by
  intro xs h Q Z q0
  match xs, q0 with
  | [_], ⟨s, rfl, ok, hd, q⟩ =>
    have hi := ok.hi
    have p4 : 2 ^ s.d ≤ 2 ^ 420 := Nat.pow_le_pow_right (by decide) hd
    have p5 : 2 ^ 420 < 2 ^ 1000 := Nat.pow_lt_pow_right (by decide) (by decide)
    simp [m_first_bits, Ss.d, S.d, E.d, Es.d, startD, List.replicate_succ, Ic.d, dItR1, spD, Tgs.len, wBin, wInt]
    refine ⟨by omega, by omega, ?_⟩
    refine for_inv (fun i ds h' => h' = h ∧ i ≤ s.d + 1 ∧ (∀ j, j < i → fitB s j = false) ∧ ∃ w4 w5 w6, ds = [some (.d (spD s)), some (.d (.int s.l)), some (.d (.int s.w)), some (.d (.int s.d)), w4, w5, w6]) (rngD 0 (s.d + 1)) ?_ ?_ ?_
    · rintro i u ds h' En' hu ⟨rfl, hi2, hf, w4, w5, w6, rfl⟩ hrt hex hbk hnx hct
      obtain ⟨rfl, hin⟩ := rng_get hu
      have e1 : (s.d : Int) - i = ((s.d - i : Nat) : Int) := by omega
      have fb := fb_bd (s := s) (L := i)
      have p1 := Nat.two_pow_pos (s.d - i)
      have p2 : 2 ^ (s.d - i) ≤ 2 ^ s.d := Nat.pow_le_pow_right (by decide) (by omega)
      have e2 : (s.l : Int) + 2 ^ (s.d - i) - 1 = ((s.l + 2 ^ (s.d - i) - 1 : Nat) : Int) := by rw [Int.natCast_sub (by omega)]; push_cast; rfl
      have e3 : ((s.l + 2 ^ (s.d - i) - 1 : Nat) : Int) / 2 ^ (s.d - i) = ((fbN s i : Nat) : Int) := by unfold fbN; push_cast; rfl
      have nl : fbN s i + 1 ≤ 2 ^ 421 := by
        have : fbN s i ≤ fbN s i * 2 ^ (s.d - i) := Nat.le_mul_of_pos_right _ p1
        have e : 2 ^ 421 = 2 ^ 420 * 2 := by rw [← Nat.pow_succ]
        have := ok.w0
        omega
      have nl2 : 2 ^ 421 < 2 ^ 1000 := Nat.pow_lt_pow_right (by decide) (by decide)
      have c1 : CShlA 1 ((s.d - i : Nat) : Int) := cshl (l := 1) (by decide) (by omega)
      have c2 : CShlA ((fbN s i + 1 : Nat) : Int) ((s.d - i : Nat) : Int) := cshl (by omega) (by omega)
      simp [m_first_bits_B1, Ss.d, S.d, E.d, E.t, Es.d, Es.len, wBin, wInt, f1, -Int.natCast_sub]
      rw [e1]
      refine ⟨c1, by omega, ?_⟩
      rw [e2, e3]
      have e4 : ((fbN s i : Nat) : Int) + 1 = ((fbN s i + 1 : Nat) : Int) := by omega
      rw [e4]
      refine ⟨c2, ?_⟩
      have key : decide (((fbN s i + 1 : Nat) : Int) * 2 ^ (s.d - i) ≤ (s.l : Int) + (s.w : Int)) = fitB s i := by
        unfold fitB
        refine decide_eq_decide.mpr ⟨fun z => by exact_mod_cast z, fun z => by exact_mod_cast z⟩
      simp only [cmp_leI]
      rw [key]
      cases hfi : fitB s i with
      | true =>
        refine .inr ⟨rfl, ?_⟩
        refine ⟨by omega, by omega, by omega, ?_⟩
        have : fbL s = i := fbL_at ok.w0 hf hfi
        simp only [Int.toNat_natCast]
        rw [bt_chS, hrt]
        unfold codeL codeN at q
        rw [this] at q
        exact q
      | false =>
        refine .inl ⟨rfl, hnx _ _ ⟨rfl, by omega, fun j hj => ?_, _, _, _, rfl⟩⟩
        rcases Nat.lt_succ_iff_lt_or_eq.mp hj with g | g
        · exact hf j g
        · subst g; exact hfi
    · exact ⟨rfl, by omega, fun j hj => absurd hj (by omega), none, none, none, rfl⟩
    · rintro ds h' ⟨rfl, hi2, hf, w4, w5, w6, rfl⟩
      rw [rng_len] at hf
      have := hf s.d (by omega)
      rw [fit_d ok.w0] at this
      cases this
/-- the code of a word that has ended -/
def spCode : FnD := fun xs h P Z => match xs with
  | [rg, x] => ∃ r : Rig, rg = rigD r ∧ runs r x h Z fun w p rm => (∀ ss s, rm = none → srun r p = some (ss ++ [s]) → P (.str (chS (codeL s))) h) ∧ (rm = none → brd r w p h Z) ∧ (∀ k, rm = some k → Z (xnW w.length) h)
  | _ => False
theorem k_code_of {F : Fns} (f1 : F.f 12 = spPath) (f2 : F.f 15 = spWs) (f3 : F.f 17 = spFB) : Kp M F m_code_of 4 spCode := by
  intro xs h Q Z q0
  match xs, q0 with
  | [_, x], ⟨r, rfl, g⟩ =>
    simp [m_code_of, Ss.d, S.d, E.d, E.t, Es.d, Es.len, startD, List.replicate_succ, f1, f2, f3, fin, wNeg, sl24]
    refine path_of_runs g (fun n z => z) fun w p rm hx hr wl ⟨q1, q2, q3⟩ => ?_
    subst hx
    simp [Tgs.len]
    cases rm with
    | some k =>
      have q3' : Z { c := 0, fs := [("at", .int w.length), ("word", .str "word")] } h := q3 k rfl
      simp [optD, dRaise, flW]
      exact ⟨by rw [sl24]; omega, q3'⟩
    | none =>
      simp [optD]
      refine spWs_i g.1 hr wl (fun ss hs => ?_) (q2 rfl)
      obtain ⟨pl, po, pm⟩ := wrun_ok g.1 hr
      obtain ⟨sl, sk⟩ := srun_inv g.1 rfl hs
      obtain ⟨s0, s, rfl⟩ := last_of sl
      have sk := sk s (by simp)
      have al : L2.atI ((s0 ++ [s]).map spD) (-1) = some (spD s) := by rw [List.map_append]; exact at_last
      simp [al, -List.map_append]
      exact spFB_i sk.1 (by omega) (q1 _ _ rfl hs)
end K
set_option maxHeartbeats 4000000
set_option exponentiation.threshold 256
namespace K
open PySem DL DP BM M17
def useD (n : Int) : D := .tup [.str "use", .str "word", .int n]
def barD (w : List Nat) (n : Nat) : D := .tup [.str "barred", .str (chS (w.take (n + 1))), .int n]
def toldD (d : D) : D := .tup [.str "told", d]
/-- the spans as far as they go -/
def asfar (r : Rig) (p : Pth) (ss : List Sp) : Prop := srun r p = some ss ∨ ∃ n, sflt r p = some n ∧ srun r (p.take n) = some ss
theorem asfar_some {r : Rig} {p : Pth} {ss : List Sp} (rok : r.ok) (a : asfar r p ss) : (srun r p = some ss ∧ ss.length = p.length + 1) ∨ ∃ n, sflt r p = some n ∧ ss.length = n + 1 ∧ n < p.length := by
  rcases a with a | ⟨n, a, b⟩
  · exact .inl ⟨a, (srun_inv rok rfl a).1⟩
  · have hn := (sflt_inv a).1
    exact .inr ⟨n, a, (srun_inv rok (n := n) (by simp; omega) b).1, hn⟩
structure Asc (v : List Nat) : Prop where
  c : ∀ c ∈ v, c < 128
  l : v.length ≤ 40
theorem wordy_asc {v : List Nat} (h : Asc v) : Wordy (.str (chS v)) := ⟨rfl, fun t e => by cases e; have := h.l; show v.toArray.size ≤ 1000; simp; omega, (bd_chS (m := 1000) h.c (by have := h.l; omega)).mono⟩
/-- what is handed to the functions -/
structure Odd (x : D) : Prop where
  w : Wordy x
  l : ∀ v, x = .str (chS v) → v.length ≤ 40
theorem odd_asc {v : List Nat} (h : Asc v) : Odd (.str (chS v)) := ⟨wordy_asc h, fun u e => by
  have : chS v = chS u := by injection e
  cases chS_inj.mp this; exact h.l⟩
theorem odd_plain {x : D} (g : good x = true) (b : Bd 20000 10 x) (n : ∀ t, x ≠ .str t) : Odd x := ⟨⟨g, fun t e => absurd e (n t), b⟩, fun v e => absurd e (n _)⟩
theorem Asc.app {a b : List Nat} (ha : ∀ c ∈ a, c < 128) (hb : ∀ c ∈ b, c < 128) (l : a.length + b.length ≤ 40) : Asc (a ++ b) := ⟨fun c hc => by
  rcases List.mem_append.mp hc with h | h
  · exact ha c h
  · exact hb c h, by simpa using l⟩
section
variable {r : Rig} {x : D} {h : Hs} {P1 : D → Hs → Prop} {Z1 : XD} {P : D → Hs → Prop}
/-- a word -/
structure Wd (r : Rig) (x : D) (w : List Nat) (p : Pth) (rm : Option Nat) : Prop where
  e : x = .str (chS w)
  l : lets w = true
  r : wrun r.cs w = some (p, rm)
  n : w.length ≤ 40
theorem Wd.uniq {w w' : List Nat} {p p' : Pth} {rm rm' : Option Nat} (a : Wd r x w p rm) (e : x = .str (chS w')) (hr : wrun r.cs w' = some (p', rm')) : w' = w ∧ p' = p ∧ rm' = rm := by
  have e2 : chS w = chS w' := by have := a.e.symm.trans e; injection this
  cases chS_inj.mp e2
  have := a.r.symm.trans hr
  injection this with this
  injection this with h1 h2
  exact ⟨rfl, h1.symm, h2.symm⟩
theorem Wd.no {w : List Nat} {p : Pth} {rm : Option Nat} (a : Wd r x w p rm) {n : Int} (hn : dflt r.cs x = some n) : False := by
  rw [a.e, dflt_ch a.l, wflt_none a.r] at hn; cases hn
theorem runs_w {w : List Nat} {p : Pth} {rm : Option Nat} {G : List Nat → Pth → Option Nat → Prop} (rok : r.ok) (wx : Wordy x) (a : Wd r x w p rm) (g : G w p rm) : runs r x h Z1 G :=
  ⟨rok, wx, fun w' p' rm' e _ hr => by obtain ⟨rfl, rfl, rfl⟩ := a.uniq e hr; exact ⟨a.n, g⟩, fun n hn => (a.no hn).elim⟩
theorem runs_f {G : List Nat → Pth → Option Nat → Prop} {n : Int} (rok : r.ok) (wx : Wordy x) (a : dflt r.cs x = some n) (z : Z1 (xnW n) h) : runs r x h Z1 G :=
  ⟨rok, wx, fun (w : List Nat) (p : Pth) (rm : Option Nat) (e : x = .str (chS w)) (hl : lets w = true) (hr : wrun r.cs w = some (p, rm)) => (by rw [e, dflt_ch hl, wflt_none hr] at a; cases a), fun n' hn => by rw [a] at hn; cases hn; exact z⟩
end
theorem spLSpans_j {r : Rig} {w : List Nat} {p : Pth} {rm : Option Nat} {h : Hs} {P : D → Hs → Prop} {Z : XD} (rok : r.ok) (hr : wrun r.cs w = some (p, rm)) (wl : w.length ≤ 800) (q : ∀ ss, asfar r p ss → P (.lst (ss.map spD)) h) : spLSpans [rigD r, .str (chS w)] h P Z :=
  spLSpans_i rok hr wl (fun ss hs => q ss (.inl hs)) (fun n ss hn hs => q ss (.inr ⟨n, hn, hs⟩))
theorem told_bd {n d : Nat} {x : D} (b : Bd n d x) : Bd (n + 200) (d + 1) (toldD x) := (Bds.cons (x := .str "told") (n := 100) (d := 0) ⟨by decide +kernel, by decide +kernel, by decide +kernel⟩ (Bds.cons b (Bds.nil (d := 0)))).tup.mono
theorem bar_bd {w : List Nat} {n : Nat} (hl : lets w = true) (wl : w.length ≤ 40) (hn : n ≤ 1000) : Bd 1000 1 (barD w n) :=
  (Bds.cons (x := .str "barred") (n := 100) (d := 0) ⟨by decide +kernel, by decide +kernel, by decide +kernel⟩ (Bds.cons (bd_chS (m := 40) (fun c hc => lets_lt hl c (List.mem_of_mem_take hc)) (by simp; omega)) (Bds.cons (bd_int64 (i := (n : Int)) (by omega) (by omega)) (Bds.nil (d := 0))))).tup.mono
theorem sp_lt {r : Rig} {p : Pth} {s0 : List Sp} {s : Sp} (rok : r.ok) (pl : p.length ≤ 40) (h : srun r p = some (s0 ++ [s])) : s.ok ∧ s.d ≤ 405 := by
  obtain ⟨a, b⟩ := (srun_inv rok rfl h).2 s (by simp)
  exact ⟨a, by omega⟩
theorem use_bd (n : Int) (h : n.natAbs ≤ 1000) : Bd 400 1 (useD n) := (Bds.cons (x := .str "use") (n := 100) (d := 0) ⟨by decide +kernel, by decide +kernel, by decide +kernel⟩ (Bds.cons (x := .str "word") (n := 100) (d := 0) ⟨by decide +kernel, by decide +kernel, by decide +kernel⟩ (Bds.cons (bd_int64 (i := n) (by omega) (by omega)) (Bds.nil (d := 0))))).tup.mono
theorem wd_or {r : Rig} {x : D} (rok : r.ok) (o : Odd x) : (∃ w p rm, Wd r x w p rm) ∨ ∃ n, dflt r.cs x = some n := by
  cases x <;> first | exact .inr ⟨_, rfl⟩ | skip
  rename_i s
  obtain ⟨w, rfl⟩ : ∃ w, s = chS w := ⟨s.cps.toList, (chS_self s).symm⟩
  cases hl : lets w with
  | false => exact .inr ⟨-1, by show (if lets (chS w).cps.toList = true then _ else _) = _; rw [chS_cps, hl] <;> rfl⟩
  | true =>
    rcases wflt_or (cs := r.cs) (w := w) with ⟨⟨p, rm⟩, h⟩ | ⟨n, h⟩
    · exact .inl ⟨w, p, rm, rfl, hl, h, o.l w rfl⟩
    · exact .inr ⟨n, by rw [dflt_ch hl, h] <;> rfl⟩
theorem dflt_bd {r : Rig} {x : D} {n : Int} (o : Odd x) (hn : dflt r.cs x = some n) : n.natAbs ≤ 1000 := by
  cases x <;> first | (cases hn; decide) | skip
  rename_i s
  obtain ⟨w, rfl⟩ : ∃ w, s = chS w := ⟨s.cps.toList, (chS_self s).symm⟩
  have wl := o.l w rfl
  cases hl : lets w with
  | false =>
    have : dflt r.cs (.str (chS w)) = some (-1) := by show (if lets (chS w).cps.toList = true then _ else _) = _; rw [chS_cps, hl] <;> rfl
    rw [this] at hn; cases hn; decide
  | true =>
    rw [dflt_ch hl] at hn
    cases h : wflt r.cs w with
    | none => rw [h] at hn; cases hn
    | some m =>
      rw [h] at hn
      have : n = (m : Int) := by simpa using hn.symm
      unfold wflt at h
      rw [List.find?_range_eq_some] at h
      have : m < w.length := by simpa using h.2.1
      omega
end K
set_option maxHeartbeats 4000000
set_option exponentiation.threshold 2000
namespace K
open PySem DL DP BM M17
theorem us_ {P : D → Hs → Prop} {h : Hs} {n : Int} (p : P (useD n) h) : sdZ P (xnW n) h := .inl ⟨rfl, _, _, rfl, p⟩
theorem br_ {P : D → Hs → Prop} {h : Hs} {w : List Nat} {n : Nat} (p : P (barD w n) h) : sdZ P (xnBr (chS (w.take (n + 1))) n) h := .inr ⟨rfl, _, _, rfl, p⟩
end K
set_option maxHeartbeats 4000000
set_option exponentiation.threshold 2000
namespace K
open PySem DL DP BM M17
def spLBits : FnD := fun xs h P _ => match xs with
  | [.int n, .int c] => 0 ≤ n ∧ 0 ≤ c ∧ c ≤ 1000 ∧ P (.str (bt n.toNat c.toNat)) h
  | _ => False
theorem k_law_bits {F : Fns} : Kp M F m_law_bits 4 spLBits := by
  intro xs h Q Z q0
  match xs, q0 with
  | [.int n, .int c], ⟨n0, c0, c1, q⟩ =>
    obtain ⟨n, rfl⟩ := Int.eq_ofNat_of_zero_le n0
    obtain ⟨c, rfl⟩ := Int.eq_ofNat_of_zero_le c0
    simp only [Int.toNat_natCast] at q
    simp [m_law_bits, Ss.d, S.d, E.d, Es.d, startD, List.replicate_succ, Ic.d, dItR1, sl24]
    refine ⟨by omega, ?_⟩
    refine for_inv (fun i ds h' => h' = h ∧ i ≤ c ∧ ∃ w3, ds = [some (.d (.int ((n / 2 ^ i : Nat) : Int))), some (.d (.int c)), some (.own ((List.range i).map fun j => .str (bt1 (n / 2 ^ j)))), w3]) (rngD 0 c) ?_ ?_ ?_
    · rintro i u ds h' En' hu ⟨rfl, hi, w3, rfl⟩ hrt hex hbk hnx hct
      obtain ⟨rfl, hin⟩ := rng_get hu
      have dv : CDivA ((n / 2 ^ i : Nat) : Int) 2 := .inl ⟨by decide, by decide⟩
      have l1 : i < 16777216 := by omega
      generalize hm : n / 2 ^ i = m at dv ⊢
      have hm2 : n / 2 ^ (i + 1) = m / 2 := by rw [Nat.pow_succ, ← Nat.div_div_eq_div_mul, hm]
      simp [dApp, wBin, wInt, wB1, wIntc, sl24, l1, -Int.natCast_ediv, -Int.natCast_emod]
      have e : ((m : Int) % 2) = ((m % 2 : Nat) : Int) := by omega
      rw [e]
      refine ⟨?_, _, rfl, dv, hnx _ _ ⟨rfl, by omega, some (.d (.int (i : Int))), ?_⟩⟩
      · rcases Nat.mod_two_eq_zero_or_one m with z | z <;> rw [z] <;> decide +kernel
      · rw [hm2, List.range_succ, List.map_append, List.map_cons, List.map_nil, hm, strc_bit] <;> rfl
    · exact ⟨rfl, by omega, none, by simp⟩
    · rintro ds h' ⟨rfl, hi, w3, rfl⟩
      simp [dFrz, dJoin, wRevL, lstW]
      refine ⟨_, (List.range c).map fun i => bt1 (n / 2 ^ (c - 1 - i)), rfl, ?_, ?_, ?_⟩
      · simp only [seqW, lstW, tupW, Option.some_or, Option.some.injEq]
        first | rw [rev_range] | rw [List.map_reverse, rev_range]
        simp
      · rw [sum_bt1]
        simp
        have : (Str.ofString "" : Str).length = 0 := by decide +kernel
        rw [this]; omega
      · rw [join_bits]
        exact ⟨_, rfl, q⟩
end K
set_option maxHeartbeats 4000000
set_option exponentiation.threshold 256
namespace K
open PySem DL DP BM M17
def spSpans : GnD := fun xs h P Z => match xs with
  | [rg, x] => ∃ r : Rig, rg = rigD r ∧ runs r x h Z fun w p rm => (∀ ss, srun r p = some ss → P (ss.map spD) h) ∧ brd r w p h Z
  | _ => False
theorem yld_id {P : List D → Hs → Prop} {Z : XD} {a b c : Option W} {h : Hs} : ∀ (xs acc : List D) (w3 : Option W), acc.length + xs.length ≤ 1000 → P (acc ++ xs) h → yldD (.nm 3) (dVar 3) P Z xs acc [a, b, c, w3] h
  | [], acc, w3, _, p => by unfold yldD; simpa using p
  | x :: xs, acc, w3, hl, p => by
    unfold yldD
    simp at hl
    refine ⟨by rw [sl24]; omega, ?_⟩
    simp [Tg.put, dD]
    exact yld_id xs (acc ++ [x]) (some (.d x)) (by simp; omega) (by simpa using p)
theorem k_spans_of {F : Fns} (f1 : F.f 12 = spPath) (f2 : F.f 15 = spWs) : KpG M F g_spans_of spSpans := by
  intro xs h Q Z q0
  match xs, q0 with
  | [_, x], ⟨r, rfl, g⟩ =>
    simp [Dg.d, g_spans_of, S.d, E.d, Es.d, Es.len, N_spans_of, startD, f1, f2]
    refine path_of_runs g (fun n z => z) fun w p rm hx hr wl ⟨q1, q2⟩ => ?_
    subst hx
    simp
    refine spWs_i g.1 hr wl (fun ss hs => ?_) q2
    obtain ⟨pl, po, pm⟩ := wrun_ok g.1 hr
    obtain ⟨sl, _⟩ := srun_inv g.1 rfl hs
    simp [Ic.d, dItL, dD, E.d]
    exact yld_id _ [] _ (by simp; omega) (by simpa using q1 ss hs)
theorem cdivK {a b : Nat} (hb : 0 < b) (h : b < 2 ^ 1000) : CDivA (a : Int) (b : Int) := .inr ⟨by omega, by
  rw [Int.natAbs_natCast]
  have := log2_lt h (by decide)
  omega⟩
theorem mulK {a b : Nat} (a0 : 0 < a) (b0 : 0 < b) (a1 : a < 2 ^ 1000) (b1 : b < 2 ^ 1000) : CMulA (a : Int) (b : Int) := by
  have l1 := log2_lt a1 (by decide)
  have l2 := log2_lt b1 (by decide)
  refine .inr ?_
  show (a : Int).natAbs.log2 + (b : Int).natAbs.log2 < 1000000
  rw [Int.natAbs_natCast, Int.natAbs_natCast]
  omega
def spLCode : FnD := fun xs h P _ => match xs with
  | [sp] => ∃ s : Sp, sp = spD s ∧ s.ok ∧ s.d ≤ 420 ∧ P (.str (chS (codeL s))) h
  | _ => False
theorem k_law_code {F : Fns} (f1 : F.f 25 = spTwo) (f2 : F.f 38 = spLBits) : Kp M F m_law_code 5 spLCode := by
  intro xs h Q Z q0
  match xs, q0 with
  | [_], ⟨s, rfl, ok, hd, q⟩ =>
    have hi := ok.hi
    have p4 : 2 ^ s.d ≤ 2 ^ 420 := Nat.pow_le_pow_right (by decide) hd
    have p5 : 2 ^ 420 < 2 ^ 1000 := Nat.pow_lt_pow_right (by decide) (by decide)
    obtain ⟨fb1, fb2, fb3⟩ := fbL_spec ok.w0
    simp [m_law_code, Ss.d, S.d, E.d, Es.d, Es.len, startD, List.replicate_succ, Ic.d, dItR1, spD, f1, wBin, wInt, dPar2, stW, spTwo]
    refine ⟨by omega, by omega, by omega, ?_⟩
    refine for_inv (fun i ds h' => h' = h ∧ i ≤ s.d + 1 ∧ ∃ c w3 w4, (i ≤ s.d → c = ((2 ^ (s.d - i) : Nat) : Int)) ∧ ds = [some (.d (spD s)), some (.d (.int c)), some (.d (if fbL s < i then .str (chS (codeL s)) else .non)), w3, w4]) (rngD 0 (s.d + 1)) ?_ ?_ ?_
    · rintro i u ds h' En' hu ⟨rfl, hi2, c, w3, w4, hc, rfl⟩ hrt hex hbk hnx hct
      obtain ⟨rfl, hin⟩ := rng_get hu
      have hc := hc (by omega)
      subst hc
      have p1 := Nat.two_pow_pos (s.d - i)
      have p2 : 2 ^ (s.d - i) ≤ 2 ^ s.d := Nat.pow_le_pow_right (by decide) (by omega)
      have fb := fb_bd (s := s) (L := i)
      have e2 : (s.l : Int) + ((2 ^ (s.d - i) : Nat) : Int) - 1 = ((s.l + 2 ^ (s.d - i) - 1 : Nat) : Int) := by rw [Int.natCast_sub (by omega)]; push_cast; rfl
      have e3 : ((s.l + 2 ^ (s.d - i) - 1 : Nat) : Int) / ((2 ^ (s.d - i) : Nat) : Int) = ((fbN s i : Nat) : Int) := by unfold fbN; push_cast; rfl
      simp [Ss.d, S.d, E.d, E.t, Es.d, Es.len, wBin, wInt, spD, -Int.natCast_sub, -Int.natCast_pow]
      rw [e2, e3]
      have big : 2 ^ 421 = 2 ^ 420 * 2 := by rw [← Nat.pow_succ]
      have b10 : 2 ^ 421 < 2 ^ 1000 := Nat.pow_lt_pow_right (by decide) (by decide)
      have nl : fbN s i + 1 ≤ 2 ^ 421 := by
        have : fbN s i ≤ fbN s i * 2 ^ (s.d - i) := Nat.le_mul_of_pos_right _ p1
        have := ok.w0
        omega
      have e4 : ((fbN s i : Nat) : Int) + 1 = ((fbN s i + 1 : Nat) : Int) := by omega
      rw [e4]
      have dv : CDivA ((s.l + 2 ^ (s.d - i) - 1 : Nat) : Int) ((2 ^ (s.d - i) : Nat) : Int) := cdivK p1 (by omega)
      have dv2 : CDivA ((2 ^ (s.d - i) : Nat) : Int) 2 := .inl ⟨by decide, by decide⟩
      have hv : i + 1 ≤ s.d → ((2 ^ (s.d - i) : Nat) : Int) / 2 = ((2 ^ (s.d - (i + 1)) : Nat) : Int) := fun z => by
        have e : s.d - i = (s.d - (i + 1)) + 1 := by omega
        rw [e, Nat.pow_succ]
        omega
      refine ⟨dv, ?_⟩
      have mu : CMulA ((fbN s i + 1 : Nat) : Int) ((2 ^ (s.d - i) : Nat) : Int) := mulK (by omega) p1 (by omega) (by omega)
      have key : decide (((fbN s i + 1 : Nat) : Int) * ((2 ^ (s.d - i) : Nat) : Int) ≤ (s.l : Int) + (s.w : Int)) = fitB s i := by
        unfold fitB
        refine decide_eq_decide.mpr ⟨fun z => by exact_mod_cast z, fun z => by exact_mod_cast z⟩
      simp only [cmp_leI]
      rw [key]
      by_cases hlt : fbL s < i
      · have h1 : fbL s < i + 1 := by omega
        simp only [if_pos hlt]
        rw [if_neg (by simp)]
        exact ⟨dv2, hnx _ _ ⟨rfl, by omega, _, some (.d (.int (i : Int))), some (.d (.int ((fbN s i : Nat) : Int))), hv, by simp [h1, spD]⟩⟩
      · simp only [if_neg hlt]
        rw [if_pos trivial]
        refine ⟨mu, ?_⟩
        cases hfi : fitB s i with
        | false =>
          have h1 : ¬ fbL s < i + 1 := fun z => by
            have : fbL s = i := by omega
            rw [← this, fb2] at hfi
            cases hfi
          exact .inl ⟨rfl, dv2, hnx _ _ ⟨rfl, by omega, _, some (.d (.int (i : Int))), some (.d (.int ((fbN s i : Nat) : Int))), hv, by simp [h1, spD]⟩⟩
        | true =>
          have e := fbL_at ok.w0 (fun j hj => fb3 j (by omega)) hfi
          have h1 : fbL s < i + 1 := by omega
          refine .inr ⟨rfl, ?_⟩
          rw [f2]
          refine ⟨by omega, by omega, by omega, dv2, hnx _ _ ⟨rfl, by omega, _, some (.d (.int (i : Int))), some (.d (.int ((fbN s i : Nat) : Int))), hv, ?_⟩⟩
          simp only [Int.toNat_natCast, if_pos h1]
          rw [bt_chS]
          unfold codeL codeN
          rw [e]
          simp [spD]
    · exact ⟨rfl, by omega, _, none, none, fun _ => by push_cast; rfl, by simp [spD]⟩
    · rintro ds h' ⟨rfl, hi2, c, w3, w4, hc, rfl⟩
      rw [rng_len]
      have : fbL s < s.d + 1 := by omega
      simp [this, fin]
      exact q
end K
set_option maxHeartbeats 4000000
set_option exponentiation.threshold 256
namespace K
open PySem DL DP BM M17
def spOddW : FnD := fun xs h P _ => match xs with
  | [.ref 0, _, x] => ∃ (w : List Nat) (k : Nat), x = .str (chS w) ∧ lets w = true ∧ w.length ≤ 30 ∧ FH k h ∧ k ≤ 900000 ∧ ∀ y h', Odd y → FH (k + 3) h' → P y h'
  | _ => False
theorem c_k : (Str.ofString "k" : Str) = chS [107] := by decide +kernel
theorem c_A : (Str.ofString "A" : Str) = chS [65] := by decide +kernel
theorem c_1 : (Str.ofString "1" : Str) = chS [49] := by decide +kernel
theorem c_m : (Str.ofString "-" : Str) = chS [45] := by decide +kernel
theorem c_s : (Str.ofString " " : Str) = chS [32] := by decide +kernel
theorem c_ab : (Str.ofString "ab" : Str) = chS [97, 98] := by decide +kernel
theorem c_q : (Str.ofString "q" : Str) = chS [113] := by decide +kernel
theorem k_law_odd_word {F : Fns} (f0 : F.f 20 = spDraw) (f1 : F.f 21 = spAny) : Kp M F m_law_odd_word 6 spOddW := by
  intro xs h Q Z q0
  match xs, q0 with
  | [.ref 0, rg, _], ⟨w, k, rfl, hw, wl, hs, hk, q⟩ =>
    have wl2 : w.length ≤ 16777216 := by omega
    have wc := lets_lt hw
    have tk : ∀ n, ∀ c ∈ w.take n, c < 128 := fun n c hc => wc c (List.mem_of_mem_take hc)
    have dr : ∀ n, ∀ c ∈ w.drop n, c < 128 := fun n c hc => wc c (List.mem_of_mem_drop hc)
    simp [m_law_odd_word, Ss.d, S.d, E.d, Es.d, Es.len, startD, List.replicate_succ, f0, spDraw, wInt, sl24, wl2]
    refine ⟨k, hs, by omega, by omega, fun sp h1 sp0 sp1 s1 => ?_⟩
    obtain ⟨sp, rfl⟩ := Int.eq_ofNat_of_zero_le sp0
    have e1 : (1 : Int) = ((1 : Nat) : Int) := rfl
    have e14 : (14 : Int) = ((14 : Nat) : Int) := rfl
    have ct1 : L2.cutS (chS w) none (some 1) = chS (w.take 1) := cut_take (k := 1)
    have ct14 : L2.cutS (chS w) none (some 14) = chS (w.take 14) := cut_take (k := 14)
    simp [dSl, dNo, dPart, Oe.d, E.d, wSl, sl24, wl2, ct1, ct14, cut_take, cut_drop, f1, spAny]
    refine ⟨k + 1, s1, by omega, fun sg h2 hsg s2 => ?_⟩
    obtain ⟨v, rfl, vc, vl⟩ : ∃ v, sg = .str (chS v) ∧ (∀ c ∈ v, c < 128) ∧ v.length ≤ 2 := by
      rcases hsg with rfl | rfl | rfl | rfl | rfl | rfl | rfl | rfl
      · exact ⟨_, by rw [c_k], by simp, by simp⟩
      · exact ⟨_, by rw [c_A], by simp, by simp⟩
      · exact ⟨_, by rw [c_1], by simp, by simp⟩
      · exact ⟨_, by rw [c_m], by simp, by simp⟩
      · exact ⟨_, by rw [c_s], by simp, by simp⟩
      · exact ⟨_, by rw [c_ab], by simp, by simp⟩
      · exact ⟨_, rfl, tk 1, by simp; omega⟩
      · exact ⟨_, by rw [chS_nil], by simp, by simp⟩
    simp [chS_app, c_q, sl24]
    refine ⟨by omega, by omega, by omega, by omega, k + 2, s2, by omega, fun y h3 hy s3 => ?_⟩
    refine q y h3 ?_ s3
    have vd : ∀ c ∈ v ++ w.drop sp, c < 128 := fun c hc => by
      rcases List.mem_append.mp hc with hc | hc
      · exact vc c hc
      · exact dr sp c hc
    rcases hy with rfl | rfl | rfl | rfl | rfl | rfl | rfl | rfl
    · exact odd_asc (Asc.app (tk sp) vd (by simp; omega))
    · exact odd_asc (Asc.app wc (by simp) (by simp; omega))
    · exact odd_asc (Asc.app (tk 14) (tk 14) (by simp; omega))
    · exact odd_plain rfl bd_non.mono fun t => D.noConfusion
    · exact odd_plain rfl (bd_int64 (i := 3) (by decide) (by decide)).mono fun t => D.noConfusion
    · exact odd_plain rfl ((Bds.cons (x := .str (Str.ofString "a")) (n := 100) (d := 0) ⟨by decide +kernel, by decide +kernel, by decide +kernel⟩ (Bds.nil (d := 0))).tup.mono) fun t => D.noConfusion
    · exact odd_plain rfl bd_bl.mono fun t => D.noConfusion
    · exact odd_asc ⟨tk sp, by simp; omega⟩
def dueW (r : Rig) (w : List Nat) (p : Pth) : D := match sflt r p with
  | some n => barD w n
  | none => match srun r p with
    | some ss => toldD (.lst (ss.map spD))
    | none => .non
theorem due_bar {r : Rig} {w : List Nat} {p : Pth} {n : Nat} (h : sflt r p = some n) : dueW r w p = barD w n := by simp [dueW, h]
theorem due_told {r : Rig} {w : List Nat} {p : Pth} {ss : List Sp} (h : srun r p = some ss) : dueW r w p = toldD (.lst (ss.map spD)) := by simp [dueW, sflt_none h, h]
/-- e: a message is wanted -/
def dueE (r : Rig) (w : List Nat) (p : Pth) (rm : Option Nat) (e : Bool) : D := if (e && rm.isSome) = true then useD w.length else dueW r w p
def spLDue : FnD := fun xs h P _ => match xs with
  | [rg, x, .bl e] => ∃ r : Rig, rg = rigD r ∧ r.ok ∧ Odd x ∧ (∀ w p rm, Wd r x w p rm → P (dueE r w p rm e) h) ∧ (∀ n, dflt r.cs x = some n → P (useD n) h)
  | _ => False
theorem k_law_due {F : Fns} (f0 : F.f 33 = spLFault) (f1 : F.f 34 = spLCtx) (f2 : F.f 36 = spLSpans) : Kp M F m_law_due 5 spLDue := by
  intro xs h Q Z q0
  match xs, q0 with
  | [_, x, .bl e], ⟨r, rfl, rok, ox, q1, q2⟩ =>
    have wx := ox.w
    simp [m_law_due, Ss.d, S.d, E.d, E.t, Es.d, Es.len, startD, List.replicate_succ, f0, f1, f2, fin, sl24]
    refine spLFault_i rok wx ?_
    rcases wd_or rok ox with ⟨w, p, rm, wd⟩ | ⟨n, hn⟩
    · have dn : dflt r.cs x = none := by rw [wd.e, dflt_ch wd.l, wflt_none wd.r] <;> rfl
      rw [dn]
      simp [optI]
      have q := q1 w p rm wd
      obtain ⟨rfl, hl, hr, wl⟩ := wd
      obtain ⟨pl, po, pm⟩ := wrun_ok rok hr
      have wl2 : w.length ≤ 16777216 := by omega
      cases e with
      | false =>
        refine Or.inl ⟨rfl, ?_⟩
        have q : Q (dueW r w p) h := q
        refine spLSpans_j rok hr (by omega) fun ss af => ?_
        clear q1 q2
        rcases asfar_some rok af with ⟨a, l⟩ | ⟨n, a, l, hn⟩
        · have g : ¬ ss.length ≤ w.length := by omega
          rw [due_told a] at q
          simp [wCmp, wLt, wl2, sl24]
          first | rw [if_pos (by first | exact g | omega | exact_mod_cast g | (push_cast; omega) | simpa using g)] | rw [if_neg (by first | exact g | omega | exact_mod_cast g | (push_cast; omega) | simpa using g)] | refine Or.inl ⟨(by first | exact g | omega | exact_mod_cast g | (push_cast; omega) | simpa using g), ?_⟩ | refine Or.inr ⟨(by first | exact g | omega | exact_mod_cast g | (push_cast; omega) | simpa using g), ?_⟩
          exact q
        · have g : ss.length ≤ w.length := by omega
          rw [due_bar a] at q
          simp [wCmp, wLt, wl2, sl24]
          first | rw [if_pos (by first | exact g | omega | exact_mod_cast g | (push_cast; omega) | simpa using g)] | rw [if_neg (by first | exact g | omega | exact_mod_cast g | (push_cast; omega) | simpa using g)] | refine Or.inl ⟨(by first | exact g | omega | exact_mod_cast g | (push_cast; omega) | simpa using g), ?_⟩ | refine Or.inr ⟨(by first | exact g | omega | exact_mod_cast g | (push_cast; omega) | simpa using g), ?_⟩
          simp [dSl, dNo, dPart, Oe.d, E.d, wSl, sl24, wl2, cut_take, wBin, wInt, fin, l]
          have e : ((n : Int) + 1) = ((n + 1 : Nat) : Int) := by omega
          rw [e, cut_take]
          exact q
      | true =>
        refine Or.inr ⟨rfl, ?_⟩
        refine spLCtx_i rok hr (by omega) ?_
        cases rm with
        | none =>
          have q : Q (dueW r w p) h := q
          simp [optD]
          refine spLSpans_j rok hr (by omega) fun ss af => ?_
          clear q1 q2
          rcases asfar_some rok af with ⟨a, l⟩ | ⟨n, a, l, hn⟩
          · have g : ¬ ss.length ≤ w.length := by omega
            rw [due_told a] at q
            simp [wCmp, wLt, wl2, sl24]
            first | rw [if_pos (by first | exact g | omega | exact_mod_cast g | (push_cast; omega) | simpa using g)] | rw [if_neg (by first | exact g | omega | exact_mod_cast g | (push_cast; omega) | simpa using g)] | refine Or.inl ⟨(by first | exact g | omega | exact_mod_cast g | (push_cast; omega) | simpa using g), ?_⟩ | refine Or.inr ⟨(by first | exact g | omega | exact_mod_cast g | (push_cast; omega) | simpa using g), ?_⟩
            exact q
          · have g : ss.length ≤ w.length := by omega
            rw [due_bar a] at q
            simp [wCmp, wLt, wl2, sl24]
            first | rw [if_pos (by first | exact g | omega | exact_mod_cast g | (push_cast; omega) | simpa using g)] | rw [if_neg (by first | exact g | omega | exact_mod_cast g | (push_cast; omega) | simpa using g)] | refine Or.inl ⟨(by first | exact g | omega | exact_mod_cast g | (push_cast; omega) | simpa using g), ?_⟩ | refine Or.inr ⟨(by first | exact g | omega | exact_mod_cast g | (push_cast; omega) | simpa using g), ?_⟩
            simp [dSl, dNo, dPart, Oe.d, E.d, wSl, sl24, wl2, cut_take, wBin, wInt, fin, l]
            have e : ((n : Int) + 1) = ((n + 1 : Nat) : Int) := by omega
            rw [e, cut_take]
            exact q
        | some k =>
          have q : Q (useD w.length) h := q
          simp [optD, wl2, sl24]
          exact q
    · rw [hn]
      simp only [optI]
      simp
      exact q2 n hn
end K
set_option maxHeartbeats 4000000
set_option exponentiation.threshold 256
namespace K
open PySem DL DP BM M17
def lastD (r : Rig) (w : List Nat) (p : Pth) (f : Sp → D) : D := match sflt r p with
  | some n => barD w n
  | none => match srun r p with
    | some ss => (match ss.getLast? with
      | some s => toldD (f s)
      | none => .non)
    | none => .non
theorem last_bar {r : Rig} {w : List Nat} {p : Pth} {n : Nat} {f : Sp → D} (h : sflt r p = some n) : lastD r w p f = barD w n := by simp [lastD, h]
theorem last_told {r : Rig} {w : List Nat} {p : Pth} {s0 : List Sp} {s : Sp} {f : Sp → D} (h : srun r p = some (s0 ++ [s])) : lastD r w p f = toldD (f s) := by simp [lastD, sflt_none h, h]
def codE (s : Sp) : D := .str (chS (codeL s))
def codeE (r : Rig) (w : List Nat) (p : Pth) (rm : Option Nat) : D := if rm.isSome = true then useD w.length else lastD r w p codE
section
variable {r : Rig} {x : D} {h : Hs} {P1 : D → Hs → Prop} {Z1 : XD} {K : D → Hs → Prop} {n : Int} {w : List Nat} {p : Pth} {rm : Option Nat}
theorem sf_spans (rok : r.ok) (wx : Wordy x) (hn : dflt r.cs x = some n) (hZ : ∀ y h', sdZ K y h' → Z1 y h') (k : K (useD n) h) : spSpans [rigD r, x] h (fun out h' => P1 (.lst out) h') (fun y h' => y.c < 2 ∧ Z1 y h') := ⟨r, rfl, runs_f rok wx hn ⟨(by decide : (0 : Nat) < 2), hZ _ _ (us_ k)⟩⟩
theorem sf_last (rok : r.ok) (wx : Wordy x) (hn : dflt r.cs x = some n) (hZ : ∀ y h', sdZ K y h' → Z1 y h') (k : K (useD n) h) : spSpanOf [rigD r, x] h P1 Z1 := ⟨r, rfl, runs_f rok wx hn (hZ _ _ (us_ k))⟩
theorem sf_code (rok : r.ok) (wx : Wordy x) (hn : dflt r.cs x = some n) (hZ : ∀ y h', sdZ K y h' → Z1 y h') (k : K (useD n) h) : spCode [rigD r, x] h P1 Z1 := ⟨r, rfl, runs_f rok wx hn (hZ _ _ (us_ k))⟩
theorem sw_spans (rok : r.ok) (wx : Wordy x) (a : Wd r x w p rm) (hZ : ∀ y h', sdZ K y h' → Z1 y h') (hP : ∀ d h', K (toldD d) h' → P1 d h') (k : K (dueW r w p) h) : spSpans [rigD r, x] h (fun out h' => P1 (.lst out) h') (fun y h' => y.c < 2 ∧ Z1 y h') :=
  ⟨r, rfl, runs_w rok wx a ⟨fun ss hs => hP _ _ (by rw [due_told hs] at k; exact k), fun n hn => ⟨(by decide : (1 : Nat) < 2), hZ _ _ (br_ (by rw [due_bar hn] at k; exact k))⟩⟩⟩
theorem sw_last (rok : r.ok) (wx : Wordy x) (a : Wd r x w p rm) (hZ : ∀ y h', sdZ K y h' → Z1 y h') (hP : ∀ d h', K (toldD d) h' → P1 d h') (k : K (lastD r w p spD) h) : spSpanOf [rigD r, x] h P1 Z1 :=
  ⟨r, rfl, runs_w rok wx a ⟨fun ss s hs => hP _ _ (by rw [last_told hs] at k; exact k), fun n hn => hZ _ _ (br_ (by rw [last_bar hn] at k; exact k))⟩⟩
theorem sw_code (rok : r.ok) (wx : Wordy x) (a : Wd r x w p rm) (hZ : ∀ y h', sdZ K y h' → Z1 y h') (hP : ∀ d h', K (toldD d) h' → P1 d h') (k : K (codeE r w p rm) h) : spCode [rigD r, x] h P1 Z1 := by
  refine ⟨r, rfl, runs_w rok wx a ⟨fun ss s hj hs => ?_, fun hj n hn => ?_, fun j hj => ?_⟩⟩
  · subst hj; exact hP _ _ (by simpa [codeE, last_told hs, codE] using k)
  · subst hj; exact hZ _ _ (br_ (by simpa [codeE, last_bar hn] using k))
  · subst hj; exact hZ _ _ (us_ (by simpa [codeE] using k))
end
theorem srun_or {r : Rig} {p : Pth} : (∃ ss, srun r p = some ss) ∨ ∃ n, sflt r p = some n := by
  cases h : sflt r p with
  | some n => exact .inr ⟨n, rfl⟩
  | none =>
    left
    cases hp : p.length with
    | zero => rw [List.length_eq_zero_iff.mp hp]; exact ⟨_, srun_nil⟩
    | succ n =>
      unfold sflt at h
      rw [List.find?_eq_none] at h
      have z := h n (by simp; omega)
      rw [List.take_of_length_le (by omega)] at z
      cases e : srun r p with
      | none => rw [e] at z; exact absurd rfl z
      | some y => exact ⟨y, rfl⟩
theorem bds_sp : ∀ {ss : List Sp}, (∀ s ∈ ss, s.ok ∧ s.d ≤ 450) → Bds (4002 * ss.length) 1 (ss.map spD)
  | [], _ => (Bds.nil (d := 1)).mono
  | s :: ss, h => by
    have a := bds_sp (ss := ss) fun t ht => h t (List.mem_cons_of_mem _ ht)
    have b := bd_sp (h s (by simp)).1 (h s (by simp)).2
    rw [List.map_cons]
    exact (Bds.cons b a).mono (by rw [List.length_cons]; omega) (by omega)
theorem eqN {a b : Str} {Q : W → Prop} (h : ¬ a = b) (q : Q (.d (.bl false))) : wCmp .eq (.d (.str a)) (.d (.str b)) Q := by
  show Q (.d (.bl (if false = true then !decide (a = b) else decide (a = b))))
  simpa [h] using q
theorem due_bd {r : Rig} {w : List Nat} {p : Pth} {rm : Option Nat} (rok : r.ok) (hl : lets w = true) (hr : wrun r.cs w = some (p, rm)) (wl : w.length ≤ 40) : Bd 200000 3 (dueW r w p) := by
  have pl := (wrun_ok rok hr).1
  rcases srun_or (r := r) (p := p) with ⟨ss, h⟩ | ⟨n, h⟩
  · rw [due_told h]
    obtain ⟨a, b⟩ := srun_inv rok rfl h
    exact (told_bd (bds_sp (ss := ss) fun s hs => ⟨(b s hs).1, by have := (b s hs).2; omega⟩).lst).mono (by rw [a]; omega)
  · rw [due_bar h]
    have := (sflt_inv h).1
    exact (bar_bd hl wl (by omega)).mono
theorem last_bd {r : Rig} {w : List Nat} {p : Pth} {rm : Option Nat} {f : Sp → D} (rok : r.ok) (hl : lets w = true) (hr : wrun r.cs w = some (p, rm)) (wl : w.length ≤ 40) (hf : ∀ s : Sp, s.ok → s.d ≤ 405 → Bd 5000 1 (f s)) : Bd 6000 2 (lastD r w p f) := by
  have pl := (wrun_ok rok hr).1
  rcases srun_or (r := r) (p := p) with ⟨ss, h⟩ | ⟨n, h⟩
  · obtain ⟨s0, s, rfl⟩ := last_of (srun_inv rok rfl h).1
    rw [last_told h]
    obtain ⟨so, sd⟩ := sp_lt rok (by omega) h
    exact (told_bd (hf s so sd)).mono
  · rw [last_bar h]
    have := (sflt_inv h).1
    exact (bar_bd hl wl (by omega)).mono
theorem cod_bd {s : Sp} (so : s.ok) (sd : s.d ≤ 405) : Bd 5000 1 (codE s) :=
  (bd_chS (m := 405) (fun c hc => by rcases bs_01 hc with h | h <;> omega) (by rw [codeL_len]; have := (fbL_spec so.w0).1; omega)).mono
theorem str_ut : ¬ Str.ofString "use" = Str.ofString "told" := by decide +kernel
theorem str_bt : ¬ Str.ofString "barred" = Str.ofString "told" := by decide +kernel
def spRight : FnD := fun xs h P _ => match xs with
  | [rg, x] => ∃ r : Rig, rg = rigD r ∧ r.ok ∧ Odd x ∧ P (.bl true) h
  | _ => False
theorem right_T2 {F : Fns} (f0 : F.f 41 = spLDue) (f1 : F.f 39 = spLCode) (f2 : F.f 18 = spCode) (g0 : F.g 0 = spSaid) {r : Rig} {x : D} {h : Hs} {Q : D → Hs → Prop} {Z : XD} {w2 w3 w4 : Option W} (rok : r.ok) (ox : Odd x) (q : Q (.bl true) h) :
    m_law_right_T2.d M F [some (.d (rigD r)), some (.d x), w2, w3, w4] h (fin Q Z) := by
  have wx := ox.w
  simp [m_law_right_T2, Ss.d, S.d, E.d, E.t, Es.d, Es.len, f0, f1, f2, g0, fin, sl24]
  have same : ∀ {n d : Nat} {y : D} {h' : Hs}, Bd n d y → n ≤ 16777216 → d ≤ 40 → h' = h → wB1 B1.repr (W.d y) fun z => wB1 B1.repr (W.d y) fun z_1 => wCmp Cop.eq z z_1 fun z => ∃ d, toD z = some d ∧ Q d h' := fun b b1 b2 e => by
    subst e
    exact repr2 b b1 b2 fun s => eqS ⟨_, rfl, q⟩
  refine ⟨r, rfl, rok, ox, fun w p rm wd => ?_, fun n hn => ?_⟩
  · have hl := wd.l
    have hr := wd.r
    have wl := wd.n
    have ub := use_bd (w.length : Int) (by omega)
    cases rm with
    | some k =>
      have e : dueE r w p (some k) true = useD w.length := rfl
      rw [e]
      simp [useD]
      refine eqN str_ut (.inl ⟨rfl, ?_⟩)
      refine fun P1 Z1 hP hZ => sw_code rok wx wd hZ hP ?_
      exact same ub (by decide) (by decide) rfl
    | none =>
      have e : dueE r w p none true = dueW r w p := rfl
      rw [e]
      rcases srun_or (r := r) (p := p) with ⟨ss, hs⟩ | ⟨n, hs⟩
      · obtain ⟨s0, s, rfl⟩ := last_of (srun_inv rok rfl hs).1
        obtain ⟨so, sd⟩ := sp_lt rok (by rw [(wrun_ok rok hr).1]; omega) hs
        have al : L2.atI ((s0 ++ [s]).map spD) (-1) = some (spD s) := by rw [List.map_append]; exact at_last
        rw [due_told hs]
        simp [toldD, -List.map_append]
        refine eqS (.inr ⟨rfl, ?_⟩)
        simp [wNeg, al, -List.map_append]
        refine ⟨s, rfl, so, by omega, ?_⟩
        refine fun P1 Z1 hP hZ => sw_code rok wx wd hZ hP ?_
        have e : codeE r w p none = .tup [.str "told", codE s] := by simp [codeE, last_told hs, toldD]
        rw [e]
        exact same (told_bd (cod_bd so sd)) (by decide) (by decide) rfl
      · rw [due_bar hs]
        have hb := (sflt_inv hs).1
        have pl := (wrun_ok rok hr).1
        simp [barD]
        refine eqN str_bt (.inl ⟨rfl, ?_⟩)
        refine fun P1 Z1 hP hZ => sw_code rok wx wd hZ hP ?_
        have e : codeE r w p none = barD w n := by simp [codeE, last_bar hs]
        rw [e]
        exact same (bar_bd hl wl (by omega)) (by decide) (by decide) rfl
  · simp [useD]
    refine eqN str_ut (.inl ⟨rfl, ?_⟩)
    refine fun P1 Z1 hP hZ => sf_code rok wx hn hZ ?_
    exact same (use_bd n (dflt_bd ox hn)) (by decide) (by decide) rfl
end K
set_option maxHeartbeats 4000000
set_option exponentiation.threshold 256
namespace K
open PySem DL DP BM M17
@[simp] theorem pick10 {a b : D} : pick [1, 0] [a, b] = [b, a] := rfl
theorem ix0_2 {a b : D} {Q : W → Prop} (q : Q (.d a)) : wIx (.d (.tup [a, b])) (.d (.int 0)) Q := by simpa using q
theorem ix1_2 {a b : D} {Q : W → Prop} (q : Q (.d b)) : wIx (.d (.tup [a, b])) (.d (.int 1)) Q := by simpa using q
theorem ix0_3 {a b c : D} {Q : W → Prop} (q : Q (.d a)) : wIx (.d (.tup [a, b, c])) (.d (.int 0)) Q := by simpa using q
theorem right_T1 {F : Fns} (f2 : F.f 16 = spSpanOf) (g0 : F.g 0 = spSaid) {r : Rig} {x d : D} {h : Hs} {Q : D → Hs → Prop} {Z : XD} {w3 w4 : Option W} (rok : r.ok) (ox : Odd x)
    (t2 : ∀ w2 w3 w4, m_law_right_T2.d M F [some (.d (rigD r)), some (.d x), w2, w3, w4] h (fin Q Z))
    (hd : (∃ w p rm, Wd r x w p rm ∧ d = dueW r w p) ∨ ∃ n, dflt r.cs x = some n ∧ d = useD n) :
    m_law_right_T1.d M F [some (.d (rigD r)), some (.d x), some (.d d), w3, w4] h (fin Q Z) := by
  have wx := ox.w
  unfold m_law_right_T1
  generalize m_law_right_T2 = m2 at t2 ⊢
  simp [Ss.d, S.d, E.d, E.t, Es.d, Es.len, f2, g0, sl24]
  have same : ∀ {n k : Nat} {y : D} {h' : Hs} {v3 : Option W}, Bd n k y → n ≤ 16777216 → k ≤ 40 → h' = h → wB1 B1.repr (W.d y) fun z => wB1 B1.repr (W.d y) fun z_1 => wCmp Cop.ne z z_1 fun z =>
      z = W.d (D.bl false) ∧ Ss.d M F m2 [some (W.d (rigD r)), some (W.d x), some (W.d d), v3, w4] h' (fin Q Z) ∨ z = W.d (D.bl true) ∧ (fin Q Z).rt (D.bl false) h' := fun b b1 b2 e => by
    subst e
    exact repr2 b b1 b2 fun s => neS (.inl ⟨rfl, t2 _ _ _⟩)
  rcases hd with ⟨w, p, rm, wd, rfl⟩ | ⟨n, hn, rfl⟩
  · have hl := wd.l
    have hr := wd.r
    have wl := wd.n
    rcases srun_or (r := r) (p := p) with ⟨ss, hs⟩ | ⟨n, hs⟩
    · obtain ⟨s0, s, rfl⟩ := last_of (srun_inv rok rfl hs).1
      obtain ⟨so, sd⟩ := sp_lt rok (by rw [(wrun_ok rok hr).1]; omega) hs
      have al : L2.atI ((s0 ++ [s]).map spD) (-1) = some (spD s) := by rw [List.map_append]; exact at_last
      generalize hd : dueW r w p = d at same ⊢
      rw [due_told hs] at hd
      subst hd
      refine ix0_2 (eqS (.inr ⟨rfl, ix1_2 ?_⟩))
      simp [wNeg, al, -List.map_append]
      refine fun P1 Z1 hP hZ => sw_last rok wx wd hZ hP ?_
      have e : lastD r w p spD = .tup [.str "told", spD s] := last_told hs
      rw [e]
      exact same (told_bd (bd_sp so (by omega))) (by decide) (by decide) rfl
    · have hb := (sflt_inv hs).1
      have pl := (wrun_ok rok hr).1
      have e : lastD r w p spD = dueW r w p := by rw [last_bar hs, due_bar hs]
      have b : Bd 1000 1 (dueW r w p) := by rw [due_bar hs]; exact bar_bd hl wl (by omega)
      generalize hd : dueW r w p = d at same e b ⊢
      have hd2 := hd
      rw [due_bar hs] at hd2
      have hi : ∀ {Q : W → Prop}, Q (.d (.str "barred")) → wIx (.d d) (.d (.int 0)) Q := fun z => by rw [← hd2]; exact ix0_3 z
      refine hi (eqN str_bt (.inl ⟨rfl, ?_⟩))
      refine fun P1 Z1 hP hZ => sw_last rok wx wd hZ hP ?_
      rw [e]
      exact same b (by decide) (by decide) rfl
  · refine ix0_3 (eqN str_ut (.inl ⟨rfl, ?_⟩))
    refine fun P1 Z1 hP hZ => sf_last rok wx hn hZ ?_
    exact same (use_bd n (dflt_bd ox hn)) (by decide) (by decide) rfl
theorem k_law_right {F : Fns} (f0 : F.f 41 = spLDue) (f1 : F.f 39 = spLCode) (f2 : F.f 18 = spCode) (f3 : F.f 16 = spSpanOf) (g0 : F.g 0 = spSaid) (e0 : F.e 0 = spSpans) : Kp M F m_law_right 5 spRight := by
  intro xs h Q Z q0
  match xs, q0 with
  | [_, x], ⟨r, rfl, rok, ox, q⟩ =>
    have wx := ox.w
    have t2 := fun w2 w3 w4 => right_T2 (F := F) f0 f1 f2 g0 (r := r) (x := x) (h := h) (Q := Q) (Z := Z) (w2 := w2) (w3 := w3) (w4 := w4) rok ox q
    have t1 := fun d w3 w4 hd => right_T1 (F := F) f3 g0 (r := r) (x := x) (d := d) (h := h) (Q := Q) (Z := Z) (w3 := w3) (w4 := w4) rok ox t2 hd
    unfold m_law_right
    generalize m_law_right_T1 = m1 at t1 ⊢
    simp [Ss.d, S.d, E.d, E.t, Es.d, Es.len, startD, List.replicate_succ, f0, g0, e0, sl24, dLgen]
    have same : ∀ {n k : Nat} {y : D} {h' : Hs}, ((∃ w p rm, Wd r x w p rm ∧ y = dueW r w p) ∨ ∃ n, dflt r.cs x = some n ∧ y = useD n) → Bd n k y → n ≤ 16777216 → k ≤ 40 → h' = h → wB1 B1.repr (W.d y) fun z => wB1 B1.repr (W.d y) fun z_1 => wCmp Cop.ne z z_1 fun z =>
        z = W.d (D.bl false) ∧ Ss.d M F m1 [some (W.d (rigD r)), some (W.d x), some (W.d y), none, none] h' (fin Q Z) ∨ z = W.d (D.bl true) ∧ (fin Q Z).rt (D.bl false) h' := fun hd b b1 b2 e => by
      subst e
      exact repr2 b b1 b2 fun s => neS (.inl ⟨rfl, t1 _ _ _ hd⟩)
    refine ⟨r, rfl, rok, ox, fun w p rm wd => ?_, fun n hn => ?_⟩
    · refine fun P1 Z1 hP hZ => sw_spans rok wx wd hZ hP ?_
      exact same (.inl ⟨w, p, rm, wd, rfl⟩) (due_bd rok wd.l wd.r wd.n) (by decide) (by decide) rfl
    · refine fun P1 Z1 hP hZ => sf_spans rok wx hn hZ ?_
      exact same (.inr ⟨n, hn, rfl⟩) (use_bd n (dflt_bd ox hn)) (by decide) (by decide) rfl
end K
set_option maxHeartbeats 4000000
set_option exponentiation.threshold 256
namespace K
open PySem DL DP BM M17
def spLaw : FnD := fun xs h P _ => match xs with
  | [.fro cs] => ∃ ns : List Int, cs = ns.map D.int ∧ h = [] ∧ ∀ h', P (.bl true) h'
  | _ => False
theorem law_T3 {F : Fns} (f2 : F.f 18 = spCode) (f7 : F.f 34 = spLCtx) (g0 : F.g 0 = spSaid) {w0 w1 w2 w5 : Option W} {r : Rig} {w : List Nat} {p : Pth} {rm : Option Nat} {h : Hs} {En : DEnds} (rok : r.ok) (wd : Wd r (.str (chS w)) w p rm)
    (q : ∀ w5, En.nx [w0, w1, w2, some (.d (rigD r)), some (.d (.str (chS w))), w5] h) : m_law_T3.d M F [w0, w1, w2, some (.d (rigD r)), some (.d (.str (chS w))), w5] h En := by
  have wx : Wordy (.str (chS w)) := wordy_ch wd.l (by have := wd.n; omega)
  have b : Bd 6400 2 (codeE r w p rm) := by
    cases rm with
    | some k => exact (use_bd w.length (by have := wd.n; omega)).mono
    | none => exact (last_bd rok wd.l wd.r wd.n fun s so sd => cod_bd so sd).mono
  simp [m_law_T3, Ss.d, S.d, E.d, E.t, Es.d, Es.len, f2, f7, g0, sl24]
  refine spLCtx_i rok wd.r (by have := wd.n; omega) ?_
  cases rm with
  | some k => simp [optD]; exact q _
  | none =>
    simp [optD]
    refine fun P1 Z1 hP hZ => sw_code rok wx wd hZ hP ?_
    refine wR b (by decide) (by decide) ?_
    refine ⟨_, rfl, ?_⟩
    refine fun P1 Z1 hP hZ => sw_code rok wx wd hZ hP ?_
    refine wR b (by decide) (by decide) ?_
    exact neS (.inl ⟨rfl, q _⟩)
theorem law_T2 {F : Fns} (f2 : F.f 18 = spCode) (f3 : F.f 16 = spSpanOf) (f7 : F.f 34 = spLCtx) (g0 : F.g 0 = spSaid) {w0 w1 w2 w5 : Option W} {r : Rig} {w : List Nat} {p : Pth} {rm : Option Nat} {h : Hs} {En : DEnds} (rok : r.ok) (wd : Wd r (.str (chS w)) w p rm)
    (q : ∀ w5, En.nx [w0, w1, w2, some (.d (rigD r)), some (.d (.str (chS w))), w5] h) : m_law_T2.d M F [w0, w1, w2, some (.d (rigD r)), some (.d (.str (chS w))), w5] h En := by
  have wx : Wordy (.str (chS w)) := wordy_ch wd.l (by have := wd.n; omega)
  have b : Bd 6000 2 (lastD r w p spD) := last_bd rok wd.l wd.r wd.n fun s so sd => (bd_sp so (by omega)).mono
  have t3 := fun w5 => law_T3 (F := F) f2 f7 g0 (w0 := w0) (w1 := w1) (w2 := w2) (w5 := w5) (h := h) (En := En) rok wd q
  unfold m_law_T2
  generalize m_law_T3 = m3 at t3 ⊢
  simp [Ss.d, S.d, E.d, E.t, Es.d, Es.len, f3, g0, sl24]
  refine fun P1 Z1 hP hZ => sw_last rok wx wd hZ hP ?_
  refine wR b (by decide) (by decide) ?_
  refine ⟨_, rfl, ?_⟩
  refine fun P1 Z1 hP hZ => sw_last rok wx wd hZ hP ?_
  refine wR b (by decide) (by decide) ?_
  exact neS (.inl ⟨rfl, t3 _⟩)
theorem law_B1 {F : Fns} (f2 : F.f 18 = spCode) (f3 : F.f 16 = spSpanOf) (f7 : F.f 34 = spLCtx) (f9 : F.f 42 = spRight) (f10 : F.f 24 = spCoder) (f11 : F.f 37 = spLWord) (f12 : F.f 21 = spAny) (f13 : F.f 40 = spOddW) (g0 : F.g 0 = spSaid) {w0 w2 w3 w4 w5 : Option W} {k : Nat} {h : Hs} {En : DEnds} (hs : FH k h) (hk : k ≤ 800000)
    (q : ∀ w3 w4 w5 h', FH (k + 200) h' → En.nx [w0, some (.d (.ref 0)), w2, w3, w4, w5] h') : m_law_B1.d M F [w0, some (.d (.ref 0)), w2, w3, w4, w5] h En := by
  have t2 := fun r w p rm h => law_T2 (F := F) f2 f3 f7 g0 (w0 := w0) (w1 := some (.d (.ref 0))) (w2 := w2) (w5 := w5) (h := h) (En := En) (r := r) (w := w) (p := p) (rm := rm)
  unfold m_law_B1 m_law_T1
  generalize m_law_T2 = m2 at t2 ⊢
  simp [Ss.d, S.d, E.d, E.t, Es.d, Es.len, f9, f10, f11, f12, f13, sl24, spCoder, spAny]
  refine ⟨k, hs, by omega, fun r h1 rok s1 => ⟨k + 60, s1, by omega, fun m h2 hm s2 => ?_⟩⟩
  have m0 : ∃ j : Int, m = .int j ∧ 1 ≤ j ∧ j ≤ 30 := by
    rcases hm with rfl | rfl | rfl
    · exact ⟨3, rfl, by decide, by decide⟩
    · exact ⟨8, rfl, by decide, by decide⟩
    · exact ⟨28, rfl, by decide, by decide⟩
  obtain ⟨m, rfl, m1, m30⟩ := m0
  refine ⟨r, k + 61, rfl, rok, s2, by omega, m1, m30, fun w p rm h3 hl hr wl s3 => ?_⟩
  have wl' : w.length ≤ 30 := by omega
  have wd : Wd r (.str (chS w)) w p rm := ⟨rfl, hl, hr, by omega⟩
  have wc := lets_lt hl
  have od : ∀ v : List Nat, (∀ c ∈ v, c < 128) → v.length ≤ 40 → Odd (.str (chS v)) := fun v h1 h2 => odd_asc ⟨h1, h2⟩
  refine ⟨r, rfl, rok, od w wc (by omega), ?_⟩
  simp
  refine ⟨w, k + 61 + 40, rfl, hl, wl', s3, by omega, fun y h4 oy s4 => ⟨r, rfl, rok, oy, ?_⟩⟩
  simp
  refine ⟨r, rfl, rok, by rw [chS_nil]; exact od [] (by simp) (by simp), ?_⟩
  simp [dSl, Oe.d, dNo, dPart, E.d]
  have wl2 : w.length ≤ sizeLine := by rw [sl24]; omega
  refine ⟨wl2, .inl ⟨by decide, by decide⟩, _, rfl, ?_⟩
  rw [show ((w.length : Int) / 2) = ((w.length / 2 : Nat) : Int) by omega]
  simp [wSl, wl2, cut_take]
  refine ⟨r, rfl, rok, od _ (fun c hc => wc c (List.mem_of_mem_take hc)) (by simp; omega), ?_⟩
  simp
  exact t2 r w p rm h4 rok wd fun w5 => q _ _ _ _ (s4.mono (by omega))
theorem k_law {F : Fns} (f2 : F.f 18 = spCode) (f3 : F.f 16 = spSpanOf) (f7 : F.f 34 = spLCtx) (f9 : F.f 42 = spRight) (f10 : F.f 24 = spCoder) (f11 : F.f 37 = spLWord) (f12 : F.f 21 = spAny) (f13 : F.f 40 = spOddW) (f14 : F.f 19 = spFeed) (g0 : F.g 0 = spSaid) : Kp M F m_law 6 spLaw := by
  intro xs h Q Z q0
  match xs, q0 with
  | [.fro cs], ⟨ns, hcs, hh, q⟩ =>
    subst hcs hh
    have lt := fun (En : DEnds) w0 w2 w3 w4 w5 k h => law_B1 (F := F) f2 f3 f7 f9 f10 f11 f12 f13 g0 (w0 := w0) (w2 := w2) (w3 := w3) (w4 := w4) (w5 := w5) (k := k) (h := h) (En := En)
    unfold m_law
    generalize m_law_B1 = ml at lt ⊢
    simp [Ss.d, S.d, E.d, Es.d, Es.len, startD, List.replicate_succ, f14, spFeed, Ic.d, dItR1]
    refine ⟨⟨ns, rfl⟩, fun h1 s1 => ?_⟩
    refine for_inv (fun i ds h' => ∃ w2 w3 w4 w5, ds = [some (.d (.fro (ns.map D.int))), some (.d (.ref 0)), w2, w3, w4, w5] ∧ FH (200 * i) h') (rngD 0 4) ?_ ?_ ?_
    · rintro i u ds h' En' hu ⟨w2, w3, w4, w5, rfl, s3⟩ hrt hex hbk hnx hct
      obtain ⟨rfl, hin⟩ := rng_get hu
      simp
      exact lt _ _ _ _ _ _ (200 * i) h' s3 (by omega) fun w3 w4 w5 h3 s4 => hnx _ _ ⟨_, w3, w4, w5, rfl, s4.mono (by omega)⟩
    · exact ⟨_, _, _, _, rfl, s1⟩
    · rintro ds h' ⟨w2, w3, w4, w5, rfl, s3⟩
      simp [m_law_T4, Ss.d, S.d, E.d, fin]
      exact q _
end K
set_option maxHeartbeats 4000000
namespace K
open PySem PySem.Spec PyProof.Rows L2 DL DP BM M17
def F0 : Fns := L.F0
def F1 : Fns := F0.up 0 (spLetters)
theorem s0 : Kp M F0 m_is_letters N_is_letters.length (spLetters) := k_is_letters rfl
def F2 : Fns := F1.up 1 (spBounds)
theorem s1 : Kp M F1 m_bounds_of N_bounds_of.length (spBounds) := k_bounds_of
def F3 : Fns := F2.up 2 (spWritten)
theorem s2 : Kp M F2 m_written N_written.length (spWritten) := k_written
def F4 : Fns := F3.up 3 (spOpen)
theorem s3 : Kp M F3 m_open_depth N_open_depth.length (spOpen) := k_open_depth
def F5 : Fns := F4.up 4 (spSides)
theorem s4 : Kp M F4 m_sides_of N_sides_of.length (spSides) := k_sides_of rfl
def F6 : Fns := F5.up 5 (spDbl)
theorem s5 : Kp M F5 m_doubled_by N_doubled_by.length (spDbl) := k_doubled_by
def F7 : Fns := F6.up 6 (spPlain)
theorem s6 : Kp M F6 m_plain_times N_plain_times.length (spPlain) := k_plain_times rfl
def F8 : Fns := F7.up 7 (spLate)
theorem s7 : Kp M F7 m_late_times N_late_times.length (spLate) := k_late_times
def F9 : Fns := F8.up 8 (spPend)
theorem s8 : Kp M F8 m_pending_times N_pending_times.length (spPend) := k_pending_times rfl rfl rfl
def F10 : Fns := F9.up 9 (spCut)
theorem s9 : Kp M F9 m_cut_apart N_cut_apart.length (spCut) := k_cut_apart rfl
def F11 : Fns := F10.up 10 (spSettle)
theorem s10 : Kp M F10 m_settle N_settle.length (spSettle) := k_settle rfl rfl rfl rfl rfl
def F12 : Fns := F11.up 11 (spPlace)
theorem s11 : Kp M F11 m_place_of N_place_of.length (spPlace) := k_place_of
def F13 : Fns := F12.up 12 (spPath)
theorem s12 : Kp M F12 m_path_of N_path_of.length (spPath) := k_path_of rfl rfl
def F14 : Fns := F13.up 13 (spBegun)
theorem s13 : Kp M F13 m_begun N_begun.length (spBegun) := k_begun
def F15 : Fns := F14.up 14 (spBehind)
theorem s14 : Kp M F14 m_span_behind N_span_behind.length (spBehind) := k_span_behind rfl rfl
def F16 : Fns := F15.up 15 (spWs)
theorem s15 : Kp M F15 m_written_spans N_written_spans.length (spWs) := k_written_spans rfl rfl
def F17 : Fns := F16.up 16 (spSpanOf)
theorem s16 : Kp M F16 m_span_of N_span_of.length (spSpanOf) := k_span_of rfl rfl
def F18 : Fns := F17.up 17 (spFB)
theorem s17 : Kp M F17 m_first_bits N_first_bits.length (spFB) := k_first_bits rfl
def F19 : Fns := F18.up 18 (spCode)
theorem s18 : Kp M F18 m_code_of N_code_of.length (spCode) := k_code_of rfl rfl rfl
def F20 : Fns := F19.up 19 (spFeed)
theorem s19 : Kp M F19 m_law_feed N_law_feed.length (spFeed) := k_law_feed
def F21 : Fns := F20.up 20 (spDraw)
theorem s20 : Kp M F20 m_law_draw N_law_draw.length (spDraw) := k_law_draw
def F22 : Fns := F21.up 21 (spAny)
theorem s21 : Kp M F21 m_law_any N_law_any.length (spAny) := k_law_any rfl
def F23 : Fns := F22.up 22 (spShape)
theorem s22 : Kp M F22 m_law_shape N_law_shape.length (spShape) := k_law_shape rfl
def F24 : Fns := F23.up 23 (spDrawn)
theorem s23 : Kp M F23 m_law_drawn N_law_drawn.length (spDrawn) := k_law_drawn rfl
def F25 : Fns := F24.up 24 (spCoder)
theorem s24 : Kp M F24 m_law_coder N_law_coder.length (spCoder) := k_law_coder rfl rfl rfl rfl
def F26 : Fns := F25.up 25 (spTwo)
theorem s25 : Kp M F25 m_law_two N_law_two.length (spTwo) := k_law_two
def F27 : Fns := F26.up 26 (spLParts)
theorem s26 : Kp M F26 m_law_parts N_law_parts.length (spLParts) := k_law_parts
def F28 : Fns := F27.up 27 (spKnown)
theorem s27 : Kp M F27 m_law_known N_law_known.length (spKnown) := k_law_known
def F29 : Fns := F28.up 28 (spMid)
theorem s28 : Kp M F28 m_law_middle N_law_middle.length (spMid) := k_law_middle rfl rfl
def F30 : Fns := F29.up 29 (spDoubled)
theorem s29 : Kp M F29 m_law_doubled N_law_doubled.length (spDoubled) := k_law_doubled
def F31 : Fns := F30.up 30 (spPlainL)
theorem s30 : Kp M F30 m_law_plain N_law_plain.length (spPlainL) := k_law_plain rfl rfl
def F32 : Fns := F31.up 31 (spLSettled)
theorem s31 : Kp M F31 m_law_settled N_law_settled.length (spLSettled) := k_law_settled rfl rfl rfl rfl
def F33 : Fns := F32.up 32 (spLPlace)
theorem s32 : Kp M F32 m_law_place N_law_place.length (spLPlace) := k_law_place
def F34 : Fns := F33.up 33 (spLFault)
theorem s33 : Kp M F33 m_law_fault N_law_fault.length (spLFault) := k_law_fault rfl
def F35 : Fns := F34.up 34 (spLCtx)
theorem s34 : Kp M F34 m_law_context N_law_context.length (spLCtx) := k_law_context rfl
def F36 : Fns := F35.up 35 (spLNext)
theorem s35 : Kp M F35 m_law_next N_law_next.length (spLNext) := k_law_next rfl rfl rfl
def F37 : Fns := F36.up 36 (spLSpans)
theorem s36 : Kp M F36 m_law_spans N_law_spans.length (spLSpans) := k_law_spans rfl rfl rfl
def F38 : Fns := F37.up 37 (spLWord)
theorem s37 : Kp M F37 m_law_word N_law_word.length (spLWord) := k_law_word rfl rfl
def F39 : Fns := F38.up 38 (spLBits)
theorem s38 : Kp M F38 m_law_bits N_law_bits.length (spLBits) := k_law_bits
def F40 : Fns := F39.up 39 (spLCode)
theorem s39 : Kp M F39 m_law_code N_law_code.length (spLCode) := k_law_code rfl rfl
def F41 : Fns := F40.up 40 (spOddW)
theorem s40 : Kp M F40 m_law_odd_word N_law_odd_word.length (spOddW) := k_law_odd_word rfl rfl
def F42 : Fns := F41.up 41 (spLDue)
theorem s41 : Kp M F41 m_law_due N_law_due.length (spLDue) := k_law_due rfl rfl rfl
def F43 : Fns := F42.upH 0 (spSaid)
theorem s42 : KpH M F42 m_law_said N_law_said.length (spSaid) := k_law_said
def F44 : Fns := F43.upG 0 (spSpans)
theorem s43 : KpG M F16 g_spans_of (spSpans) := k_spans_of rfl rfl
def F45 : Fns := F44.up 42 (spRight)
theorem s44 : Kp M F44 m_law_right N_law_right.length (spRight) := k_law_right rfl rfl rfl rfl rfl rfl
section
variable {P : Program} {w : World} {K : Fg} {mg : Str → Option Value} {base : Heap}
theorem d0 (hd : Hd L P K mg) : ModD L.M L.G F0 (L.Cl K) true 1 P w K mg base := hd.first chk
theorem chkS : (L.sub 16).chk = true := by decide +kernel
theorem e0 (hd : Hd L P K mg) : ModD (L.sub 16).M (L.sub 16).G F0 ((L.sub 16).Cl K) (L.sub 16).sh 1 P w K mg base := (hd.sub 16).first chkS
theorem e1 (hd : Hd L P K mg) (htb : ∀ p ∈ L.cs K, LamX.TabB base mg p.1 p.2) : ModD (L.sub 16).M (L.sub 16).G F1 ((L.sub 16).Cl K) (L.sub 16).sh 2 P w K mg base := (hd.sub 16).add chkS htb (e0 hd) rfl 0 rfl _ s0 (by decide +kernel)
theorem e2 (hd : Hd L P K mg) (htb : ∀ p ∈ L.cs K, LamX.TabB base mg p.1 p.2) : ModD (L.sub 16).M (L.sub 16).G F2 ((L.sub 16).Cl K) (L.sub 16).sh 3 P w K mg base := (hd.sub 16).add chkS htb (e1 hd htb) rfl 1 rfl _ s1 (by decide +kernel)
theorem e3 (hd : Hd L P K mg) (htb : ∀ p ∈ L.cs K, LamX.TabB base mg p.1 p.2) : ModD (L.sub 16).M (L.sub 16).G F3 ((L.sub 16).Cl K) (L.sub 16).sh 4 P w K mg base := (hd.sub 16).add chkS htb (e2 hd htb) rfl 2 rfl _ s2 (by decide +kernel)
theorem e4 (hd : Hd L P K mg) (htb : ∀ p ∈ L.cs K, LamX.TabB base mg p.1 p.2) : ModD (L.sub 16).M (L.sub 16).G F4 ((L.sub 16).Cl K) (L.sub 16).sh 5 P w K mg base := (hd.sub 16).add chkS htb (e3 hd htb) rfl 3 rfl _ s3 (by decide +kernel)
theorem e5 (hd : Hd L P K mg) (htb : ∀ p ∈ L.cs K, LamX.TabB base mg p.1 p.2) : ModD (L.sub 16).M (L.sub 16).G F5 ((L.sub 16).Cl K) (L.sub 16).sh 6 P w K mg base := (hd.sub 16).add chkS htb (e4 hd htb) rfl 4 rfl _ s4 (by decide +kernel)
theorem e6 (hd : Hd L P K mg) (htb : ∀ p ∈ L.cs K, LamX.TabB base mg p.1 p.2) : ModD (L.sub 16).M (L.sub 16).G F6 ((L.sub 16).Cl K) (L.sub 16).sh 7 P w K mg base := (hd.sub 16).add chkS htb (e5 hd htb) rfl 5 rfl _ s5 (by decide +kernel)
theorem e7 (hd : Hd L P K mg) (htb : ∀ p ∈ L.cs K, LamX.TabB base mg p.1 p.2) : ModD (L.sub 16).M (L.sub 16).G F7 ((L.sub 16).Cl K) (L.sub 16).sh 8 P w K mg base := (hd.sub 16).add chkS htb (e6 hd htb) rfl 6 rfl _ s6 (by decide +kernel)
theorem e8 (hd : Hd L P K mg) (htb : ∀ p ∈ L.cs K, LamX.TabB base mg p.1 p.2) : ModD (L.sub 16).M (L.sub 16).G F8 ((L.sub 16).Cl K) (L.sub 16).sh 9 P w K mg base := (hd.sub 16).add chkS htb (e7 hd htb) rfl 7 rfl _ s7 (by decide +kernel)
theorem e9 (hd : Hd L P K mg) (htb : ∀ p ∈ L.cs K, LamX.TabB base mg p.1 p.2) : ModD (L.sub 16).M (L.sub 16).G F9 ((L.sub 16).Cl K) (L.sub 16).sh 10 P w K mg base := (hd.sub 16).add chkS htb (e8 hd htb) rfl 8 rfl _ s8 (by decide +kernel)
theorem e10 (hd : Hd L P K mg) (htb : ∀ p ∈ L.cs K, LamX.TabB base mg p.1 p.2) : ModD (L.sub 16).M (L.sub 16).G F10 ((L.sub 16).Cl K) (L.sub 16).sh 11 P w K mg base := (hd.sub 16).add chkS htb (e9 hd htb) rfl 9 rfl _ s9 (by decide +kernel)
theorem e11 (hd : Hd L P K mg) (htb : ∀ p ∈ L.cs K, LamX.TabB base mg p.1 p.2) : ModD (L.sub 16).M (L.sub 16).G F11 ((L.sub 16).Cl K) (L.sub 16).sh 12 P w K mg base := (hd.sub 16).add chkS htb (e10 hd htb) rfl 10 rfl _ s10 (by decide +kernel)
theorem e12 (hd : Hd L P K mg) (htb : ∀ p ∈ L.cs K, LamX.TabB base mg p.1 p.2) : ModD (L.sub 16).M (L.sub 16).G F12 ((L.sub 16).Cl K) (L.sub 16).sh 13 P w K mg base := (hd.sub 16).add chkS htb (e11 hd htb) rfl 11 rfl _ s11 (by decide +kernel)
theorem e13 (hd : Hd L P K mg) (htb : ∀ p ∈ L.cs K, LamX.TabB base mg p.1 p.2) : ModD (L.sub 16).M (L.sub 16).G F13 ((L.sub 16).Cl K) (L.sub 16).sh 14 P w K mg base := (hd.sub 16).add chkS htb (e12 hd htb) rfl 12 rfl _ s12 (by decide +kernel)
theorem e14 (hd : Hd L P K mg) (htb : ∀ p ∈ L.cs K, LamX.TabB base mg p.1 p.2) : ModD (L.sub 16).M (L.sub 16).G F14 ((L.sub 16).Cl K) (L.sub 16).sh 15 P w K mg base := (hd.sub 16).add chkS htb (e13 hd htb) rfl 13 rfl _ s13 (by decide +kernel)
theorem e15 (hd : Hd L P K mg) (htb : ∀ p ∈ L.cs K, LamX.TabB base mg p.1 p.2) : ModD (L.sub 16).M (L.sub 16).G F15 ((L.sub 16).Cl K) (L.sub 16).sh 16 P w K mg base := (hd.sub 16).add chkS htb (e14 hd htb) rfl 14 rfl _ s14 (by decide +kernel)
theorem e16 (hd : Hd L P K mg) (htb : ∀ p ∈ L.cs K, LamX.TabB base mg p.1 p.2) : ModD (L.sub 16).M (L.sub 16).G F16 ((L.sub 16).Cl K) (L.sub 16).sh 17 P w K mg base := (hd.sub 16).add chkS htb (e15 hd htb) rfl 15 rfl _ s15 (by decide +kernel)
theorem d1 (hd : Hd L P K mg) (htb : ∀ p ∈ L.cs K, LamX.TabB base mg p.1 p.2) : ModD L.M L.G F1 (L.Cl K) true 2 P w K mg base := hd.add chk htb (d0 hd) rfl 0 rfl _ s0 (by decide +kernel)
theorem d2 (hd : Hd L P K mg) (htb : ∀ p ∈ L.cs K, LamX.TabB base mg p.1 p.2) : ModD L.M L.G F2 (L.Cl K) true 3 P w K mg base := hd.add chk htb (d1 hd htb) rfl 1 rfl _ s1 (by decide +kernel)
theorem d3 (hd : Hd L P K mg) (htb : ∀ p ∈ L.cs K, LamX.TabB base mg p.1 p.2) : ModD L.M L.G F3 (L.Cl K) true 4 P w K mg base := hd.add chk htb (d2 hd htb) rfl 2 rfl _ s2 (by decide +kernel)
theorem d4 (hd : Hd L P K mg) (htb : ∀ p ∈ L.cs K, LamX.TabB base mg p.1 p.2) : ModD L.M L.G F4 (L.Cl K) true 5 P w K mg base := hd.add chk htb (d3 hd htb) rfl 3 rfl _ s3 (by decide +kernel)
theorem d5 (hd : Hd L P K mg) (htb : ∀ p ∈ L.cs K, LamX.TabB base mg p.1 p.2) : ModD L.M L.G F5 (L.Cl K) true 6 P w K mg base := hd.add chk htb (d4 hd htb) rfl 4 rfl _ s4 (by decide +kernel)
theorem d6 (hd : Hd L P K mg) (htb : ∀ p ∈ L.cs K, LamX.TabB base mg p.1 p.2) : ModD L.M L.G F6 (L.Cl K) true 7 P w K mg base := hd.add chk htb (d5 hd htb) rfl 5 rfl _ s5 (by decide +kernel)
theorem d7 (hd : Hd L P K mg) (htb : ∀ p ∈ L.cs K, LamX.TabB base mg p.1 p.2) : ModD L.M L.G F7 (L.Cl K) true 8 P w K mg base := hd.add chk htb (d6 hd htb) rfl 6 rfl _ s6 (by decide +kernel)
theorem d8 (hd : Hd L P K mg) (htb : ∀ p ∈ L.cs K, LamX.TabB base mg p.1 p.2) : ModD L.M L.G F8 (L.Cl K) true 9 P w K mg base := hd.add chk htb (d7 hd htb) rfl 7 rfl _ s7 (by decide +kernel)
theorem d9 (hd : Hd L P K mg) (htb : ∀ p ∈ L.cs K, LamX.TabB base mg p.1 p.2) : ModD L.M L.G F9 (L.Cl K) true 10 P w K mg base := hd.add chk htb (d8 hd htb) rfl 8 rfl _ s8 (by decide +kernel)
theorem d10 (hd : Hd L P K mg) (htb : ∀ p ∈ L.cs K, LamX.TabB base mg p.1 p.2) : ModD L.M L.G F10 (L.Cl K) true 11 P w K mg base := hd.add chk htb (d9 hd htb) rfl 9 rfl _ s9 (by decide +kernel)
theorem d11 (hd : Hd L P K mg) (htb : ∀ p ∈ L.cs K, LamX.TabB base mg p.1 p.2) : ModD L.M L.G F11 (L.Cl K) true 12 P w K mg base := hd.add chk htb (d10 hd htb) rfl 10 rfl _ s10 (by decide +kernel)
theorem d12 (hd : Hd L P K mg) (htb : ∀ p ∈ L.cs K, LamX.TabB base mg p.1 p.2) : ModD L.M L.G F12 (L.Cl K) true 13 P w K mg base := hd.add chk htb (d11 hd htb) rfl 11 rfl _ s11 (by decide +kernel)
theorem d13 (hd : Hd L P K mg) (htb : ∀ p ∈ L.cs K, LamX.TabB base mg p.1 p.2) : ModD L.M L.G F13 (L.Cl K) true 14 P w K mg base := hd.add chk htb (d12 hd htb) rfl 12 rfl _ s12 (by decide +kernel)
theorem d14 (hd : Hd L P K mg) (htb : ∀ p ∈ L.cs K, LamX.TabB base mg p.1 p.2) : ModD L.M L.G F14 (L.Cl K) true 15 P w K mg base := hd.add chk htb (d13 hd htb) rfl 13 rfl _ s13 (by decide +kernel)
theorem d15 (hd : Hd L P K mg) (htb : ∀ p ∈ L.cs K, LamX.TabB base mg p.1 p.2) : ModD L.M L.G F15 (L.Cl K) true 16 P w K mg base := hd.add chk htb (d14 hd htb) rfl 14 rfl _ s14 (by decide +kernel)
theorem d16 (hd : Hd L P K mg) (htb : ∀ p ∈ L.cs K, LamX.TabB base mg p.1 p.2) : ModD L.M L.G F16 (L.Cl K) true 17 P w K mg base := hd.add chk htb (d15 hd htb) rfl 15 rfl _ s15 (by decide +kernel)
theorem d17 (hd : Hd L P K mg) (htb : ∀ p ∈ L.cs K, LamX.TabB base mg p.1 p.2) : ModD L.M L.G F17 (L.Cl K) true 18 P w K mg base := hd.add chk htb (d16 hd htb) rfl 16 rfl _ s16 (by decide +kernel)
theorem d18 (hd : Hd L P K mg) (htb : ∀ p ∈ L.cs K, LamX.TabB base mg p.1 p.2) : ModD L.M L.G F18 (L.Cl K) true 19 P w K mg base := hd.add chk htb (d17 hd htb) rfl 17 rfl _ s17 (by decide +kernel)
theorem d19 (hd : Hd L P K mg) (htb : ∀ p ∈ L.cs K, LamX.TabB base mg p.1 p.2) : ModD L.M L.G F19 (L.Cl K) true 20 P w K mg base := hd.add chk htb (d18 hd htb) rfl 18 rfl _ s18 (by decide +kernel)
theorem d20 (hd : Hd L P K mg) (htb : ∀ p ∈ L.cs K, LamX.TabB base mg p.1 p.2) : ModD L.M L.G F20 (L.Cl K) true 21 P w K mg base := hd.add chk htb (d19 hd htb) rfl 19 rfl _ s19 (by decide +kernel)
theorem d21 (hd : Hd L P K mg) (htb : ∀ p ∈ L.cs K, LamX.TabB base mg p.1 p.2) : ModD L.M L.G F21 (L.Cl K) true 22 P w K mg base := hd.add chk htb (d20 hd htb) rfl 20 rfl _ s20 (by decide +kernel)
theorem d22 (hd : Hd L P K mg) (htb : ∀ p ∈ L.cs K, LamX.TabB base mg p.1 p.2) : ModD L.M L.G F22 (L.Cl K) true 23 P w K mg base := hd.add chk htb (d21 hd htb) rfl 21 rfl _ s21 (by decide +kernel)
theorem d23 (hd : Hd L P K mg) (htb : ∀ p ∈ L.cs K, LamX.TabB base mg p.1 p.2) : ModD L.M L.G F23 (L.Cl K) true 24 P w K mg base := hd.add chk htb (d22 hd htb) rfl 22 rfl _ s22 (by decide +kernel)
theorem d24 (hd : Hd L P K mg) (htb : ∀ p ∈ L.cs K, LamX.TabB base mg p.1 p.2) : ModD L.M L.G F24 (L.Cl K) true 25 P w K mg base := hd.add chk htb (d23 hd htb) rfl 23 rfl _ s23 (by decide +kernel)
theorem d25 (hd : Hd L P K mg) (htb : ∀ p ∈ L.cs K, LamX.TabB base mg p.1 p.2) : ModD L.M L.G F25 (L.Cl K) true 26 P w K mg base := hd.add chk htb (d24 hd htb) rfl 24 rfl _ s24 (by decide +kernel)
theorem d26 (hd : Hd L P K mg) (htb : ∀ p ∈ L.cs K, LamX.TabB base mg p.1 p.2) : ModD L.M L.G F26 (L.Cl K) true 27 P w K mg base := hd.add chk htb (d25 hd htb) rfl 25 rfl _ s25 (by decide +kernel)
theorem d27 (hd : Hd L P K mg) (htb : ∀ p ∈ L.cs K, LamX.TabB base mg p.1 p.2) : ModD L.M L.G F27 (L.Cl K) true 28 P w K mg base := hd.add chk htb (d26 hd htb) rfl 26 rfl _ s26 (by decide +kernel)
theorem d28 (hd : Hd L P K mg) (htb : ∀ p ∈ L.cs K, LamX.TabB base mg p.1 p.2) : ModD L.M L.G F28 (L.Cl K) true 29 P w K mg base := hd.add chk htb (d27 hd htb) rfl 27 rfl _ s27 (by decide +kernel)
theorem d29 (hd : Hd L P K mg) (htb : ∀ p ∈ L.cs K, LamX.TabB base mg p.1 p.2) : ModD L.M L.G F29 (L.Cl K) true 30 P w K mg base := hd.add chk htb (d28 hd htb) rfl 28 rfl _ s28 (by decide +kernel)
theorem d30 (hd : Hd L P K mg) (htb : ∀ p ∈ L.cs K, LamX.TabB base mg p.1 p.2) : ModD L.M L.G F30 (L.Cl K) true 31 P w K mg base := hd.add chk htb (d29 hd htb) rfl 29 rfl _ s29 (by decide +kernel)
theorem d31 (hd : Hd L P K mg) (htb : ∀ p ∈ L.cs K, LamX.TabB base mg p.1 p.2) : ModD L.M L.G F31 (L.Cl K) true 32 P w K mg base := hd.add chk htb (d30 hd htb) rfl 30 rfl _ s30 (by decide +kernel)
theorem d32 (hd : Hd L P K mg) (htb : ∀ p ∈ L.cs K, LamX.TabB base mg p.1 p.2) : ModD L.M L.G F32 (L.Cl K) true 33 P w K mg base := hd.add chk htb (d31 hd htb) rfl 31 rfl _ s31 (by decide +kernel)
theorem d33 (hd : Hd L P K mg) (htb : ∀ p ∈ L.cs K, LamX.TabB base mg p.1 p.2) : ModD L.M L.G F33 (L.Cl K) true 34 P w K mg base := hd.add chk htb (d32 hd htb) rfl 32 rfl _ s32 (by decide +kernel)
theorem d34 (hd : Hd L P K mg) (htb : ∀ p ∈ L.cs K, LamX.TabB base mg p.1 p.2) : ModD L.M L.G F34 (L.Cl K) true 35 P w K mg base := hd.add chk htb (d33 hd htb) rfl 33 rfl _ s33 (by decide +kernel)
theorem d35 (hd : Hd L P K mg) (htb : ∀ p ∈ L.cs K, LamX.TabB base mg p.1 p.2) : ModD L.M L.G F35 (L.Cl K) true 36 P w K mg base := hd.add chk htb (d34 hd htb) rfl 34 rfl _ s34 (by decide +kernel)
theorem d36 (hd : Hd L P K mg) (htb : ∀ p ∈ L.cs K, LamX.TabB base mg p.1 p.2) : ModD L.M L.G F36 (L.Cl K) true 37 P w K mg base := hd.add chk htb (d35 hd htb) rfl 35 rfl _ s35 (by decide +kernel)
theorem d37 (hd : Hd L P K mg) (htb : ∀ p ∈ L.cs K, LamX.TabB base mg p.1 p.2) : ModD L.M L.G F37 (L.Cl K) true 38 P w K mg base := hd.add chk htb (d36 hd htb) rfl 36 rfl _ s36 (by decide +kernel)
theorem d38 (hd : Hd L P K mg) (htb : ∀ p ∈ L.cs K, LamX.TabB base mg p.1 p.2) : ModD L.M L.G F38 (L.Cl K) true 39 P w K mg base := hd.add chk htb (d37 hd htb) rfl 37 rfl _ s37 (by decide +kernel)
theorem d39 (hd : Hd L P K mg) (htb : ∀ p ∈ L.cs K, LamX.TabB base mg p.1 p.2) : ModD L.M L.G F39 (L.Cl K) true 40 P w K mg base := hd.add chk htb (d38 hd htb) rfl 38 rfl _ s38 (by decide +kernel)
theorem d40 (hd : Hd L P K mg) (htb : ∀ p ∈ L.cs K, LamX.TabB base mg p.1 p.2) : ModD L.M L.G F40 (L.Cl K) true 41 P w K mg base := hd.add chk htb (d39 hd htb) rfl 39 rfl _ s39 (by decide +kernel)
theorem d41 (hd : Hd L P K mg) (htb : ∀ p ∈ L.cs K, LamX.TabB base mg p.1 p.2) : ModD L.M L.G F41 (L.Cl K) true 42 P w K mg base := hd.add chk htb (d40 hd htb) rfl 40 rfl _ s40 (by decide +kernel)
theorem d42 (hd : Hd L P K mg) (htb : ∀ p ∈ L.cs K, LamX.TabB base mg p.1 p.2) : ModD L.M L.G F42 (L.Cl K) true 43 P w K mg base := hd.add chk htb (d41 hd htb) rfl 41 rfl _ s41 (by decide +kernel)
theorem d43 (hd : Hd L P K mg) (htb : ∀ p ∈ L.cs K, LamX.TabB base mg p.1 p.2) : ModD L.M L.G F43 (L.Cl K) true 43 P w K mg base := hd.addH chk (d42 hd htb) 0 rfl _ s42
theorem d44 (hd : Hd L P K mg) (htb : ∀ p ∈ L.cs K, LamX.TabB base mg p.1 p.2) : ModD L.M L.G F44 (L.Cl K) true 43 P w K mg base := hd.addG chk (e16 hd htb) rfl (d43 hd htb) 0 rfl (by decide +kernel) _ s43 (by decide)
theorem d45 (hd : Hd L P K mg) (htb : ∀ p ∈ L.cs K, LamX.TabB base mg p.1 p.2) : ModD L.M L.G F45 (L.Cl K) true 46 P w K mg base := hd.addL chk htb (d44 hd htb) rfl 42 rfl _ s44
abbrev kL : Nat := 49
theorem last (hd : Hd L P K mg) (htb : ∀ p ∈ L.cs K, LamX.TabB base mg p.1 p.2) {fd : FuncData} (Fu : FunD K "law" "law" (defArgs s_law) (defBody s_law) (defScope s_law) [] [] (He.ga K "law") fd) : FnG P w K mg base true kL (He.ga K "law") fd P_law (liftF K (L.Cl K) 1 spLaw) ∧ Binds K fd P_law [] := by
  have z := hd.one_ chk (d45 (w := w) hd htb) rfl htb (i := 43) rfl (sp := spLaw) (k_law rfl rfl rfl rfl rfl rfl rfl rfl rfl rfl) Fu
  exact ⟨z.1, z.2 rfl⟩
end
theorem law_true (ns : List Int) (_ : ns.length ≤ 63) : spLaw [.fro (ns.map D.int)] [] (fun d _ => d = .bl true) fun _ _ => False := ⟨ns, rfl, rfl, fun _ => rfl⟩
end K
set_option maxHeartbeats 0
open PySem PySem.W PySem.Calls PyProof.Rows DL
set_option maxRecDepth 100000 in
set_option maxHeartbeats 0 in
theorem PySem.Challenge.cw_bitspans_k18_spans_and_codes_told_holds : PySem.Challenge.rw_bitspans_k18_spans_and_codes_told.Holds := by
  w_on; o_law
  refine HandSHeadRun.head_any (r := OpenLaw.row PySem.Challenge.rw_bitspans_k18_spans_and_codes_told) (q := view (OpenLaw.row PySem.Challenge.rw_bitspans_k18_spans_and_codes_told).prog [56]) (H := K.hk) (ob := K.ob) (M := 4000) (loose := K.nm) (d := HandSHeadRun.topDef (OpenLaw.row PySem.Challenge.rw_bitspans_k18_spans_and_codes_told).prog 56) (kwd := []) K.ob_eq
    (by kernel_rfl) (fun s => by kernel_rfl) K.run (by kernel_rfl) (by kernel_rfl) (by kernel_rfl) (by rfl) (by first | assumption | decide +kernel) (by decide +kernel) ⟨rfl, rfl, rfl, rfl, rfl, by decide +kernel⟩ ?hw ?hc
  case hw => w_witness2
  case hc =>
    refine walk_D (l := PySem.Challenge.rw_bitspans_k18_spans_and_codes_told) (n := 63) (k := K.kL) (x := "_law_script") (gd := true) (f := K.spLaw) rfl (by decide) (by kernel_rfl) ⟨rfl, by decide, by decide⟩ K.law_true ?F
    intro w mg fa h Y G hmg0
    obtain ⟨KK, KX, c⟩ := Y
    have hmg : mg ("law" : PySem.Str) = some (.ref fa) := by
      have e : (HandSHeadRun.topDef (OpenLaw.row PySem.Challenge.rw_bitspans_k18_spans_and_codes_told).prog 56).name = ("law" : PySem.Str) := by kernel_rfl
      rw [← e]
      exact hmg0
    have hd : Hd K.L (PySem.Challenge.rw_bitspans_k18_spans_and_codes_told).prog KK mg := Hd.of KX G (by decide +kernel) c
    obtain ⟨fd, Fu, hg⟩ := hd.def_ 43 ⟨"law", K.s_law, K.N_law, K.P_law, K.m_law⟩ rfl
    have e2 := hmg.symm.trans hg
    cases e2
    have b := funD_binds Fu (chk_pos (Lw.chk_at K.chk (i := 43) rfl) rfl)
    exact ⟨KK, fd, K.L.Cl KK, K.L.cs KK, KX, fun s u => posA_bindsTo Fu (chk_pos (Lw.chk_at K.chk (i := 43) rfl) rfl) s u, Lw.cs_emp c, Lw.cs_out c, Lw.cs_hd c, Lw.cs_T, fun base _ _ htb => (K.last hd htb Fu).1⟩

