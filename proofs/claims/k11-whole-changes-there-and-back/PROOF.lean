import PyProof.Rows.All
import Wide.All
import OpenK.AllK
import Wide.FinOn
import PySem.Challenge.RW_bitspans_k11_whole_changes_there_and_bac
import HandS.ForMost
import HandS.ForExc
import HandS.Defaults
import HandS.IsInst
import HandS.Wide
import HandS.WideBits
import HandS.Flow
import HandS.TryMany
import HandS.CallSlots
import HandS.Walk
import HandS.Lambda
import HandS.TupAny
import HandS.Conv
import HandS.Style
import PyProof.ReprReads
import HandS.Deep
import HandS.RaiseMore
import PyProof.ReprRoads
import HandS.SuiteRaise
import HandS.RaiseFrom
import KE.KAsSuite
import KE.GoesEnum
import HandS.HeadHook2
import KE.GoesZip
import KE.GoesMore
import HandS.Star
import HandS.TupMul
import HandS.SortOrd
import HandS.SortRule
import KE.KSortTupAny
import KE.KDictSum
import PyProof.TupleOfSeq
import PyProof.Rows.SortKeyStr
import PyProof.DictDisplay
import KE.KDictDisplayH
import HandS.Keys
import KE.KSortKeyAny
import PyProof.Rows.SortStr
import HandS.DictTup
import HandS.TupLe
import KE.KDictCopyH
import HandS.DictComp
import HandS.TupLen
import HandS.ExcField
import HandS.ExcInit
import HandS.TryOnly
import HandS.ExcIs
import KE.KExcSuper
import KE.KDictPairs
import PyProof.P3In
import KE.KExcIs
import HandS.SetKeys
import HandS.HeadEnd
import HandS.EndTab
import KE.KStateDown
import HandS.Head0
import HandS.Head1
import HandS.Head2
import HandS.HeadHook4
import PyProof.ReprLen
import KE.OsArith
import KE.IntBitsLaws
set_option Elab.async false
set_option linter.all false
set_option maxRecDepth 100000
set_option maxHeartbeats 4000000
namespace DL
open PySem PySem.Spec PyProof.Rows L2
abbrev Fg := PySem.W.Frag
inductive D where
  | non | bl (b : Bool) | int (i : Int) | str (x : Str) | ty (n : String) | ref (n : Nat) | tup (xs : List D) | lst (xs : List D) | fro (xs : List D) | wtp (xs : List D)
/-- an object that changes: a list, a dict with keys that are numbers or texts, one with keys that are tuples of these, an instance of the class of index c -/
inductive O where
  | lst (xs : List D) | dic (kvs : List (Key × D)) | dit (kvs : List (List Key × D)) | fit (kvs : List (List Key × D)) | fic (kvs : List (Key × D)) | ins (c : Nat) (fs : List (Str × D))
/-- a value in flight: a tree; a new list; an own list of a slot -/
inductive W where
  | d (x : D) | new (xs : List D) | own (xs : List D) | fn (a : Addr)
abbrev Hs := List O
/-- the classes by index; the tables of code objects -/
structure Cm where
  cl : Nat → Addr
  T : List (Addr × Str)
instance : CoeFun Cm fun _ => Nat → Addr := ⟨Cm.cl⟩
abbrev DSt := List (Option W)
/-- how trees stand in the heap: the places of shared objects; the lists that never change any more -/
structure Rg where
  n : Nat
  at_ : Nat → Addr
  fz : Addr → Prop
/-- a list that never changes any more -/
def FzL (R : Rg) (H : Hp) (a : Addr) (vs : List V) : Prop := R.fz a ∧ H a = some (.lst vs)
/-- a list of another's: the script, one of the module -/
def FoL (K : Fg) (H : Hp) (a : Addr) (vs : List V) : Prop := (∃ o, H a = some (.frz o (.lst vs))) ∨
    ∃ (o : Obj) (its : Array Value) (n : Nat), K.lookup a = some o ∧ o.cls = .type "list" ∧ o.dict = none ∧ o.data = .seq its n ∧ its.size ≤ sizeLine ∧ Vals vs its.toList
/-- a tuple of the written part -/
def WrT (K : Fg) (a : Addr) (vs : List V) : Prop := ∀ H : Hp, SqT K H a vs
/-- a tracked tuple -/
def TpL (H : Hp) (a : Addr) (vs : List V) : Prop := H a = some (.tup vs)
theorem TpL.sq {K : Fg} {H : Hp} {a : Addr} {vs : List V} (r : TpL H a vs) : SqT K H a vs := .inl (.inl r)
mutual
def RelD (K : Fg) (R : Rg) (H : Hp) : D → V → Prop
  | .non, v => v = .non
  | .bl b, v => v = .bl b
  | .int i, v => v = .int i
  | .str x, v => v = .str x
  | .ty n, v => v = .ty n
  | .ref i, v => i < R.n ∧ v = .ref (R.at_ i)
  | .tup ds, v => ∃ a vs, v = .ref a ∧ TpL H a vs ∧ RelDs K R H ds vs
  | .lst ds, v => ∃ a vs, v = .ref a ∧ FzL R H a vs ∧ RelDs K R H ds vs
  | .fro ds, v => ∃ a vs, v = .ref a ∧ FoL K H a vs ∧ RelDs K R H ds vs
  | .wtp ds, v => ∃ a vs, v = .ref a ∧ WrT K a vs ∧ RelDs K R H ds vs
def RelDs (K : Fg) (R : Rg) (H : Hp) : List D → List V → Prop
  | [], vs => vs = []
  | d :: ds, vs => ∃ v r, vs = v :: r ∧ RelD K R H d v ∧ RelDs K R H ds r
end
/-- not the place of a shared object -/
def Out (R : Rg) (a : Addr) : Prop := ∀ i, i < R.n → R.at_ i ≠ a
def RelW (K : Fg) (H₁ : Hp) (R : Rg) (H : Hp) : W → V → Prop
  | .d x, v => RelD K R H x v
  | .new xs, v => ∃ a vs, v = .ref a ∧ H₁ a = none ∧ H a = some (.lst vs) ∧ ¬ R.fz a ∧ Out R a ∧ RelDs K R H xs vs
  | .own xs, v => ∃ a vs, v = .ref a ∧ H a = some (.lst vs) ∧ ¬ R.fz a ∧ Out R a ∧ RelDs K R H xs vs
  | .fn a, v => v = .ref a
def RelKd {κ : Type} (K : Fg) (R : Rg) (H : Hp) : List (κ × D) → List (κ × V) → Prop
  | [], vs => vs = []
  | (x, d) :: ds, vs => ∃ v r, vs = (x, v) :: r ∧ RelD K R H d v ∧ RelKd K R H ds r
def RelF (K : Fg) (R : Rg) (H : Hp) : List (Str × D) → List (Str × V) → Prop
  | [], vs => vs = []
  | (x, d) :: ds, vs => ∃ v r, vs = (x, v) :: r ∧ RelD K R H d v ∧ RelF K R H ds r
/-- Cl: which class an index is -/
def RelO (K : Fg) (Cl : Cm) (R : Rg) (H : Hp) : O → HO → Prop
  | .lst xs, u => ∃ vs, u = .lst vs ∧ RelDs K R H xs vs
  | .dic kvs, u => ∃ ks, u = .dK ks ∧ RelKd K R H kvs ks
  | .dit kvs, u => ∃ ks, u = .dT ks ∧ RelKd K R H kvs ks
  | .fit kvs, u => ∃ o ks, u = .frz o (.dT ks) ∧ RelKd K R H kvs ks
  | .fic kvs, u => ∃ o ks, u = .frz o (.dK ks) ∧ RelKd K R H kvs ks
  | .ins c fs, u => ∃ dx ks, u = .ins (Cl c) dx ks ∧ RelF K R H fs ks
structure HOk' (K : Fg) (Cl : Cm) (R : Rg) (H : Hp) (h : Hs) : Prop where
  len : h.length = R.n
  obj : ∀ i o, h[i]? = some o → ∃ u, H (R.at_ i) = some u ∧ RelO K Cl R H o u
  inj : ∀ i j, i < R.n → j < R.n → R.at_ i = R.at_ j → i = j
  nfz : ∀ i, i < R.n → ¬ R.fz (R.at_ i)
  fzd : ∀ a, R.fz a → ∃ vs, H a = some (.lst vs)
  tab : LamX.Tabs Cl.T H
/-- from one state to a later one: what is not shared stays -/
structure Ex (R : Rg) (H : Hp) (R' : Rg) (H' : Hp) : Prop where
  le : R.n ≤ R'.n
  at_ : ∀ i, i < R.n → R'.at_ i = R.at_ i
  fz : ∀ a, R.fz a → R'.fz a
  nat : ∀ i, R.n ≤ i → i < R'.n → H (R'.at_ i) = none
  nfz : ∀ a, R'.fz a → R.fz a ∨ H a = none
  frm : ∀ b o, H b = some o → Out R b → (∀ ps, o ≠ .tbl ps) → H' b = some o
  dom : ∀ b, H' b = none → H b = none
  lk : ∀ b o u, H b = some (.frz o u) → H' b = some (.frz o u)
section
variable {K : Fg} {Cl : Cm} {R R' R'' : Rg} {H H' H'' H₁ H₀ : Hp} {h h' : Hs}
theorem Ex.refl (R : Rg) (H : Hp) : Ex R H R H := ⟨Nat.le_refl _, fun _ _ => rfl, fun _ z => z, fun i a b => absurd b (by omega), fun _ z => .inl z, fun _ _ e _ _ => e, fun _ e => e, fun _ _ _ e => e⟩
theorem Ex.out {b : Addr} {o : HO} (x : Ex R H R' H') (e : H b = some o) (z : Out R b) : Out R' b := fun i hi q => by
  by_cases l : i < R.n
  · rw [x.at_ i l] at q; exact z i l q
  · have := x.nat i (by omega) hi; rw [q, e] at this; cases this
theorem Ex.trans (x : Ex R H R' H') (y : Ex R' H' R'' H'') : Ex R H R'' H'' where
  le := Nat.le_trans x.le y.le
  at_ := fun i hi => (y.at_ i (Nat.lt_of_lt_of_le hi x.le)).trans (x.at_ i hi)
  fz := fun a z => y.fz a (x.fz a z)
  nat := fun i a b => by
    by_cases l : i < R'.n
    · rw [y.at_ i l]; exact x.nat i a l
    · exact x.dom _ (y.nat i (by omega) b)
  nfz := fun a z => by
    rcases y.nfz a z with q | q
    · exact x.nfz a q
    · exact .inr (x.dom a q)
  frm := fun b o e z n => y.frm b o (x.frm b o e z n) (x.out e z) n
  dom := fun b e => x.dom b (y.dom b e)
  lk := fun b o u e => y.lk b o u (x.lk b o u e)
theorem HOk'.outT (ok : HOk' K Cl R H h) {a : Addr} {u : HO} (e : H a = some u) (hu : (∀ xs, u ≠ .lst xs) ∧ (∀ xs, u ≠ .dK xs) ∧ (∀ xs, u ≠ .dT xs) ∧ (∀ c d xs, u ≠ .ins c d xs) ∧ ∀ o v, u ≠ .frz o v) : Out R a := fun i hi q => by
  have hl : i < h.length := by rw [ok.len]; exact hi
  obtain ⟨u', e', r⟩ := ok.obj i h[i] (List.getElem?_eq_getElem hl)
  rw [q, e] at e'
  cases e'
  cases g : h[i] with
  | lst xs => rw [g] at r; obtain ⟨vs, e, _⟩ := r; exact hu.1 _ e
  | dic xs => rw [g] at r; obtain ⟨vs, e, _⟩ := r; exact hu.2.1 _ e
  | dit xs => rw [g] at r; obtain ⟨vs, e, _⟩ := r; exact hu.2.2.1 _ e
  | ins c xs => rw [g] at r; obtain ⟨dx, vs, e, _⟩ := r; exact hu.2.2.2.1 _ _ _ e
  | fit xs => rw [g] at r; obtain ⟨o, vs, e, _⟩ := r; exact hu.2.2.2.2 _ _ e
  | fic xs => rw [g] at r; obtain ⟨o, vs, e, _⟩ := r; exact hu.2.2.2.2 _ _ e
theorem HOk'.outF (ok : HOk' K Cl R H h) {a : Addr} (z : R.fz a) : Out R a := fun i hi q => ok.nfz i hi (by rw [q]; exact z)
theorem tpL_ex {a : Addr} {vs : List V} (ok : HOk' K Cl R H h) (x : Ex R H R' H') (r : TpL H a vs) : TpL H' a vs :=
  x.frm a _ r (ok.outT r ⟨fun _ => HO.noConfusion, fun _ => HO.noConfusion, fun _ => HO.noConfusion, fun _ _ _ => HO.noConfusion, fun _ _ => HO.noConfusion⟩) (fun _ => HO.noConfusion)
theorem fzL_ex {a : Addr} {vs : List V} (ok : HOk' K Cl R H h) (x : Ex R H R' H') (r : FzL R H a vs) : FzL R' H' a vs :=
  ⟨x.fz a r.1, x.frm a _ r.2 (ok.outF r.1) (fun _ => HO.noConfusion)⟩
theorem foL_ex {a : Addr} {vs : List V} (ok : HOk' K Cl R H h) (x : Ex R H R' H') (r : FoL K H a vs) : FoL K H' a vs := by
  rcases r with ⟨o, r⟩ | r
  · exact .inl ⟨o, x.lk _ _ _ r⟩
  · exact .inr r
theorem FzL.sq {a : Addr} {vs : List V} (r : FzL R H a vs) : SqL K H a vs := .inl (.inl r.2)
theorem FoL.sq {a : Addr} {vs : List V} (r : FoL K H a vs) : SqL K H a vs := by
  rcases r with ⟨o, r⟩ | r
  · exact .inl (.inr ⟨o, r⟩)
  · exact .inr r
/-- what trees lean on stays; locked things may be let go -/
structure Mo0 (K : Fg) (R : Rg) (H : Hp) (R' : Rg) (H' : Hp) : Prop where
  le : R.n ≤ R'.n
  at_ : ∀ i, i < R.n → R'.at_ i = R.at_ i
  tup : ∀ a vs, TpL H a vs → TpL H' a vs
  lst : ∀ a vs, FzL R H a vs → FzL R' H' a vs
  fro : ∀ a vs, FoL K H a vs → FoL K H' a vs
/-- what trees lean on stays -/
structure Mo (K : Fg) (R : Rg) (H : Hp) (R' : Rg) (H' : Hp) : Prop where
  le : R.n ≤ R'.n
  at_ : ∀ i, i < R.n → R'.at_ i = R.at_ i
  tup : ∀ a vs, TpL H a vs → TpL H' a vs
  lst : ∀ a vs, FzL R H a vs → FzL R' H' a vs
  fro : ∀ a vs, FoL K H a vs → FoL K H' a vs
  lk : ∀ b o u, H b = some (.frz o u) → H' b = some (.frz o u)
theorem Ex.mo (ok : HOk' K Cl R H h) (x : Ex R H R' H') : Mo K R H R' H' := ⟨x.le, x.at_, fun _ _ r => tpL_ex ok x r, fun _ _ r => fzL_ex ok x r, fun _ _ r => foL_ex ok x r, x.lk⟩
mutual
theorem relD_mo0 (x : Mo0 K R H R' H') : ∀ {d : D} {v : V}, RelD K R H d v → RelD K R' H' d v
  | .non, v, r => by unfold RelD at r ⊢; exact r
  | .bl _, v, r => by unfold RelD at r ⊢; exact r
  | .int _, v, r => by unfold RelD at r ⊢; exact r
  | .str _, v, r => by unfold RelD at r ⊢; exact r
  | .ty _, v, r => by unfold RelD at r ⊢; exact r
  | .ref i, v, r => by
    unfold RelD at r ⊢
    exact ⟨Nat.lt_of_lt_of_le r.1 x.le, by rw [x.at_ i r.1]; exact r.2⟩
  | .tup ds, v, r => by
    unfold RelD at r ⊢
    obtain ⟨a, vs, e, q, t⟩ := r
    exact ⟨a, vs, e, x.tup _ _ q, relDs_mo0 x t⟩
  | .lst ds, v, r => by
    unfold RelD at r ⊢
    obtain ⟨a, vs, e, q, t⟩ := r
    exact ⟨a, vs, e, x.lst _ _ q, relDs_mo0 x t⟩
  | .fro ds, v, r => by
    unfold RelD at r ⊢
    obtain ⟨a, vs, e, q, t⟩ := r
    exact ⟨a, vs, e, x.fro _ _ q, relDs_mo0 x t⟩
  | .wtp ds, v, r => by
    unfold RelD at r ⊢
    obtain ⟨a, vs, e, q, t⟩ := r
    exact ⟨a, vs, e, q, relDs_mo0 x t⟩
theorem relDs_mo0 (x : Mo0 K R H R' H') : ∀ {ds : List D} {vs : List V}, RelDs K R H ds vs → RelDs K R' H' ds vs
  | [], vs, r => by unfold RelDs at r ⊢; exact r
  | d :: ds, vs, r => by
    unfold RelDs at r ⊢
    obtain ⟨v, q, e, r1, r2⟩ := r
    exact ⟨v, q, e, relD_mo0 x r1, relDs_mo0 x r2⟩
end
theorem relF_mo0 (x : Mo0 K R H R' H') : ∀ {ds : List (Str × D)} {vs : List (Str × V)}, RelF K R H ds vs → RelF K R' H' ds vs
  | [], vs, r => r
  | (y, d) :: ds, vs, r => by
    obtain ⟨v, q, e, r1, r2⟩ := r
    exact ⟨v, q, e, relD_mo0 x r1, relF_mo0 x r2⟩
theorem relKd_mo0 {κ : Type} (x : Mo0 K R H R' H') : ∀ {ds : List (κ × D)} {vs : List (κ × V)}, RelKd K R H ds vs → RelKd K R' H' ds vs
  | [], vs, r => r
  | (y, d) :: ds, vs, r => by
    obtain ⟨v, q, e, r1, r2⟩ := r
    exact ⟨v, q, e, relD_mo0 x r1, relKd_mo0 x r2⟩
theorem relO_mo0 (x : Mo0 K R H R' H') {o : O} {u : HO} (r : RelO K Cl R H o u) : RelO K Cl R' H' o u := by
  cases o with
  | lst xs => obtain ⟨vs, e, t⟩ := r; exact ⟨vs, e, relDs_mo0 x t⟩
  | dic xs => obtain ⟨vs, e, t⟩ := r; exact ⟨vs, e, relKd_mo0 x t⟩
  | dit xs => obtain ⟨vs, e, t⟩ := r; exact ⟨vs, e, relKd_mo0 x t⟩
  | ins c xs => obtain ⟨dx, vs, e, t⟩ := r; exact ⟨dx, vs, e, relF_mo0 x t⟩
  | fit xs => obtain ⟨o, vs, e, t⟩ := r; exact ⟨o, vs, e, relKd_mo0 x t⟩
  | fic xs => obtain ⟨o, vs, e, t⟩ := r; exact ⟨o, vs, e, relKd_mo0 x t⟩
theorem Mo.m0 (x : Mo K R H R' H') : Mo0 K R H R' H' := ⟨x.le, x.at_, x.tup, x.lst, x.fro⟩
theorem relD_mo (x : Mo K R H R' H') {d : D} {v : V} (r : RelD K R H d v) : RelD K R' H' d v := relD_mo0 x.m0 r
theorem relDs_mo (x : Mo K R H R' H') {ds : List D} {vs : List V} (r : RelDs K R H ds vs) : RelDs K R' H' ds vs := relDs_mo0 x.m0 r
theorem relF_mo (x : Mo K R H R' H') {ds : List (Str × D)} {vs : List (Str × V)} (r : RelF K R H ds vs) : RelF K R' H' ds vs := relF_mo0 x.m0 r
theorem relKd_mo {κ : Type} (x : Mo K R H R' H') {ds : List (κ × D)} {vs : List (κ × V)} (r : RelKd K R H ds vs) : RelKd K R' H' ds vs := relKd_mo0 x.m0 r
theorem relO_mo (x : Mo K R H R' H') {o : O} {u : HO} (r : RelO K Cl R H o u) : RelO K Cl R' H' o u := relO_mo0 x.m0 r
theorem relD_ex (ok : HOk' K Cl R H h) (x : Ex R H R' H') {d : D} {v : V} (r : RelD K R H d v) : RelD K R' H' d v := relD_mo (x.mo ok) r
theorem relDs_ex (ok : HOk' K Cl R H h) (x : Ex R H R' H') {d : List D} {v : List V} (r : RelDs K R H d v) : RelDs K R' H' d v := relDs_mo (x.mo ok) r
theorem relF_ex (ok : HOk' K Cl R H h) (x : Ex R H R' H') {d : List (Str × D)} {v : List (Str × V)} (r : RelF K R H d v) : RelF K R' H' d v := relF_mo (x.mo ok) r
theorem relO_ex (ok : HOk' K Cl R H h) (x : Ex R H R' H') {o : O} {u : HO} (r : RelO K Cl R H o u) : RelO K Cl R' H' o u := relO_mo (x.mo ok) r
theorem relW_ex (ok : HOk' K Cl R H h) (x : Ex R H R' H') {w : W} {v : V} (r : RelW K H₁ R H w v) : RelW K H₁ R' H' w v := by
  cases w with
  | d _ => exact relD_ex ok x r
  | new xs =>
    obtain ⟨a, vs, e, n1, q, nf, o, t⟩ := r
    refine ⟨a, vs, e, n1, x.frm a _ q o (fun _ => HO.noConfusion), fun z => ?_, x.out q o, relDs_ex ok x t⟩
    rcases x.nfz a z with z | z
    · exact nf z
    · rw [q] at z; cases z
  | own xs =>
    obtain ⟨a, vs, e, q, nf, o, t⟩ := r
    refine ⟨a, vs, e, x.frm a _ q o (fun _ => HO.noConfusion), fun z => ?_, x.out q o, relDs_ex ok x t⟩
    rcases x.nfz a z with z | z
    · exact nf z
    · rw [q] at z; cases z
  | fn _ => exact r
theorem relKd_ex {κ : Type} (ok : HOk' K Cl R H h) (x : Ex R H R' H') {d : List (κ × D)} {v : List (κ × V)} (r : RelKd K R H d v) : RelKd K R' H' d v := relKd_mo (x.mo ok) r
theorem relW_start {w : W} {v : V} (hd : ∀ b, H₁ b = none → H₀ b = none) (r : RelW K H₁ R H w v) : RelW K H₀ R H w v := by
  cases w with
  | d _ => exact r
  | own _ => exact r
  | fn _ => exact r
  | new xs => obtain ⟨a, vs, e, n1, q⟩ := r; exact ⟨a, vs, e, hd a n1, q⟩
theorem relDs_len : ∀ {ds : List D} {vs : List V}, RelDs K R H ds vs → ds.length = vs.length
  | [], vs, r => by unfold RelDs at r; subst r; rfl
  | d :: ds, vs, r => by
    unfold RelDs at r
    obtain ⟨v, q, e, r1, r2⟩ := r
    subst e
    simp [relDs_len r2]
theorem relDs_get : ∀ {ds : List D} {vs : List V} {i : Nat} {d : D}, RelDs K R H ds vs → ds[i]? = some d → ∃ v, vs[i]? = some v ∧ RelD K R H d v
  | [], vs, i, d, r, e => by simp at e
  | d :: ds, vs, i, d', r, e => by
    unfold RelDs at r
    obtain ⟨v, q, e1, r1, r2⟩ := r
    subst e1
    cases i with
    | zero => simp at e; subst e; exact ⟨v, rfl, r1⟩
    | succ i =>
      obtain ⟨w, h1, h2⟩ := relDs_get (i := i) r2 (by simpa using e)
      exact ⟨w, by simpa using h1, h2⟩
theorem relDs_append : ∀ {ds es : List D} {vs us : List V}, RelDs K R H ds vs → RelDs K R H es us → RelDs K R H (ds ++ es) (vs ++ us)
  | [], es, vs, us, r, s => by unfold RelDs at r; subst r; exact s
  | d :: ds, es, vs, us, r, s => by
    unfold RelDs at r
    obtain ⟨v, q, e1, r1, r2⟩ := r
    subst e1
    show RelDs K R H (d :: (ds ++ es)) (v :: (q ++ us))
    unfold RelDs
    exact ⟨v, _, rfl, r1, relDs_append r2 s⟩
theorem relDs_set : ∀ {ds : List D} {vs : List V} {d : D} {v : V} (i : Nat), RelDs K R H ds vs → RelD K R H d v → RelDs K R H (ds.set i d) (vs.set i v)
  | [], vs, d, v, i, r, s => by unfold RelDs at r; subst r; simp; unfold RelDs; rfl
  | d0 :: ds, vs, d, v, i, r, s => by
    unfold RelDs at r
    obtain ⟨w, q, e1, r1, r2⟩ := r
    subst e1
    cases i with
    | zero => show RelDs K R H (d :: ds) (v :: q); unfold RelDs; exact ⟨v, q, rfl, s, r2⟩
    | succ i => show RelDs K R H (d0 :: ds.set i d) (w :: q.set i v); unfold RelDs; exact ⟨w, _, rfl, r1, relDs_set i r2 s⟩
theorem relDs_take : ∀ {ds : List D} {vs : List V} (n : Nat), RelDs K R H ds vs → RelDs K R H (ds.take n) (vs.take n)
  | _, _, 0, _ => by simp; unfold RelDs; rfl
  | [], vs, n + 1, r => by unfold RelDs at r; subst r; simp; unfold RelDs; rfl
  | d :: ds, vs, n + 1, r => by
    unfold RelDs at r
    obtain ⟨w, q, e1, r1, r2⟩ := r
    subst e1
    show RelDs K R H (d :: ds.take n) (w :: q.take n); unfold RelDs; exact ⟨w, _, rfl, r1, relDs_take n r2⟩
theorem relDs_drop : ∀ {ds : List D} {vs : List V} (n : Nat), RelDs K R H ds vs → RelDs K R H (ds.drop n) (vs.drop n)
  | _, _, 0, r => r
  | [], vs, n + 1, r => by unfold RelDs at r; subst r; simp; unfold RelDs; rfl
  | d :: ds, vs, n + 1, r => by
    unfold RelDs at r
    obtain ⟨w, q, e1, r1, r2⟩ := r
    subst e1
    exact relDs_drop n r2
theorem relDs_ints : ∀ {ns : List Int} {vs : List V}, RelDs K R H (ns.map D.int) vs → vs = ns.map V.int
  | [], vs, r => by unfold List.map RelDs at r; subst r; rfl
  | n :: ns, vs, r => by
    unfold List.map RelDs at r
    obtain ⟨w, q, e1, r1, r2⟩ := r
    unfold RelD at r1
    subst e1 r1
    rw [relDs_ints r2]; rfl
theorem relDs_bls : ∀ {ns : List Bool} {vs : List V}, RelDs K R H (ns.map D.bl) vs → vs = ns.map V.bl
  | [], vs, r => by unfold List.map RelDs at r; subst r; rfl
  | n :: ns, vs, r => by
    unfold List.map RelDs at r
    obtain ⟨w, q, e1, r1, r2⟩ := r
    unfold RelD at r1
    subst e1 r1
    rw [relDs_bls r2]; rfl
theorem relDs_strs : ∀ {ns : List Str} {vs : List V}, RelDs K R H (ns.map D.str) vs → vs = ns.map V.str
  | [], vs, r => by unfold List.map RelDs at r; subst r; rfl
  | n :: ns, vs, r => by
    unfold List.map RelDs at r
    obtain ⟨w, q, e1, r1, r2⟩ := r
    unfold RelD at r1
    subst e1 r1
    rw [relDs_strs r2]; rfl
theorem relDs_mkints : ∀ (ns : List Int), RelDs K R H (ns.map D.int) (ns.map V.int)
  | [] => by unfold List.map RelDs; rfl
  | n :: ns => by unfold List.map RelDs; exact ⟨_, _, rfl, by unfold RelD; rfl, relDs_mkints ns⟩
/-- a new object is tracked, not shared -/
theorem Ex.fresh {p : Addr} {o : HO} (np : H p = none) : Ex R H R (upd H p o) :=
  ⟨Nat.le_refl _, fun _ _ => rfl, fun _ z => z, fun i a b => absurd b (by omega), fun _ z => .inl z, fun b u e _ _ => by rw [upd_ne (ne_of_none e np)]; exact e,
    fun b e => by
      by_cases q : b = p
      · subst q; exact np
      · rw [upd_ne q] at e; exact e, fun b o' u e => by rw [upd_ne (ne_of_none e np)]; exact e⟩
/-- tables stay where a new object comes, where another object is written -/
theorem tabs_new {T : List (Addr × Str)} {p : Addr} {o : HO} (np : H p = none) (z : LamX.Tabs T H) : LamX.Tabs T (upd H p o) := z.ext fun b u e => by rw [upd_ne (ne_of_none e np)]; exact e
theorem tabs_wr {T : List (Addr × Str)} {a : Addr} {o o' : HO} (q : H a = some o) (n1 : ∀ ps, o ≠ .tbl ps) (n2 : ∀ f, o ≠ .ext f) (z : LamX.Tabs T H) : LamX.Tabs T (upd H a o') := fun p hp => by
  obtain ⟨ps, h1, h2, h3⟩ := z p hp
  refine ⟨ps, by rw [upd_ne (fun e => by rw [e, q] at h1; exact n1 ps (Option.some.inj h1))]; exact h1, h2, fun pos cv hc => ?_⟩
  obtain ⟨c, e1, e2⟩ := h3 pos cv hc
  exact ⟨c, e1, by rw [upd_ne (fun e => by rw [e, q] at e2; exact n2 _ (Option.some.inj e2))]; exact e2⟩
theorem HOk'.ex (ok : HOk' K Cl R H h) (x : Ex R H R H') (hs : ∀ i, i < R.n → H' (R.at_ i) = H (R.at_ i)) (ht : LamX.Tabs Cl.T H') : HOk' K Cl R H' h where
  len := ok.len
  obj := fun i o e => by
    obtain ⟨u, e1, r⟩ := ok.obj i o e
    have hi : i < R.n := by rw [← ok.len]; exact (List.getElem?_eq_some_iff.mp e).1
    exact ⟨u, by rw [hs i hi]; exact e1, relO_ex ok x r⟩
  inj := ok.inj
  nfz := ok.nfz
  fzd := fun a z => by obtain ⟨vs, e⟩ := ok.fzd a z; exact ⟨vs, x.frm a _ e (ok.outF z) (fun _ => HO.noConfusion)⟩
  tab := ht
theorem HOk'.there (ok : HOk' K Cl R H h) {i : Nat} (hi : i < R.n) : ∃ u, H (R.at_ i) = some u := by
  have hl : i < h.length := by rw [ok.len]; exact hi
  obtain ⟨u', e', r⟩ := ok.obj i h[i] (List.getElem?_eq_getElem hl)
  exact ⟨u', e'⟩
theorem HOk'.fresh (ok : HOk' K Cl R H h) {p : Addr} {o : HO} (np : H p = none) : HOk' K Cl R (upd H p o) h :=
  ok.ex (Ex.fresh np) (fun i hi => by
    obtain ⟨u, e⟩ := ok.there hi
    rw [upd_ne (ne_of_none e np)]) (tabs_new np ok.tab)
theorem HOk'.nfresh (ok : HOk' K Cl R H h) {p : Addr} (np : H p = none) : ¬ R.fz p ∧ Out R p := by
  refine ⟨fun z => ?_, fun i hi q => ?_⟩
  · obtain ⟨vs, e⟩ := ok.fzd p z
    rw [np] at e
    cases e
  · obtain ⟨u, e⟩ := ok.there hi
    rw [q, np] at e
    cases e
/-- a list becomes one that never changes -/
def Rg.frz (R : Rg) (a : Addr) : Rg := ⟨R.n, R.at_, fun b => R.fz b ∨ b = a⟩
theorem Mo.frz {a : Addr} : Mo K R H (R.frz a) H := ⟨Nat.le_refl _, fun _ _ => rfl, fun _ _ r => r, fun b vs r => ⟨.inl r.1, r.2⟩, fun _ _ r => r, fun _ _ _ r => r⟩
theorem HOk'.frz (ok : HOk' K Cl R H h) {a : Addr} {vs : List V} (e : H a = Option.some (HO.lst vs)) (o : Out R a) : HOk' K Cl (R.frz a) H h := by
  refine ⟨ok.len, fun i o' e' => ?_, ok.inj, fun i hi z => ?_, fun b z => ?_, ok.tab⟩
  · obtain ⟨u, e1, r⟩ := ok.obj i o' e'
    exact ⟨u, e1, relO_mo Mo.frz r⟩
  · rcases z with z | z
    · exact ok.nfz i hi z
    · exact o i hi z
  · rcases z with z | z
    · exact ok.fzd b z
    · subst z; exact ⟨vs, e⟩
/-- what came since the start may be frozen -/
theorem Ex.frz {a : Addr} (x : Ex R H R' H') (n : H a = none) : Ex R H (R'.frz a) H' :=
  ⟨x.le, x.at_, fun b z => .inl (x.fz b z), x.nat, fun b z => by
    rcases z with z | z
    · exact x.nfz b z
    · subst z; exact .inr n, x.frm, x.dom, x.lk⟩
end
end DL
set_option maxHeartbeats 4000000
namespace DL
open PySem PySem.Spec PyProof.Rows L2
/-- an exception: the index of its class, its fields -/
structure Xn where
  c : Nat
  fs : List (Str × D)
abbrev Sl := L2.St
abbrev XD := Xn → Hs → Prop
abbrev TDE := DSt → Hs → (W → Hs → Prop) → XD → Prop
abbrev TDV := DSt → Hs → (D → Hs → Prop) → XD → Prop
abbrev TDA := DSt → Hs → (List D → Hs → Prop) → XD → Prop
abbrev TDT := DSt → Hs → (Bool → Hs → Prop) → XD → Prop
/-- what stays through a body: the written part, the classes, the entry -/
structure Cn where
  K : Fg
  Cl : Cm
  R₀ : Rg
  H₀ : Hp
structure Env (C : Cn) (R : Rg) (ds : DSt) (σ : Sl) (H : Hp) (h : Hs) : Prop where
  ok : HOk' C.K C.Cl R H h
  ex : Ex C.R₀ C.H₀ R H
  len : ds.length = σ.length
  slot : ∀ (i : Nat) (w : W), ds[i]? = some (some w) → ∃ v, σ[i]? = some (some v) ∧ RelW C.K C.H₀ R H w v
  nnew : ∀ (i : Nat) xs, ds[i]? ≠ some (some (.new xs))
  own : ∀ (i j : Nat) xs ys (a : Addr), ds[i]? = some (some (.own xs)) → σ[i]? = some (some (.ref a)) → ds[j]? = some (some (.own ys)) → σ[j]? = some (some (.ref a)) → i = j
  own0 : ∀ (i : Nat) xs (a : Addr), ds[i]? = some (some (.own xs)) → σ[i]? = some (some (.ref a)) → C.H₀ a = none
def RelX (C : Cn) (R : Rg) (H : Hp) (x : Xn) (cls : Value) (dd : Option Addr) : Prop :=
  cls = .ref (C.Cl x.c) ∧ ∃ a ks, dd = some a ∧ H a = some (.xd ks) ∧ RelF C.K R H x.fs ks
section
variable {C : Cn} {R R' R'' : Rg} {ds : DSt} {σ : Sl} {H H' H'' : Hp} {h h' h'' : Hs}
theorem Env.relW (e : Env C R ds σ H h) {i : Nat} {w : W} {v : V} (hw : ds[i]? = some (some w)) (hv : σ[i]? = some (some v)) : RelW C.K C.H₀ R H w v := by
  obtain ⟨v', e1, r⟩ := e.slot i w hw
  rw [hv] at e1
  cases e1
  exact r
/-- a step that leaves the slots -/
theorem Env.step (e : Env C R ds σ H h) (x : Ex R H R' H') (ok : HOk' C.K C.Cl R' H' h') : Env C R' ds σ H' h' where
  ok := ok
  ex := e.ex.trans x
  len := e.len
  slot := fun i w q => by
    obtain ⟨v, e1, r⟩ := e.slot i w q
    exact ⟨v, e1, relW_ex e.ok x r⟩
  nnew := e.nnew
  own := e.own
  own0 := e.own0
theorem Env.fresh (e : Env C R ds σ H h) {p : Addr} {o : HO} (np : H p = none) : Env C R ds σ (upd H p o) h := e.step (Ex.fresh np) (e.ok.fresh np)
def toD : W → Option D
  | .d x => some x
  | .new xs => some (.lst xs)
  | .own _ => none
  | .fn _ => none
/-- a value in flight becomes a tree -/
theorem frzW (e : Env C R ds σ H h) (x : Ex R H R' H') (e' : Env C R' ds σ H' h') {w : W} {v : V} {d : D} (r : RelW C.K H R' H' w v) (q : toD w = some d) :
    ∃ R'', Ex R H R'' H' ∧ Env C R'' ds σ H' h' ∧ RelD C.K R'' H' d v ∧ Mo C.K R' H' R'' H' := by
  cases w with
  | d y =>
    cases q
    exact ⟨R', x, e', r, ⟨Nat.le_refl _, fun _ _ => rfl, fun _ _ z => z, fun _ _ z => z, fun _ _ z => z, fun _ _ _ z => z⟩⟩
  | own y => cases q
  | fn y => cases q
  | new xs =>
    cases q
    obtain ⟨a, vs, ev, n1, q, nf, o, t⟩ := r
    refine ⟨R'.frz a, x.frz n1, ⟨e'.ok.frz q o, ?_, e'.len, fun i w hw => ?_, e'.nnew, e'.own, e'.own0⟩, ?_, Mo.frz⟩
    · refine e'.ex.frz ?_
      exact e.ex.dom a n1
    · obtain ⟨v', e1, r1⟩ := e'.slot i w hw
      refine ⟨v', e1, ?_⟩
      cases w with
      | d y => exact relD_mo Mo.frz r1
      | new ys => exact absurd hw (e'.nnew i ys)
      | fn y => exact r1
      | own ys =>
        obtain ⟨a', vs', ev', q', nf', o', t'⟩ := r1
        refine ⟨a', vs', ev', q', fun z => ?_, o', relDs_mo Mo.frz t'⟩
        rcases z with z | z
        · exact nf' z
        · subst z
          -- the slot's list was there ahead
          obtain ⟨v0, e0, a0, vs0, ev0, q0, _⟩ := e.slot i _ hw
          rw [e1] at e0
          cases e0
          rw [ev'] at ev0
          cases ev0
          rw [n1] at q0
          cases q0
    · unfold RelD
      exact ⟨a, vs, ev, ⟨.inr rfl, q⟩, relDs_mo Mo.frz t⟩
end
/-- readings over trees as readings of the layer -/
def lift (C : Cn) (Wx : WX) (t : TDE) : TE := fun σ H Q => ∃ R ds h P Z, Env C R ds σ H h ∧ t ds h P Z ∧
  (∀ R' H' h' w v, P w h' → Ex R H R' H' → Env C R' ds σ H' h' → RelW C.K H R' H' w v → Q v H') ∧
  (∀ R' H' h' x cls dd, Z x h' → Ex R H R' H' → Env C R' ds σ H' h' → RelX C R' H' x cls dd → Wx cls dd σ H')
def liftV (C : Cn) (Wx : WX) (t : TDV) : TE := fun σ H Q => ∃ R ds h P Z, Env C R ds σ H h ∧ t ds h P Z ∧
  (∀ R' H' h' w v, P w h' → Ex R H R' H' → Env C R' ds σ H' h' → RelD C.K R' H' w v → Q v H') ∧
  (∀ R' H' h' x cls dd, Z x h' → Ex R H R' H' → Env C R' ds σ H' h' → RelX C R' H' x cls dd → Wx cls dd σ H')
def liftA (C : Cn) (Wx : WX) (t : TDA) : TA := fun σ H Q => ∃ R ds h P Z, Env C R ds σ H h ∧ t ds h P Z ∧
  (∀ R' H' h' w v, P w h' → Ex R H R' H' → Env C R' ds σ H' h' → RelDs C.K R' H' w v → Q v H') ∧
  (∀ R' H' h' x cls dd, Z x h' → Ex R H R' H' → Env C R' ds σ H' h' → RelX C R' H' x cls dd → Wx cls dd σ H')
def liftT (C : Cn) (Wx : WX) (t : TDT) : TT := fun σ H Q => ∃ R ds h P Z, Env C R ds σ H h ∧ t ds h P Z ∧
  (∀ R' H' h' b, P b h' → Ex R H R' H' → Env C R' ds σ H' h' → Q b H') ∧
  (∀ R' H' h' x cls dd, Z x h' → Ex R H R' H' → Env C R' ds σ H' h' → RelX C R' H' x cls dd → Wx cls dd σ H')
theorem _root_.L2.PE.imD {X : Cx} {e : Expr} {t t' : TE} (p : PE X e t) (f : ∀ σ H Q, t' σ H Q → t σ H Q) : PE X e t' := ⟨fun pins s σ H Q I q => p.run pins s σ H Q I (f σ H Q q)⟩
theorem _root_.L2.PT.imD {X : Cx} {e : Expr} {t t' : TT} (p : PT X e t) (f : ∀ σ H Q, t' σ H Q → t σ H Q) : PT X e t' := ⟨fun pins s σ H Q I q => p.run pins s σ H Q I (f σ H Q q)⟩
theorem _root_.L2.PW.imD {X : Cx} {e : Expr} {t t' : TT} (p : PW X e t) (f : ∀ σ H Q, t' σ H Q → t σ H Q) : PW X e t' := ⟨fun wh pins s σ H Q I q => p.run wh pins s σ H Q I (f σ H Q q)⟩
theorem _root_.L2.PA.imD {X : Cx} {e : List Expr} {t t' : TA} (p : PA X e t) (f : ∀ σ H Q, t' σ H Q → t σ H Q) : PA X e t' := ⟨fun pos pins s σ H Q I q => p.run pos pins s σ H Q I (f σ H Q q)⟩
theorem _root_.L2.PS.imD {X : Cx} {e : Stmt} {t t' : TS} (p : PS X e t) (f : ∀ D σ H, t' D σ H → t D σ H) : PS X e t' := ⟨fun pins s σ H Q I q => p.run pins s σ H Q I (f Q σ H q)⟩
theorem _root_.L2.PSs.imD {X : Cx} {e : List Stmt} {t t' : TS} (p : PSs X e t) (f : ∀ D σ H, t' D σ H → t D σ H) : PSs X e t' := ⟨fun pins s σ H Q I q => p.run pins s σ H Q I (f Q σ H q)⟩
/-- a value that is a tree -/
def dD (t : TDE) : TDV := fun ds h P Z => t ds h (fun w h' => ∃ d, toD w = some d ∧ P d h') Z
section
variable {X : Cx} {C : Cn} {Wx : WX}
theorem lift_D {t : TDE} {σ : Sl} {H : Hp} {Q : VK} (q : liftV C Wx (dD t) σ H Q) : lift C Wx t σ H Q := by
  obtain ⟨R, ds, h, P, Z, e, q, k, z⟩ := q
  refine ⟨R, ds, h, _, Z, e, q, fun R' H' h' w v ⟨d, hd, p⟩ x e' r => ?_, z⟩
  obtain ⟨R'', x', e'', r', _⟩ := frzW e x e' r hd
  exact k R'' H' h' d v p x' e'' r'
theorem pe_D {e : Expr} {t : TDE} (p : PE X e (lift C Wx t)) : PE X e (liftV C Wx (dD t)) := p.imD fun _ _ _ q => lift_D q
def dVar (i : Nat) : TDE := fun ds h P _ => ∃ w, ds[i]? = some (some w) ∧ P w h
def dC (d : D) : TDE := fun _ h P _ => P (.d d) h
/-- two operands, the first one tree or in flight -/
def dOp2 (r : W → W → (W → Prop) → Prop) (ta tb : TDE) : TDE := fun ds h P Z => ta ds h (fun x h1 => tb ds h1 (fun y h2 => r x y fun z => P z h2) Z) Z
def dOp1 (r : W → (W → Prop) → Prop) (ta : TDE) : TDE := fun ds h P Z => ta ds h (fun x h1 => r x fun z => P z h1) Z
/-- the wants behind a state, for one more value -/
theorem de_var {i : Nat} {x : Str} {pos : Pos} (hN : X.N[i]? = some x) (hv : Vis X.env.scope x) (hd : (x == ("__debug__" : Str)) = false) (hcd : (x == ("__classdict__" : Str)) = false) : PE X (.Name x pos) (lift C Wx (dVar i)) :=
  (pe_var hN hv hd hcd).imD fun σ H Q q => by
    obtain ⟨R, ds, h, P, Z, e, ⟨w, hw, p⟩, k, z⟩ := q
    obtain ⟨v, hv, r⟩ := e.slot i w hw
    refine ⟨v, hv, k R H h w v p (Ex.refl _ _) e ?_⟩
    cases w with
    | d _ => exact r
    | new xs => exact absurd hw (e.nnew i xs)
    | own _ => exact r
    | fn _ => exact r
/-- a constant of the layer's reading -/
theorem de_c {e : Expr} {v : V} {d : D} (p : PE X e (tC v)) (hr : ∀ R H, RelD C.K R H d v) : PE X e (lift C Wx (dC d)) :=
  p.imD fun σ H Q q => by
    obtain ⟨R, ds, h, P, Z, e, p, k, z⟩ := q
    exact k R H h _ v p (Ex.refl _ _) e (hr R H)
theorem de_int {i j pos} : PE X (.Constant (.int i) j pos) (lift C Wx (dC (.int i))) := de_c pe_int fun _ _ => by unfold RelD; rfl
theorem de_bl {i j pos} : PE X (.Constant (.bool i) j pos) (lift C Wx (dC (.bl i))) := de_c pe_bl fun _ _ => by unfold RelD; rfl
theorem de_non {j pos} : PE X (.Constant .none j pos) (lift C Wx (dC .non)) := de_c pe_non fun _ _ => by unfold RelD; rfl
theorem de_str {i j pos} : PE X (.Constant (.str i) j pos) (lift C Wx (dC (.str i))) := de_c pe_str fun _ _ => by unfold RelD; rfl
/-- two operands in a row, over a rule of the layer -/
theorem op2 {r : R2} {ra : W → W → (W → Prop) → Prop} {ta tb : TDE}
    (hr : ∀ R ds σ H h R0 H0 (x y : W) (v u : V) (Pw : W → Prop) (Q : VK), Env C R ds σ H h → Ex R0 H0 R H → (∃ h0, Env C R0 ds σ H0 h0) → RelW C.K H0 R H x v → RelW C.K H0 R H y u → ra x y Pw →
      (∀ R' H' w z, Pw w → Ex R H R' H' → Env C R' ds σ H' h → RelW C.K H0 R' H' w z → Q z H') → r v u H Q)
    {σ : Sl} {H : Hp} {Q : VK} (q : lift C Wx (dOp2 ra ta tb) σ H Q) : tOp r (lift C Wx ta) (lift C Wx tb) σ H Q := by
  obtain ⟨R, ds, h, P, Z, e, p, k, z⟩ := q
  refine ⟨R, ds, h, _, Z, e, p, fun R1 H1 h1 w1 v1 p1 x1 e1 r1 => ?_, z⟩
  refine ⟨R1, ds, h1, _, Z, e1, p1, fun R2 H2 h2 w2 v2 p2 x2 e2 r2 => ?_, fun R' H' h' x cls dd a b c d => z R' H' h' x cls dd a (x1.trans b) c d⟩
  exact hr R2 ds σ H2 h2 R H w1 w2 v1 v2 _ Q e2 (x1.trans x2) ⟨h, e⟩ (relW_ex e1.ok x2 r1) (relW_start x1.dom r2) p2 fun R' H' w z a b c d => k R' H' h2 w z a ((x1.trans x2).trans b) c d
theorem op1 {r : V → Hp → VK → Prop} {ra : W → (W → Prop) → Prop} {ta : TDE}
    (hr : ∀ R ds σ H h R0 H0 (x : W) (v : V) (Pw : W → Prop) (Q : VK), Env C R ds σ H h → Ex R0 H0 R H → (∃ h0, Env C R0 ds σ H0 h0) → RelW C.K H0 R H x v → ra x Pw →
      (∀ R' H' w z, Pw w → Ex R H R' H' → Env C R' ds σ H' h → RelW C.K H0 R' H' w z → Q z H') → r v H Q)
    {σ : Sl} {H : Hp} {Q : VK} (q : lift C Wx (dOp1 ra ta) σ H Q) : tUn r (lift C Wx ta) σ H Q := by
  obtain ⟨R, ds, h, P, Z, e, p, k, z⟩ := q
  refine ⟨R, ds, h, _, Z, e, p, fun R1 H1 h1 w1 v1 p1 x1 e1 r1 => ?_, z⟩
  exact hr R1 ds σ H1 h1 R H w1 v1 _ Q e1 x1 ⟨h, e⟩ r1 p1 fun R' H' w z a b c d => k R' H' h1 w z a (x1.trans b) c d
end
end DL
set_option maxHeartbeats 4000000
namespace DL
open PySem PySem.Spec PyProof.Rows L2
section
variable {K : Fg} {R : Rg} {H H₁ : Hp}
theorem r_non {v : V} (r : RelD K R H .non v) : v = .non := by unfold RelD at r; exact r
theorem r_bl {b : Bool} {v : V} (r : RelD K R H (.bl b) v) : v = .bl b := by unfold RelD at r; exact r
theorem r_int {i : Int} {v : V} (r : RelD K R H (.int i) v) : v = .int i := by unfold RelD at r; exact r
theorem r_str {x : Str} {v : V} (r : RelD K R H (.str x) v) : v = .str x := by unfold RelD at r; exact r
theorem r_tup {xs : List D} {v : V} (r : RelD K R H (.tup xs) v) : ∃ a vs, v = .ref a ∧ TpL H a vs ∧ RelDs K R H xs vs := by unfold RelD at r; exact r
theorem r_wtp {xs : List D} {v : V} (r : RelD K R H (.wtp xs) v) : ∃ a vs, v = .ref a ∧ WrT K a vs ∧ RelDs K R H xs vs := by unfold RelD at r; exact r
theorem m_wtp {xs : List D} {a : Addr} {vs : List V} (q : WrT K a vs) (r : RelDs K R H xs vs) : RelD K R H (.wtp xs) (.ref a) := by unfold RelD; exact ⟨a, vs, rfl, q, r⟩
theorem r_lst {xs : List D} {v : V} (r : RelD K R H (.lst xs) v) : ∃ a vs, v = .ref a ∧ FzL R H a vs ∧ RelDs K R H xs vs := by unfold RelD at r; exact r
theorem r_fro {xs : List D} {v : V} (r : RelD K R H (.fro xs) v) : ∃ a vs, v = .ref a ∧ FoL K H a vs ∧ RelDs K R H xs vs := by unfold RelD at r; exact r
theorem r_ref {n : Nat} {v : V} (r : RelD K R H (.ref n) v) : n < R.n ∧ v = .ref (R.at_ n) := by unfold RelD at r; exact r
theorem m_non : RelD K R H .non .non := by unfold RelD; rfl
theorem m_bl {b : Bool} : RelD K R H (.bl b) (.bl b) := by unfold RelD; rfl
theorem m_int {i : Int} : RelD K R H (.int i) (.int i) := by unfold RelD; rfl
theorem m_str {x : Str} : RelD K R H (.str x) (.str x) := by unfold RelD; rfl
theorem m_tup {xs : List D} {a : Addr} {vs : List V} (q : TpL H a vs) (r : RelDs K R H xs vs) : RelD K R H (.tup xs) (.ref a) := by unfold RelD; exact ⟨a, vs, rfl, q, r⟩
theorem m_nil : RelDs K R H [] [] := by unfold RelDs; rfl
theorem m_cons {d : D} {ds : List D} {v : V} {vs : List V} (r : RelD K R H d v) (t : RelDs K R H ds vs) : RelDs K R H (d :: ds) (v :: vs) := by unfold RelDs; exact ⟨v, vs, rfl, r, t⟩
theorem r_nil {vs : List V} (r : RelDs K R H [] vs) : vs = [] := by unfold RelDs at r; exact r
theorem r_cons {d : D} {ds : List D} {vs : List V} (r : RelDs K R H (d :: ds) vs) : ∃ v q, vs = v :: q ∧ RelD K R H d v ∧ RelDs K R H ds q := by unfold RelDs at r; exact r
theorem rw_non {v : V} (r : RelW K H₁ R H (.d .non) v) : v = .non := by unfold RelW at r; exact r_non r
theorem rw_bl {b : Bool} {v : V} (r : RelW K H₁ R H (.d (.bl b)) v) : v = .bl b := by unfold RelW at r; exact r_bl r
theorem rw_int {i : Int} {v : V} (r : RelW K H₁ R H (.d (.int i)) v) : v = .int i := by unfold RelW at r; exact r_int r
theorem rw_str {x : Str} {v : V} (r : RelW K H₁ R H (.d (.str x)) v) : v = .str x := by unfold RelW at r; exact r_str r
theorem rw_tup {xs : List D} {v : V} (r : RelW K H₁ R H (.d (.tup xs)) v) : ∃ a vs, v = .ref a ∧ TpL H a vs ∧ RelDs K R H xs vs := by unfold RelW at r; exact r_tup r
theorem mw_bl {b : Bool} : RelW K H₁ R H (.d (.bl b)) (.bl b) := by unfold RelW; exact m_bl
theorem mw_int {i : Int} : RelW K H₁ R H (.d (.int i)) (.int i) := by unfold RelW; exact m_int
theorem mw_str {x : Str} : RelW K H₁ R H (.d (.str x)) (.str x) := by unfold RelW; exact m_str
theorem mw_tup {xs : List D} {a : Addr} {vs : List V} (q : TpL H a vs) (r : RelDs K R H xs vs) : RelW K H₁ R H (.d (.tup xs)) (.ref a) := by unfold RelW; exact m_tup q r
/-- the items of a list, whichever; of a list or tuple -/
def lstW : W → Option (List D)
  | .d (.lst xs) => some xs
  | .d (.fro xs) => some xs
  | .new xs => some xs
  | .own xs => some xs
  | _ => none
/-- a list that may be joined: tracked -/
def lsjW : W → Option (List D)
  | .d (.lst xs) => some xs
  | .new xs => some xs
  | .own xs => some xs
  | _ => none
def tupW : W → Option (List D)
  | .d (.tup xs) => some xs
  | _ => none
def seqW (w : W) : Option (List D) := (lstW w).or (tupW w)
theorem rel_lsj {w : W} {v : V} {xs : List D} (r : RelW K H₁ R H w v) (e : lsjW w = some xs) : ∃ a vs, v = .ref a ∧ H a = some (.lst vs) ∧ RelDs K R H xs vs := by
  cases w with
  | d x =>
    cases x with
    | lst ys => cases e; obtain ⟨a, vs, e, q, t⟩ := r_lst r; exact ⟨a, vs, e, q.2, t⟩
    | _ => cases e
  | new ys => cases e; obtain ⟨a, vs, e, _, q, _, _, t⟩ := r; exact ⟨a, vs, e, q, t⟩
  | own ys => cases e; obtain ⟨a, vs, e, q, _, _, t⟩ := r; exact ⟨a, vs, e, q, t⟩
  | fn _ => cases e
theorem rel_lst {w : W} {v : V} {xs : List D} (r : RelW K H₁ R H w v) (e : lstW w = some xs) : ∃ a vs, v = .ref a ∧ SqL K H a vs ∧ RelDs K R H xs vs := by
  cases w with
  | d x =>
    cases x with
    | lst ys => cases e; obtain ⟨a, vs, e, q, t⟩ := r_lst r; exact ⟨a, vs, e, q.sq, t⟩
    | fro ys => cases e; obtain ⟨a, vs, e, q, t⟩ := r_fro r; exact ⟨a, vs, e, q.sq, t⟩
    | _ => cases e
  | new ys => cases e; obtain ⟨a, vs, e, _, q, _, _, t⟩ := r; exact ⟨a, vs, e, .inl (.inl q), t⟩
  | own ys => cases e; obtain ⟨a, vs, e, q, _, _, t⟩ := r; exact ⟨a, vs, e, .inl (.inl q), t⟩
  | fn _ => cases e
theorem rel_tup {w : W} {v : V} {xs : List D} (r : RelW K H₁ R H w v) (e : tupW w = some xs) : ∃ a vs, v = .ref a ∧ TpL H a vs ∧ RelDs K R H xs vs := by
  cases w with
  | d x =>
    cases x with
    | tup ys => cases e; exact r_tup r
    | _ => cases e
  | new ys => cases e
  | own ys => cases e
  | fn _ => cases e
theorem rel_seq {w : W} {v : V} {xs : List D} (r : RelW K H₁ R H w v) (e : seqW w = some xs) : ∃ a vs, v = .ref a ∧ (SqL K H a vs ∨ SqT K H a vs) ∧ RelDs K R H xs vs := by
  unfold seqW at e
  cases q : lstW w with
  | some ys =>
    rw [q] at e
    cases e
    obtain ⟨a, vs, e, s, t⟩ := rel_lst r q
    exact ⟨a, vs, e, .inl s, t⟩
  | none =>
    rw [q] at e
    obtain ⟨a, vs, e, s, t⟩ := rel_tup r e
    exact ⟨a, vs, e, .inr s.sq, t⟩
theorem rel_seqT {w : W} {v : V} {xs : List D} (r : RelW K H₁ R H w v) (e : seqW w = some xs) : ∃ a vs, v = .ref a ∧ (SqL K H a vs ∨ TpL H a vs) ∧ RelDs K R H xs vs := by
  unfold seqW at e
  cases q : lstW w with
  | some ys =>
    rw [q] at e
    cases e
    obtain ⟨a, vs, e, s, t⟩ := rel_lst r q
    exact ⟨a, vs, e, .inl s, t⟩
  | none =>
    rw [q] at e
    obtain ⟨a, vs, e, s, t⟩ := rel_tup r e
    exact ⟨a, vs, e, .inr s, t⟩
mutual
def toPy : D → Option PyData
  | .non => some .none
  | .bl b => some (.bool b)
  | .int i => some (.int i)
  | .str x => some (.str x)
  | .ty _ => none
  | .ref _ => none
  | .tup xs => (toPys xs).map .tuple
  | .lst xs => (toPys xs).map .list
  | .fro xs => (toPys xs).map .list
  | .wtp xs => (toPys xs).map .tuple
def toPys : List D → Option (List PyData)
  | [] => some []
  | x :: xs => match toPy x, toPys xs with
    | some a, some b => some (a :: b)
    | _, _ => none
end
def pyW : W → Option PyData
  | .d x => toPy x
  | .new xs => (toPys xs).map .list
  | .own xs => (toPys xs).map .list
  | .fn _ => none
mutual
theorem dp_of : ∀ {d : D} {v : V} {p : PyData}, RelD K R H d v → toPy d = some p → Dp K H v p
  | .non, v, p, r, e => by unfold toPy at e; cases e; cases r_non r; exact .non
  | .bl _, v, p, r, e => by unfold toPy at e; cases e; cases r_bl r; exact .bl _
  | .int _, v, p, r, e => by unfold toPy at e; cases e; cases r_int r; exact .int _
  | .str _, v, p, r, e => by unfold toPy at e; cases e; cases r_str r; exact .str _
  | .ty _, v, p, r, e => by unfold toPy at e; cases e
  | .ref _, v, p, r, e => by unfold toPy at e; cases e
  | .tup xs, v, p, r, e => by
    unfold toPy at e
    obtain ⟨ps, e1, rfl⟩ := Option.map_eq_some_iff.mp e
    obtain ⟨a, vs, rfl, q, t⟩ := r_tup r
    exact .tup q.sq (dps_of t e1)
  | .wtp xs, v, p, r, e => by
    unfold toPy at e
    obtain ⟨ps, e1, rfl⟩ := Option.map_eq_some_iff.mp e
    obtain ⟨a, vs, rfl, q, t⟩ := r_wtp r
    exact .tup (q H) (dps_of t e1)
  | .lst xs, v, p, r, e => by
    unfold toPy at e
    obtain ⟨ps, e1, rfl⟩ := Option.map_eq_some_iff.mp e
    obtain ⟨a, vs, rfl, q, t⟩ := r_lst r
    exact .lst q.sq (dps_of t e1)
  | .fro xs, v, p, r, e => by
    unfold toPy at e
    obtain ⟨ps, e1, rfl⟩ := Option.map_eq_some_iff.mp e
    obtain ⟨a, vs, rfl, q, t⟩ := r_fro r
    exact .lst q.sq (dps_of t e1)
theorem dps_of : ∀ {ds : List D} {vs : List V} {ps : List PyData}, RelDs K R H ds vs → toPys ds = some ps → DpAll K H vs ps
  | [], vs, ps, r, e => by unfold toPys at e; cases e; cases r_nil r; exact .nil
  | d :: ds, vs, ps, r, e => by
    unfold toPys at e
    obtain ⟨v, q, rfl, r1, r2⟩ := r_cons r
    split at e
    · rename_i a b e1 e2
      cases e
      exact .cons (dp_of r1 e1) (dps_of r2 e2)
    · cases e
end
theorem dpW_of {w : W} {v : V} {p : PyData} (r : RelW K H₁ R H w v) (e : pyW w = some p) : Dp K H v p := by
  cases w with
  | d x => exact dp_of r e
  | new xs =>
    obtain ⟨ps, e1, rfl⟩ := Option.map_eq_some_iff.mp e
    obtain ⟨a, vs, rfl, _, q, _, _, t⟩ := r
    exact .lst (.inl (.inl q)) (dps_of t e1)
  | fn _ => cases e
  | own xs =>
    obtain ⟨ps, e1, rfl⟩ := Option.map_eq_some_iff.mp e
    obtain ⟨a, vs, rfl, q, _, _, t⟩ := r
    exact .lst (.inl (.inl q)) (dps_of t e1)
end
inductive Bop where
  | add | sub | mul | fdiv | mod | pow | shl | shr | and | or | xor
def Bop.py : Bop → Operator
  | .add => .Add | .sub => .Sub | .mul => .Mult | .fdiv => .FloorDiv | .mod => .Mod | .pow => .Pow | .shl => .LShift | .shr => .RShift | .and => .BitAnd | .or => .BitOr | .xor => .BitXor
def CMulA (i j : Int) : Prop := CMul i j ∨ CMulW i j
def CDivA (i j : Int) : Prop := CDiv i j ∨ CDivW i j
def CShlA (i j : Int) : Prop := CPow i j ∨ CShl i j
def wInt (op : Bop) (i j : Int) (Q : W → Prop) : Prop := match op with
  | .add => Q (.d (.int (i + j)))
  | .sub => Q (.d (.int (i - j)))
  | .mul => CMulA i j ∧ Q (.d (.int (i * j)))
  | .fdiv => CDivA i j ∧ Q (.d (.int (i / j)))
  | .mod => 0 < j ∧ Q (.d (.int (i % j)))
  | .pow => CPow i j ∧ Q (.d (.int (i ^ j.toNat)))
  | .shl => CShlA i j ∧ Q (.d (.int (i * 2 ^ j.toNat)))
  | .shr => 0 ≤ j ∧ Q (.d (.int (i / 2 ^ j.toNat)))
  | .and => Q (.d (.int (Builtin.bitAnd i j)))
  | .or => Q (.d (.int (Builtin.bitOr i j)))
  | .xor => Q (.d (.int (Builtin.bitXor i j)))
/-- + of texts, tuples, lists -/
def wCat (x y : W) (Q : W → Prop) : Prop := match x, y with
  | .d (.str a), .d (.str b) => a.length + b.length ≤ sizeLine ∧ Q (.d (.str (a ++ b)))
  | .d (.tup xs), .d (.tup ys) => xs.length + ys.length ≤ sizeLine ∧ Q (.d (.tup (xs ++ ys)))
  | x, y => match lsjW x, lsjW y with
    | some xs, some ys => xs.length + ys.length ≤ sizeLine ∧ Q (.new (xs ++ ys))
    | _, _ => False
def wBin (op : Bop) (x y : W) (Q : W → Prop) : Prop := match x, y with
  | .d (.int i), .d (.int j) => wInt op i j Q
  | x, y => match op with
    | .add => wCat x y Q
    | _ => False
section
variable {X : Cx} {C : Cn} {Wx : WX}
def rInt (op : Bop) : R2 := fun x y H Q => ∃ i j, x = .int i ∧ y = .int j ∧ wInt op i j fun w => ∃ k, w = .d (.int k) ∧ Q (.int k) H
theorem op_int (op : Bop) : OpR X (binaryOp op.py) (rInt op) := by
  intro pins s σ H x y v u Q I rx ry h
  obtain ⟨i, j, rfl, rfl, h⟩ := h
  cases op with
  | add => obtain ⟨k, e, q⟩ := h; cases e; exact op_add pins s σ H _ _ v u Q I rx ry ⟨i, j, rfl, rfl, q⟩
  | sub => obtain ⟨k, e, q⟩ := h; cases e; exact op_sub pins s σ H _ _ v u Q I rx ry ⟨i, j, rfl, rfl, q⟩
  | mul =>
    obtain ⟨c, k, e, q⟩ := h; cases e
    rcases c with c | c
    · exact op_mul pins s σ H _ _ v u Q I rx ry ⟨i, j, rfl, rfl, c, q⟩
    · exact op_mulW pins s σ H _ _ v u Q I rx ry ⟨i, j, rfl, rfl, c, q⟩
  | fdiv =>
    obtain ⟨c, k, e, q⟩ := h; cases e
    rcases c with c | c
    · exact op_fdiv pins s σ H _ _ v u Q I rx ry ⟨i, j, rfl, rfl, c, q⟩
    · exact op_fdivW pins s σ H _ _ v u Q I rx ry ⟨i, j, rfl, rfl, c, q⟩
  | mod => obtain ⟨c, k, e, q⟩ := h; cases e; exact op_mod pins s σ H _ _ v u Q I rx ry ⟨i, j, rfl, rfl, c, q⟩
  | pow => obtain ⟨c, k, e, q⟩ := h; cases e; exact op_pow pins s σ H _ _ v u Q I rx ry ⟨i, j, rfl, rfl, c, q⟩
  | shl =>
    obtain ⟨c, k, e, q⟩ := h; cases e
    rcases c with c | c
    · exact op_shl pins s σ H _ _ v u Q I rx ry ⟨i, j, rfl, rfl, c, q⟩
    · exact op_shlW pins s σ H _ _ v u Q I rx ry ⟨i, j, rfl, rfl, c, q⟩
  | shr => obtain ⟨c, k, e, q⟩ := h; cases e; exact op_shr pins s σ H _ _ v u Q I rx ry ⟨i, j, rfl, rfl, c, q⟩
  | and => obtain ⟨k, e, q⟩ := h; cases e; exact op_and pins s σ H _ _ v u Q I rx ry ⟨i, j, rfl, rfl, q⟩
  | or => obtain ⟨k, e, q⟩ := h; cases e; exact op_or pins s σ H _ _ v u Q I rx ry ⟨i, j, rfl, rfl, q⟩
  | xor => obtain ⟨k, e, q⟩ := h; cases e; exact op_xor pins s σ H _ _ v u Q I rx ry ⟨i, j, rfl, rfl, q⟩
theorem wInt_mono {op : Bop} {i j : Int} {Q Q' : W → Prop} (h : wInt op i j Q) (f : ∀ k, Q (.d (.int k)) → Q' (.d (.int k))) : wInt op i j Q' := by
  cases op <;> first | exact f _ h | exact ⟨h.1, f _ h.2⟩
def rCatS : R2 := fun x y H Q => ∃ i j, x = .str i ∧ y = .str j ∧ i.length + j.length ≤ sizeLine ∧ Q (.str (i ++ j)) H
def rBin (K : Fg) (op : Bop) : R2 := fun x y H Q => rInt op x y H Q ∨ (op = .add ∧ (rCatS x y H Q ∨ rCatA K x y H Q ∨ rCat x y H Q))
theorem op_bin (op : Bop) : OpR X (binaryOp op.py) (rBin X.K op) := by
  intro pins s σ H x y v u Q I rx ry h
  rcases h with h | ⟨rfl, h | h | h⟩
  · exact op_int op pins s σ H x y v u Q I rx ry h
  · exact op_add_str pins s σ H x y v u Q I rx ry h
  · exact op_catA pins s σ H x y v u Q I rx ry h
  · exact op_cat pins s σ H x y v u Q I rx ry h
end
end DL
set_option maxHeartbeats 4000000
namespace DL
theorem room65 {k : Nat} {A : PySem.Around} (r : L2.Room k A) : A.units + 65 < PySem.cLine := by have := r.un; omega
open PySem PySem.Spec PyProof.Rows L2
section
variable {X : Cx} {C : Cn} {Wx : WX}
/-- a value that was there, behind the last state -/
abbrev Kont (C : Cn) (ds : DSt) (σ : Sl) (h : Hs) (R : Rg) (H H0 : Hp) (Pw : W → Prop) (Q : VK) : Prop :=
  ∀ R' H' w z, Pw w → Ex R H R' H' → Env C R' ds σ H' h → RelW C.K H0 R' H' w z → Q z H'
theorem seqT_len {H : Hp} {R : Rg} {xs ys : List D} {vs us : List V} (a : RelDs C.K R H xs vs) (b : RelDs C.K R H ys us) (l : xs.length + ys.length ≤ sizeLine) : vs.length + us.length ≤ sizeLine := by
  rw [← relDs_len a, ← relDs_len b]; exact l
theorem s_cat {R : Rg} {ds : DSt} {σ : Sl} {H : Hp} {h : Hs} {R0 : Rg} {H0 : Hp} {x y : W} {v u : V} {Pw : W → Prop} {Q : VK} (e : Env C R ds σ H h) (ex : Ex R0 H0 R H)
    (rx : RelW C.K H0 R H x v) (ry : RelW C.K H0 R H y u) (p : wCat x y Pw) (k : Kont C ds σ h R H H0 Pw Q) : rCatS v u H Q ∨ rCatA C.K v u H Q ∨ rCat v u H Q := by
  unfold wCat at p
  split at p
  · cases rw_str rx; cases rw_str ry
    exact .inl ⟨_, _, rfl, rfl, p.1, k R H _ _ p.2 (Ex.refl _ _) e mw_str⟩
  · rename_i xs ys
    obtain ⟨a, vs, rfl, q, t⟩ := rw_tup rx
    obtain ⟨b, us, rfl, q', t'⟩ := rw_tup ry
    refine .inr (.inl ⟨a, b, vs, us, rfl, rfl, q.sq, q'.sq, seqT_len t t' p.1, fun z => ?_, fun _ z => ?_, fun _ _ pp np => ?_⟩)
    · subst z
      have : xs = [] := List.eq_nil_of_length_eq_zero (relDs_len t)
      subst this
      exact k R H _ _ p.2 (Ex.refl _ _) e (mw_tup q' t')
    · subst z
      have : ys = [] := List.eq_nil_of_length_eq_zero (relDs_len t')
      subst this
      rw [List.append_nil] at p
      exact k R H _ _ p.2 (Ex.refl _ _) e (mw_tup q t)
    · have e' := e.fresh (o := .tup (vs ++ us)) np
      exact k R _ _ _ p.2 (Ex.fresh np) e' (mw_tup upd_same (relDs_append (relDs_ex e.ok (Ex.fresh np) t) (relDs_ex e.ok (Ex.fresh np) t')))
  · split at p
    · rename_i xs ys e1 e2
      obtain ⟨a, vs, rfl, q, t⟩ := rel_lsj rx e1
      obtain ⟨b, us, rfl, q', t'⟩ := rel_lsj ry e2
      refine .inr (.inr ⟨a, b, vs, us, rfl, rfl, q, q', seqT_len t t' p.1, fun pp np => ?_⟩)
      have e' := e.fresh (o := .lst (vs ++ us)) np
      have nf := e.ok.nfresh np
      exact k R _ _ _ p.2 (Ex.fresh np) e' ⟨pp, vs ++ us, rfl, ex.dom pp np, upd_same, nf.1, nf.2, relDs_append (relDs_ex e.ok (Ex.fresh np) t) (relDs_ex e.ok (Ex.fresh np) t')⟩
    · exact p.elim
theorem s_bin {op : Bop} {R : Rg} {ds : DSt} {σ : Sl} {H : Hp} {h : Hs} {R0 : Rg} {H0 : Hp} {x y : W} {v u : V} {Pw : W → Prop} {Q : VK} (e : Env C R ds σ H h) (ex : Ex R0 H0 R H)
    (rx : RelW C.K H0 R H x v) (ry : RelW C.K H0 R H y u) (p : wBin op x y Pw) (k : Kont C ds σ h R H H0 Pw Q) : rBin C.K op v u H Q := by
  unfold wBin at p
  split at p
  · cases rw_int rx; cases rw_int ry
    exact .inl ⟨_, _, rfl, rfl, wInt_mono p fun n q => ⟨n, rfl, k R H _ _ q (Ex.refl _ _) e mw_int⟩⟩
  · split at p
    · exact .inr ⟨rfl, s_cat e ex rx ry p k⟩
    · exact p.elim
theorem de_bin {a b : Expr} {ta tb : TDE} {pos : Pos} {op : Bop} (hK : C.K = X.K) (ha : PE X a (lift C Wx ta)) (hb : PE X b (lift C Wx tb)) : PE X (.BinOp a op.py b pos) (lift C Wx (dOp2 (wBin op) ta tb)) :=
  (pe_op (op_bin op) ha hb).imD fun σ H Q q => op2 (fun R ds σ H h R0 H0 x y v u Pw Q e ex _ rx ry p k => hK ▸ s_bin e ex rx ry p k) q
def wNeg (x : W) (Q : W → Prop) : Prop := match x with
  | .d (.int i) => Q (.d (.int (-i)))
  | _ => False
theorem de_neg {a : Expr} {ta : TDE} {pos : Pos} (ha : PE X a (lift C Wx ta)) : PE X (.UnaryOp .USub a pos) (lift C Wx (dOp1 wNeg ta)) :=
  (pe_un un_neg ha).imD fun σ H Q q => op1 (fun R ds σ H h R0 H0 x v Pw Q e ex _ rx p k => by
    unfold wNeg at p
    split at p
    · cases rw_int rx
      exact ⟨_, rfl, k R H _ _ p (Ex.refl _ _) e mw_int⟩
    · exact p.elim) q
inductive Cop where
  | eq | ne | lt | le | gt | ge | in_ | nin
def Cop.py : Cop → CmpOp
  | .eq => .Eq | .ne => .NotEq | .lt => .Lt | .le => .LtE | .gt => .Gt | .ge => .GtE | .in_ => .In | .nin => .NotIn
def wData (neg : Bool) (x y : W) (Q : W → Prop) : Prop := ∃ a b, pyW x = some a ∧ pyW y = some b ∧ SeqAt.shaped a = true ∧ SeqAt.shaped b = true ∧ Q (.d (.bl (if neg then !PyData.eqv a b else PyData.eqv a b)))
def wEq (neg : Bool) (x y : W) (Q : W → Prop) : Prop := match x, y with
  | .d (.int i), .d (.int j) => Q (.d (.bl (if neg then !decide (i = j) else decide (i = j))))
  | .d (.str i), .d (.str j) => Q (.d (.bl (if neg then !decide (i = j) else decide (i = j))))
  | x, y => wData neg x y Q
def wLt (op : Cop) (x y : W) (Q : W → Prop) : Prop := match x, y with
  | .d (.int i), .d (.int j) => (match op with
    | .lt => Q (.d (.bl (decide (i < j))))
    | .le => Q (.d (.bl (decide (i ≤ j))))
    | .gt => Q (.d (.bl (decide (j < i))))
    | .ge => Q (.d (.bl (decide (j ≤ i))))
    | _ => False)
  | .d (.str i), .d (.str j) => (match op with
    | .lt => Q (.d (.bl (decide (i.cps.toList < j.cps.toList))))
    | .le => Q (.d (.bl (!decide (j.cps.toList < i.cps.toList))))
    | .gt => Q (.d (.bl (decide (j.cps.toList < i.cps.toList))))
    | .ge => Q (.d (.bl (!decide (i.cps.toList < j.cps.toList))))
    | _ => False)
  | _, _ => False
/-- x in y: one sign in a text; a text in a list or tuple of texts -/
def wIn (neg : Bool) (x y : W) (Q : W → Prop) : Prop := match x, y with
  | .d (.str i), .d (.str j) => ∃ c, i = ⟨#[c]⟩ ∧ Q (.d (.bl (if neg then !decide (c ∈ j.cps.toList) else decide (c ∈ j.cps.toList))))
  | .d (.str i), y => ∃ zs : List Str, seqW y = some (zs.map D.str) ∧ Q (.d (.bl (if neg then !decide (i ∈ zs) else decide (i ∈ zs))))
  | .d (.int i), y => ∃ zs : List Int, seqW y = some (zs.map D.int) ∧ Q (.d (.bl (if neg then !decide (i ∈ zs) else decide (i ∈ zs))))
  | x, y => ∃ d ds, pyW x = some d ∧ pyW y = some (.list ds) ∧ SeqAt.shaped d = true ∧ SeqAt.shaped (.list ds) = true ∧ Q (.d (.bl (if neg then !(ds.any fun z => PyData.eqv z d) else ds.any fun z => PyData.eqv z d)))
def wCmp (op : Cop) (x y : W) (Q : W → Prop) : Prop := match op with
  | .eq => wEq false x y Q
  | .ne => wEq true x y Q
  | .in_ => wIn false x y Q
  | .nin => wIn true x y Q
  | op => wLt op x y Q
theorem inV_str {i : Str} : ∀ {zs : List Str}, inV (.str i) (zs.map V.str) = decide (i ∈ zs)
  | [] => by simp [inV]
  | z :: zs => by
    have ih := inV_str (i := i) (zs := zs)
    unfold inV at ih ⊢
    rw [List.map_cons, List.any_cons, ih]
    show ((z == i) || _) = _
    by_cases q : z = i
    · subst q; simp
    · have q' : ¬ i = z := fun e => q e.symm
      simp [q, q']
theorem inV_int {i : Int} : ∀ {zs : List Int}, inV (.int i) (zs.map V.int) = decide (i ∈ zs)
  | [] => by simp [inV]
  | z :: zs => by
    have ih := inV_int (i := i) (zs := zs)
    unfold inV at ih ⊢
    rw [List.map_cons, List.any_cons, ih]
    show ((z == i) || _) = _
    by_cases q : z = i
    · subst q; simp
    · have q' : ¬ i = z := fun e => q e.symm
      simp [q, q']
theorem flat_str : ∀ {zs : List Str}, (zs.map V.str).all flatV = true
  | [] => rfl
  | z :: zs => by rw [List.map_cons, List.all_cons, flat_str]; rfl
theorem flat_int : ∀ {zs : List Int}, (zs.map V.int).all flatV = true
  | [] => rfl
  | z :: zs => by rw [List.map_cons, List.all_cons, flat_int]; rfl
/-- the layer's rules, joined -/
def rCmp (K : Fg) (op : Cop) : R2 := fun x y H Q => match op with
  | .eq => rEq x y H Q ∨ rEqD K x y H Q
  | .ne => rNe x y H Q ∨ rNeD K x y H Q
  | .lt => (∃ i j, x = .int i ∧ y = .int j ∧ Q (.bl (decide (i < j))) H) ∨ ∃ i j, x = .str i ∧ y = .str j ∧ Q (.bl (decide (i.cps.toList < j.cps.toList))) H
  | .le => (∃ i j, x = .int i ∧ y = .int j ∧ Q (.bl (decide (i ≤ j))) H) ∨ ∃ i j, x = .str i ∧ y = .str j ∧ Q (.bl (!decide (j.cps.toList < i.cps.toList))) H
  | .gt => (∃ i j, x = .int i ∧ y = .int j ∧ Q (.bl (decide (j < i))) H) ∨ ∃ i j, x = .str i ∧ y = .str j ∧ Q (.bl (decide (j.cps.toList < i.cps.toList))) H
  | .ge => (∃ i j, x = .int i ∧ y = .int j ∧ Q (.bl (decide (j ≤ i))) H) ∨ ∃ i j, x = .str i ∧ y = .str j ∧ Q (.bl (!decide (i.cps.toList < j.cps.toList))) H
  | .in_ => (∃ (c : Nat) (z : Str), x = .str ⟨#[c]⟩ ∧ y = .str z ∧ Q (.bl (decide (c ∈ z.cps.toList))) H) ∨ rIn K false x y H Q ∨ rInD K x y H Q
  | .nin => (∃ (c : Nat) (z : Str), x = .str ⟨#[c]⟩ ∧ y = .str z ∧ Q (.bl (!decide (c ∈ z.cps.toList))) H) ∨ rIn K true x y H Q ∨ rNotInD K x y H Q
theorem op_cmp (op : Cop) (hu : X.A.units + 65 < cLine) : OpR X (compareOp op.py) (rCmp X.K op) := by
  intro pins s σ H x y v u Q I rx ry h
  cases op with
  | eq =>
    rcases h with h | h
    · exact op_eq pins s σ H x y v u Q I rx ry h
    · exact op_eqD (Nat.lt_of_le_of_lt (by omega) hu) pins s σ H x y v u Q I rx ry h
  | ne =>
    rcases h with h | h
    · exact op_ne pins s σ H x y v u Q I rx ry h
    · exact op_neD (Nat.lt_of_le_of_lt (by omega) hu) pins s σ H x y v u Q I rx ry h
  | lt =>
    rcases h with h | h
    · exact op_lt pins s σ H x y v u Q I rx ry h
    · exact op_lt_str pins s σ H x y v u Q I rx ry h
  | le =>
    rcases h with h | h
    · exact op_le pins s σ H x y v u Q I rx ry h
    · exact op_le_str pins s σ H x y v u Q I rx ry h
  | gt =>
    rcases h with h | h
    · exact op_gt pins s σ H x y v u Q I rx ry h
    · exact op_gt_str pins s σ H x y v u Q I rx ry h
  | ge =>
    rcases h with h | h
    · exact op_ge pins s σ H x y v u Q I rx ry h
    · exact op_ge_str pins s σ H x y v u Q I rx ry h
  | in_ =>
    rcases h with h | h | h
    · exact op_in_sign pins s σ H x y v u Q I rx ry h
    · exact op_in_seq pins s σ H x y v u Q I rx ry h
    · exact op_inD hu pins s σ H x y v u Q I rx ry h
  | nin =>
    rcases h with h | h | h
    · exact op_notIn_sign pins s σ H x y v u Q I rx ry h
    · exact op_notIn_seq pins s σ H x y v u Q I rx ry h
    · exact op_notInD hu pins s σ H x y v u Q I rx ry h
theorem decI {i j : Int} : decide (V.int i = V.int j) = decide (i = j) := by rw [Bool.eq_iff_iff]; simp
theorem decS {i j : Str} : decide (V.str i = V.str j) = decide (i = j) := by rw [Bool.eq_iff_iff]; simp
theorem s_cmp {op : Cop} {R : Rg} {ds : DSt} {σ : Sl} {H : Hp} {h : Hs} {R0 : Rg} {H0 : Hp} {x y : W} {v u : V} {Pw : W → Prop} {Q : VK} (e : Env C R ds σ H h) (ex : Ex R0 H0 R H)
    (rx : RelW C.K H0 R H x v) (ry : RelW C.K H0 R H y u) (p : wCmp op x y Pw) (k : Kont C ds σ h R H H0 Pw Q) : rCmp C.K op v u H Q := by
  have kb : ∀ b, Pw (.d (.bl b)) → Q (.bl b) H := fun b pb => k R H _ _ pb (Ex.refl _ _) e mw_bl
  have eqc : ∀ neg, wEq neg x y Pw → (scal v u = true ∧ Q (.bl (if neg then !decide (v = u) else decide (v = u))) H) ∨
      ∃ d e, Dp C.K H v d ∧ Dp C.K H u e ∧ SeqAt.shaped d = true ∧ SeqAt.shaped e = true ∧ Q (.bl (if neg then !PyData.eqv d e else PyData.eqv d e)) H := by
    intro neg p
    unfold wEq at p
    split at p
    · cases rw_int rx; cases rw_int ry
      refine .inl ⟨rfl, ?_⟩
      rw [decI]
      exact kb _ p
    · cases rw_str rx; cases rw_str ry
      refine .inl ⟨rfl, ?_⟩
      rw [decS]
      exact kb _ p
    · obtain ⟨a, b, e1, e2, s1, s2, p⟩ := p
      exact .inr ⟨a, b, dpW_of rx e1, dpW_of ry e2, s1, s2, kb _ p⟩
  have ltc : ∀ (op : Cop) (f : Int → Int → Bool) (g : Str → Str → Bool), (∀ i j, wLt op (.d (.int i)) (.d (.int j)) Pw → Pw (.d (.bl (f i j)))) → (∀ i j, wLt op (.d (.str i)) (.d (.str j)) Pw → Pw (.d (.bl (g i j)))) → wLt op x y Pw →
      (∃ i j, v = .int i ∧ u = .int j ∧ Q (.bl (f i j)) H) ∨ ∃ i j, v = .str i ∧ u = .str j ∧ Q (.bl (g i j)) H := by
    intro op f g h1 h2 p
    have p0 := p
    unfold wLt at p
    split at p
    · cases rw_int rx; cases rw_int ry
      exact .inl ⟨_, _, rfl, rfl, kb _ (h1 _ _ p0)⟩
    · cases rw_str rx; cases rw_str ry
      exact .inr ⟨_, _, rfl, rfl, kb _ (h2 _ _ p0)⟩
    · exact p.elim
  have inc : ∀ neg, wIn neg x y Pw → (∃ (c : Nat) (z : Str), v = .str ⟨#[c]⟩ ∧ u = .str z ∧ Q (.bl (if neg then !decide (c ∈ z.cps.toList) else decide (c ∈ z.cps.toList))) H) ∨ rIn C.K neg v u H Q ∨ ∃ d ds, Dp C.K H v d ∧ Dp C.K H u (.list ds) ∧ SeqAt.shaped d = true ∧ SeqAt.shaped (.list ds) = true ∧ Q (.bl (if neg then !(ds.any fun z => PyData.eqv z d) else ds.any fun z => PyData.eqv z d)) H := by
    intro neg p
    unfold wIn at p
    split at p
    · cases rw_str rx; cases rw_str ry
      obtain ⟨c, ec, p2⟩ := p
      subst ec
      exact .inl ⟨c, _, rfl, rfl, kb _ p2⟩
    · cases rw_str rx
      obtain ⟨zs, e1, p⟩ := p
      obtain ⟨a, vs, rfl, q, t⟩ := rel_seq ry e1
      cases relDs_strs t
      refine .inr (.inl ⟨a, _, rfl, q, rfl, flat_str, ?_⟩)
      rw [inV_str]
      exact kb _ p
    · cases rw_int rx
      obtain ⟨zs, e1, p⟩ := p
      obtain ⟨a, vs, rfl, q, t⟩ := rel_seq ry e1
      cases relDs_ints t
      refine .inr (.inl ⟨a, _, rfl, q, rfl, flat_int, ?_⟩)
      rw [inV_int]
      exact kb _ p
    · obtain ⟨d, ds, e1, e2, s1, s2, p⟩ := p
      exact .inr (.inr ⟨d, ds, dpW_of rx e1, dpW_of ry e2, s1, s2, kb _ p⟩)
  cases op with
  | eq => exact eqc false p
  | ne => exact eqc true p
  | lt => exact ltc .lt _ _ (fun _ _ z => z) (fun _ _ z => z) p
  | le => exact ltc .le _ _ (fun _ _ z => z) (fun _ _ z => z) p
  | gt => exact ltc .gt _ _ (fun _ _ z => z) (fun _ _ z => z) p
  | ge => exact ltc .ge _ _ (fun _ _ z => z) (fun _ _ z => z) p
  | in_ => exact inc false p
  | nin => exact inc true p
theorem de_cmp {a b : Expr} {ta tb : TDE} {pos : Pos} {op : Cop} (hK : C.K = X.K) (hu : X.A.units + 65 < cLine) (hm : behindInMarks op.py b = false) (ha : PE X a (lift C Wx ta)) (hb : PE X b (lift C Wx tb)) :
    PE X (.Compare a [op.py] [b] pos) (lift C Wx (dOp2 (wCmp op) ta tb)) :=
  (pe_cmpR (op_cmp op hu) ha hb hm).imD fun σ H Q q => op2 (fun R ds σ H h R0 H0 x y v u Pw Q e ex _ rx ry p k => hK ▸ s_cmp e ex rx ry p k) q
end
end DL
set_option maxHeartbeats 4000000
namespace DL
open PySem PySem.Spec PyProof.Rows L2
section
variable {X : Cx} {C : Cn} {Wx : WX}
def truD : D → Option Bool
  | .non => some false
  | .bl b => some b
  | .int i => some (i != 0)
  | .str x => if x.length ≤ sizeLine then some ((x.length : Int) != 0) else none
  | .tup xs => some (!xs.isEmpty)
  | .lst xs => some (!xs.isEmpty)
  | .fro xs => some (!xs.isEmpty)
  | .wtp _ => none
  | _ => none
def truW : W → Option Bool
  | .d x => truD x
  | .new xs => some (!xs.isEmpty)
  | .own xs => some (!xs.isEmpty)
  | .fn _ => none
theorem emp_of {R : Rg} {H : Hp} {xs : List D} {vs : List V} (r : RelDs C.K R H xs vs) : (!xs.isEmpty) = !vs.isEmpty := by
  cases xs with
  | nil => cases r_nil r; rfl
  | cons x xs => obtain ⟨v, q, rfl, _⟩ := r_cons r; rfl
theorem tru_of {R : Rg} {H H1 : Hp} {w : W} {v : V} {b : Bool} (r : RelW C.K H1 R H w v) (e : truW w = some b) : TruV C.K v H b := by
  cases w with
  | d x =>
    cases x with
    | non => cases rw_non r; cases e; rfl
    | bl _ => cases rw_bl r; cases e; rfl
    | int _ => cases rw_int r; cases e; rfl
    | str x =>
      cases rw_str r
      have e2 : (if x.length ≤ sizeLine then some ((x.length : Int) != 0) else none) = some b := e
      by_cases q : x.length ≤ sizeLine
      · rw [if_pos q] at e2; cases e2; exact ⟨q, rfl⟩
      · rw [if_neg q] at e2; cases e2
    | tup xs => obtain ⟨a, vs, rfl, q, t⟩ := rw_tup r; cases e; exact .inr (.inl ⟨vs, q.sq, emp_of t⟩)
    | lst xs => obtain ⟨a, vs, rfl, q, t⟩ := r_lst r; cases e; exact .inl ⟨vs, q.sq, emp_of t⟩
    | fro xs => obtain ⟨a, vs, rfl, q, t⟩ := r_fro r; cases e; exact .inl ⟨vs, q.sq, emp_of t⟩
    | ty _ => cases e
    | ref _ => cases e
    | wtp _ => cases e
  | new xs => obtain ⟨a, vs, rfl, _, q, _, _, t⟩ := r; cases e; exact .inl ⟨vs, .inl (.inl q), emp_of t⟩
  | fn _ => cases e
  | own xs => obtain ⟨a, vs, rfl, q, _, _, t⟩ := r; cases e; exact .inl ⟨vs, .inl (.inl q), emp_of t⟩
def dTru (t : TDE) : TDT := fun ds h P Z => t ds h (fun w h' => ∃ b, truW w = some b ∧ P b h') Z
def dAndT (ta tb : TDT) : TDT := fun ds h P Z => ta ds h (fun b h1 => if b = true then tb ds h1 P Z else P false h1) Z
def dOrT (ta tb : TDT) : TDT := fun ds h P Z => ta ds h (fun b h1 => if b = true then P true h1 else tb ds h1 P Z) Z
def dNotT (ta : TDT) : TDT := fun ds h P Z => ta ds h (fun b h1 => P (!b) h1) Z
/-- the values of and, or, not -/
def dAnd (ta tb : TDE) : TDE := fun ds h P Z => ta ds h (fun x h1 => ∃ b, truW x = some b ∧ if b = true then tb ds h1 P Z else P x h1) Z
def dOr (ta tb : TDE) : TDE := fun ds h P Z => ta ds h (fun x h1 => ∃ b, truW x = some b ∧ if b = true then P x h1 else tb ds h1 P Z) Z
def dIf (tc : TDT) (ta tb : TDE) : TDE := fun ds h P Z => tc ds h (fun b h1 => if b = true then ta ds h1 P Z else tb ds h1 P Z) Z
theorem dt_tru {a : Expr} {ta : TDE} (hK : C.K = X.K) (ha : PE X a (lift C Wx ta)) (he : ∀ whole, isTrue a X.env whole = (do let v ← whole; standAt a.pos; holding [v] (truthy v))) : PT X a (liftT C Wx (dTru ta)) :=
  (pt_truth ha he).imD fun σ H Q q => by
    obtain ⟨R, ds, h, P, Z, e, p, k, z⟩ := q
    refine ⟨R, ds, h, _, Z, e, p, fun R' H' h' w v ⟨b, hb, pb⟩ x e' r => ?_, z⟩
    exact ⟨b, hK ▸ tru_of r hb, k R' H' h' b pb x e'⟩
theorem t2 {ta : TDT} {u : TT} {f : Bool → Hs → Prop} {σ : Sl} {H : Hp} {Q : Bool → Hp → Prop} {Z : XD} {R : Rg} {ds : DSt} {h : Hs} {g : Bool → Hp → Prop} (e : Env C R ds σ H h) (p : ta ds h f Z)
    (k : ∀ R' H' h' b, f b h' → Ex R H R' H' → Env C R' ds σ H' h' → g b H') (z : ∀ R' H' h' x cls dd, Z x h' → Ex R H R' H' → Env C R' ds σ H' h' → RelX C R' H' x cls dd → Wx cls dd σ H') : liftT C Wx ta σ H g :=
  ⟨R, ds, h, f, Z, e, p, k, z⟩
theorem dw_and1 {a : Expr} {ta : TDT} {pos : Pos} (ha : PT X a (liftT C Wx ta)) : PW X (.BoolOp .And [a] pos) (liftT C Wx ta) := pw_and1 ha
theorem dw_or1 {a : Expr} {ta : TDT} {pos : Pos} (ha : PT X a (liftT C Wx ta)) : PW X (.BoolOp .Or [a] pos) (liftT C Wx ta) := pw_or1 ha
theorem dw_and {a b : Expr} {rest : List Expr} {ta tb : TDT} {pos : Pos} (ha : PT X a (liftT C Wx ta)) (hb : PW X (.BoolOp .And (b :: rest) pos) (liftT C Wx tb)) : PW X (.BoolOp .And (a :: b :: rest) pos) (liftT C Wx (dAndT ta tb)) :=
  (pw_and ha hb).imD fun σ H Q q => by
    obtain ⟨R, ds, h, P, Z, e, p, k, z⟩ := q
    refine ⟨R, ds, h, _, Z, e, p, fun R' H' h' b pb x e' => ?_, z⟩
    cases b with
    | true => exact ⟨R', ds, h', P, Z, e', pb, fun R2 H2 h2 c pc x2 e2 => k R2 H2 h2 c pc (x.trans x2) e2, fun R2 H2 h2 y cls dd a b c d => z R2 H2 h2 y cls dd a (x.trans b) c d⟩
    | false => exact k R' H' h' false pb x e'
theorem dw_or {a b : Expr} {rest : List Expr} {ta tb : TDT} {pos : Pos} (ha : PT X a (liftT C Wx ta)) (hb : PW X (.BoolOp .Or (b :: rest) pos) (liftT C Wx tb)) : PW X (.BoolOp .Or (a :: b :: rest) pos) (liftT C Wx (dOrT ta tb)) :=
  (pw_or ha hb).imD fun σ H Q q => by
    obtain ⟨R, ds, h, P, Z, e, p, k, z⟩ := q
    refine ⟨R, ds, h, _, Z, e, p, fun R' H' h' b pb x e' => ?_, z⟩
    cases b with
    | false => exact ⟨R', ds, h', P, Z, e', pb, fun R2 H2 h2 c pc x2 e2 => k R2 H2 h2 c pc (x.trans x2) e2, fun R2 H2 h2 y cls dd a b c d => z R2 H2 h2 y cls dd a (x.trans b) c d⟩
    | true => exact k R' H' h' true pb x e'
theorem dt_not {a : Expr} {ta : TDT} {pos : Pos} (ha : PT X a (liftT C Wx ta)) : PT X (.UnaryOp .Not a pos) (liftT C Wx (dNotT ta)) :=
  (pt_not ha).imD fun σ H Q q => by
    obtain ⟨R, ds, h, P, Z, e, p, k, z⟩ := q
    exact ⟨R, ds, h, _, Z, e, p, fun R' H' h' b pb x e' => k R' H' h' _ pb x e', z⟩
/-- a comparison as a test -/
def dCmpT (op : Cop) (ta tb : TDE) : TDT := fun ds h P Z => ta ds h (fun x h1 => tb ds h1 (fun y h2 => wCmp op x y fun z => ∃ b, z = .d (.bl b) ∧ P b h2) Z) Z
theorem dt_cmp {a b : Expr} {ta tb : TDE} {pos : Pos} {op : Cop} (hK : C.K = X.K) (hu : X.A.units + 65 < cLine) (hm : behindInMarks op.py b = false) (ha : PE X a (lift C Wx ta)) (hb : PE X b (lift C Wx tb)) :
    PT X (.Compare a [op.py] [b] pos) (liftT C Wx (dCmpT op ta tb)) :=
  (pt_cmpR (op_cmp op hu) ha hb hm).imD fun σ H Q q => by
    obtain ⟨R, ds, h, P, Z, e, p, k, z⟩ := q
    refine ⟨R, ds, h, _, Z, e, p, fun R1 H1 h1 w1 v1 p1 x1 e1 r1 => ?_, z⟩
    refine ⟨R1, ds, h1, _, Z, e1, p1, fun R2 H2 h2 w2 v2 p2 x2 e2 r2 => ?_, fun R' H' h' x cls dd a b c d => z R' H' h' x cls dd a (x1.trans b) c d⟩
    refine hK ▸ s_cmp e2 (x1.trans x2) (relW_ex e1.ok x2 r1) (relW_start x1.dom r2) p2 fun R' H' w v ⟨b, hb, pb⟩ x' e' r' => ?_
    subst hb
    exact ⟨b, rw_bl r', k R' H' h2 b pb ((x1.trans x2).trans x') e'⟩
/-- a < b < c -/
def dChain (op op' : Cop) (ta tb tc : TDE) : TDT := fun ds h P Z => ta ds h (fun x h1 => tb ds h1 (fun y h2 => wCmp op x y fun z => ∃ b, z = .d (.bl b) ∧
  if b = true then tc ds h2 (fun u h3 => wCmp op' y u fun z => ∃ b, z = .d (.bl b) ∧ P b h3) Z else P false h2) Z) Z
theorem dt_chain {a b c : Expr} {ta tb tc : TDE} {pos : Pos} {op op' : Cop} (hK : C.K = X.K) (hu : X.A.units + 65 < cLine) (hm : lastMarks [op.py, op'.py] [b, c] = false)
    (ha : PE X a (lift C Wx ta)) (hb : PE X b (lift C Wx tb)) (hc : PE X c (lift C Wx tc)) : PT X (.Compare a [op.py, op'.py] [b, c] pos) (liftT C Wx (dChain op op' ta tb tc)) :=
  (pt_chain (op_cmp op hu) (op_cmp op' hu) ha hb hc hm).imD fun σ H Q q => by
    obtain ⟨R, ds, h, P, Z, e, p, k, z⟩ := q
    refine ⟨R, ds, h, _, Z, e, p, fun R1 H1 h1 w1 v1 p1 x1 e1 r1 => ?_, z⟩
    refine ⟨R1, ds, h1, _, Z, e1, p1, fun R2 H2 h2 w2 v2 p2 x2 e2 r2 => ?_, fun R' H' h' x cls dd a b c d => z R' H' h' x cls dd a (x1.trans b) c d⟩
    have r2' := relW_start x1.dom r2
    refine hK ▸ s_cmp e2 (x1.trans x2) (relW_ex e1.ok x2 r1) r2' p2 fun R' H' w v ⟨b, hb, pb⟩ x' e' r' => ?_
    subst hb
    refine ⟨b, rw_bl r', ?_⟩
    have xx := (x1.trans x2).trans x'
    cases b with
    | false =>
      rw [if_neg Bool.false_ne_true] at pb ⊢
      exact ⟨false, rfl, k R' H' h2 false pb xx e'⟩
    | true =>
      rw [if_pos rfl] at pb ⊢
      refine ⟨R', ds, h2, _, Z, e', pb, fun R3 H3 h3 w3 v3 p3 x3 e3 r3 => ?_, fun R' H' h' x cls dd a b c d => z R' H' h' x cls dd a (xx.trans b) c d⟩
      refine s_cmp (C := C) e3 (xx.trans x3) (relW_ex e'.ok x3 (relW_ex e2.ok x' r2')) (relW_start xx.dom r3) p3 fun R4 H4 w v ⟨b, hb, pb⟩ x4 e4 r4 => ?_
      subst hb
      exact ⟨b, rw_bl r4, k R4 H4 h3 b pb ((xx.trans x3).trans x4) e4⟩
end
end DL
set_option maxHeartbeats 4000000
namespace DL
open PySem PySem.Spec PyProof.Rows L2
section
variable {X : Cx} {C : Cn} {Wx : WX}
theorem de_one {op} {a : Expr} {ta : TDE} {pos : Pos} (ha : PE X a (lift C Wx ta)) : PE X (.BoolOp op [a] pos) (lift C Wx ta) := pe_one ha
theorem de_and {a b : Expr} {rest : List Expr} {ta tb : TDE} {pos : Pos} (hK : C.K = X.K) (ha : PE X a (lift C Wx ta)) (hb : PE X (.BoolOp .And (b :: rest) pos) (lift C Wx tb)) : PE X (.BoolOp .And (a :: b :: rest) pos) (lift C Wx (dAnd ta tb)) :=
  (pe_andT ha hb).imD fun σ H Q q => by
    obtain ⟨R, ds, h, P, Z, e, p, k, z⟩ := q
    refine ⟨R, ds, h, _, Z, e, p, fun R' H' h' w v ⟨b, hb, pb⟩ x e' r => ⟨b, hK ▸ tru_of r hb, ?_⟩, z⟩
    cases b with
    | true => exact ⟨R', ds, h', P, Z, e', pb, fun R2 H2 h2 c u pc x2 e2 r2 => k R2 H2 h2 c u pc (x.trans x2) e2 (relW_start x.dom r2), fun R2 H2 h2 y cls dd a b c d => z R2 H2 h2 y cls dd a (x.trans b) c d⟩
    | false => exact k R' H' h' w v pb x e' r
theorem de_or {a b : Expr} {rest : List Expr} {ta tb : TDE} {pos : Pos} (hK : C.K = X.K) (ha : PE X a (lift C Wx ta)) (hb : PE X (.BoolOp .Or (b :: rest) pos) (lift C Wx tb)) : PE X (.BoolOp .Or (a :: b :: rest) pos) (lift C Wx (dOr ta tb)) :=
  (pe_orT ha hb).imD fun σ H Q q => by
    obtain ⟨R, ds, h, P, Z, e, p, k, z⟩ := q
    refine ⟨R, ds, h, _, Z, e, p, fun R' H' h' w v ⟨b, hb, pb⟩ x e' r => ⟨b, hK ▸ tru_of r hb, ?_⟩, z⟩
    cases b with
    | false => exact ⟨R', ds, h', P, Z, e', pb, fun R2 H2 h2 c u pc x2 e2 r2 => k R2 H2 h2 c u pc (x.trans x2) e2 (relW_start x.dom r2), fun R2 H2 h2 y cls dd a b c d => z R2 H2 h2 y cls dd a (x.trans b) c d⟩
    | true => exact k R' H' h' w v pb x e' r
/-- not, of a value by its truth -/
def dNotV (ta : TDE) : TDE := fun ds h P Z => ta ds h (fun x h1 => ∃ b, truW x = some b ∧ P (.d (.bl (!b))) h1) Z
theorem de_not {a : Expr} {ta : TDE} {pos : Pos} (hK : C.K = X.K) (ha : PE X a (lift C Wx ta)) : PE X (.UnaryOp .Not a pos) (lift C Wx (dNotV ta)) :=
  (pe_notT ha).imD fun σ H Q q => by
    obtain ⟨R, ds, h, P, Z, e, p, k, z⟩ := q
    exact ⟨R, ds, h, _, Z, e, p, fun R' H' h' w v ⟨b, hb, pb⟩ x e' r => ⟨b, hK ▸ tru_of r hb, k R' H' h' _ _ pb x e' mw_bl⟩, z⟩
theorem de_if {c a b : Expr} {tc : TDT} {ta tb : TDE} {pos : Pos} (hc : PT X c (liftT C Wx tc)) (ha : PE X a (lift C Wx ta)) (hb : PE X b (lift C Wx tb)) : PE X (.IfExp c a b pos) (lift C Wx (dIf tc ta tb)) :=
  (pe_ifExp hc ha hb).imD fun σ H Q q => by
    obtain ⟨R, ds, h, P, Z, e, p, k, z⟩ := q
    refine ⟨R, ds, h, _, Z, e, p, fun R' H' h' b pb x e' => ?_, z⟩
    cases b with
    | true => exact ⟨R', ds, h', P, Z, e', pb, fun R2 H2 h2 c u pc x2 e2 r2 => k R2 H2 h2 c u pc (x.trans x2) e2 (relW_start x.dom r2), fun R2 H2 h2 y cls dd a b c d => z R2 H2 h2 y cls dd a (x.trans b) c d⟩
    | false => exact ⟨R', ds, h', P, Z, e', pb, fun R2 H2 h2 c u pc x2 e2 r2 => k R2 H2 h2 c u pc (x.trans x2) e2 (relW_start x.dom r2), fun R2 H2 h2 y cls dd a b c d => z R2 H2 h2 y cls dd a (x.trans b) c d⟩
def isNon : W → Bool
  | .d .non => true
  | _ => false
def wIs (neg : Bool) (x : W) (Q : W → Prop) : Prop := Q (.d (.bl (xor neg (isNon x))))
theorem nonIff {R : Rg} {H H1 : Hp} {w : W} {v : V} (r : RelW C.K H1 R H w v) : decide (v = .non) = isNon w := by
  cases w with
  | d x =>
    cases x with
    | non => cases rw_non r; rfl
    | bl _ => cases rw_bl r; rfl
    | int _ => cases rw_int r; rfl
    | str _ => cases rw_str r; rfl
    | ty _ => have r2 : RelD C.K R H (.ty _) v := r; unfold RelD at r2; subst r2; rfl
    | ref _ => have r2 : RelD C.K R H (.ref _) v := r; obtain ⟨_, rfl⟩ := r_ref r2; rfl
    | tup _ => obtain ⟨_, _, rfl, _⟩ := rw_tup r; rfl
    | lst _ => have r2 : RelD C.K R H (.lst _) v := r; obtain ⟨_, _, rfl, _⟩ := r_lst r2; rfl
    | fro _ => have r2 : RelD C.K R H (.fro _) v := r; obtain ⟨_, _, rfl, _⟩ := r_fro r2; rfl
    | wtp _ => have r2 : RelD C.K R H (.wtp _) v := r; obtain ⟨_, _, rfl, _⟩ := r_wtp r2; rfl
  | new _ => obtain ⟨_, _, rfl, _⟩ := r; rfl
  | own _ => obtain ⟨_, _, rfl, _⟩ := r; rfl
  | fn _ => have r2 : v = .ref _ := r; subst r2; rfl
theorem de_isN {a : Expr} {ta : TDE} {pos pos' : Pos} {j} (ha : PE X a (lift C Wx ta)) : PE X (.Compare a [.Is] [.Constant .none j pos'] pos) (lift C Wx (dOp1 (wIs false) ta)) :=
  (pe_cmp (pc_isN ha)).imD fun σ H Q q => by
    obtain ⟨R, ds, h, P, Z, e, p, k, z⟩ := q
    refine ⟨R, ds, h, _, Z, e, p, fun R' H' h' w v pb x e' r => ?_, z⟩
    show Q (V.bl (decide (v = .non))) H'
    rw [nonIff r]
    unfold wIs at pb
    rw [Bool.false_xor] at pb
    exact k R' H' h' _ _ pb x e' mw_bl
theorem de_notN {a : Expr} {ta : TDE} {pos pos' : Pos} {j} (ha : PE X a (lift C Wx ta)) : PE X (.Compare a [.IsNot] [.Constant .none j pos'] pos) (lift C Wx (dOp1 (wIs true) ta)) :=
  (pe_cmp (pc_notN ha)).imD fun σ H Q q => by
    obtain ⟨R, ds, h, P, Z, e, p, k, z⟩ := q
    refine ⟨R, ds, h, _, Z, e, p, fun R' H' h' w v pb x e' r => ?_, z⟩
    show Q (V.bl (!decide (v = .non))) H'
    rw [nonIff r]
    unfold wIs at pb
    rw [Bool.true_xor] at pb
    exact k R' H' h' _ _ pb x e' mw_bl
def dIsT (neg : Bool) (ta : TDE) : TDT := fun ds h P Z => ta ds h (fun x h1 => P (xor neg (isNon x)) h1) Z
theorem dt_isN {a : Expr} {ta : TDE} {pos pos' : Pos} {j} (ha : PE X a (lift C Wx ta)) : PT X (.Compare a [.Is] [.Constant .none j pos'] pos) (liftT C Wx (dIsT false ta)) :=
  (pt_cmp (pc_isN ha)).imD fun σ H Q q => by
    obtain ⟨R, ds, h, P, Z, e, p, k, z⟩ := q
    refine ⟨R, ds, h, _, Z, e, p, fun R' H' h' w v pb x e' r => ?_, z⟩
    refine ⟨_, rfl, ?_⟩
    rw [nonIff r]
    rw [Bool.false_xor] at pb
    exact k R' H' h' _ pb x e'
theorem dt_notN {a : Expr} {ta : TDE} {pos pos' : Pos} {j} (ha : PE X a (lift C Wx ta)) : PT X (.Compare a [.IsNot] [.Constant .none j pos'] pos) (liftT C Wx (dIsT true ta)) :=
  (pt_cmp (pc_notN ha)).imD fun σ H Q q => by
    obtain ⟨R, ds, h, P, Z, e, p, k, z⟩ := q
    refine ⟨R, ds, h, _, Z, e, p, fun R' H' h' w v pb x e' r => ?_, z⟩
    refine ⟨_, rfl, ?_⟩
    rw [nonIff r]
    rw [Bool.true_xor] at pb
    exact k R' H' h' _ pb x e'
def dNil : TDA := fun _ h P _ => P [] h
def dCons (t : TDE) (u : TDA) : TDA := fun ds h P Z => dD t ds h (fun x h1 => u ds h1 (fun xs h2 => P (x :: xs) h2) Z) Z
theorem da_nil : PA X [] (liftA C Wx dNil) := pa_nil.imD fun σ H Q q => by
  obtain ⟨R, ds, h, P, Z, e, p, k, z⟩ := q
  exact k R H h _ _ p (Ex.refl _ _) e m_nil
theorem da_cons {e : Expr} {es : List Expr} {t : TDE} {u : TDA} (he : PE X e (lift C Wx t)) (hr : PA X es (liftA C Wx u)) (hs : starEach (e :: es) X.env = (false, eval e X.env) :: starEach es X.env) : PA X (e :: es) (liftA C Wx (dCons t u)) :=
  (pa_cons (pe_D he) hr hs).imD fun σ H Q q => by
    obtain ⟨R, ds, h, P, Z, e, p, k, z⟩ := q
    refine ⟨R, ds, h, _, Z, e, p, fun R1 H1 h1 w1 v1 p1 x1 e1 r1 => ?_, z⟩
    refine ⟨R1, ds, h1, _, Z, e1, p1, fun R2 H2 h2 w2 v2 p2 x2 e2 r2 => ?_, fun R' H' h' x cls dd a b c d => z R' H' h' x cls dd a (x1.trans b) c d⟩
    exact k R2 H2 h2 _ _ p2 (x1.trans x2) e2 (m_cons (relD_ex e1.ok x2 r1) r2)
def dTup (t : TDA) : TDE := fun ds h P Z => t ds h (fun xs h1 => xs.length ≤ sizeLine ∧ P (.d (.tup xs)) h1) Z
def dLst (t : TDA) : TDE := fun ds h P Z => t ds h (fun xs h1 => xs.length ≤ sizeLine ∧ P (.new xs) h1) Z
theorem de_tup {es : List Expr} {t : TDA} {pos : Pos} {j} (ha : PA X es (liftA C Wx t)) : PE X (.Tuple es j pos) (lift C Wx (dTup t)) :=
  (pe_tup ha).imD fun σ H Q q => by
    obtain ⟨R, ds, h, P, Z, e, p, k, z⟩ := q
    refine ⟨R, ds, h, _, Z, e, p, fun R1 H1 h1 w1 v1 ⟨l, p1⟩ x1 e1 r1 => ⟨by rw [← relDs_len r1]; exact l, fun pp np => ?_⟩, z⟩
    exact k R1 _ h1 _ _ p1 (x1.trans (Ex.fresh np)) (e1.fresh np) (mw_tup upd_same (relDs_ex e1.ok (Ex.fresh np) r1))
theorem m_new {R R0 : Rg} {H H0 : Hp} {ds : DSt} {σ : Sl} {h : Hs} {pp : Addr} {xs : List D} {vs : List V} (e : Env C R ds σ H h) (x : Ex R0 H0 R H) (np : H pp = none) (r : RelDs C.K R H xs vs) : RelW C.K H0 R (upd H pp (.lst vs)) (.new xs) (.ref pp) :=
  ⟨pp, vs, rfl, x.dom pp np, upd_same, (e.ok.nfresh np).1, (e.ok.nfresh np).2, relDs_ex e.ok (Ex.fresh np) r⟩
theorem de_lst {es : List Expr} {t : TDA} {pos : Pos} (ha : PA X es (liftA C Wx t)) : PE X (.List es pos) (lift C Wx (dLst t)) :=
  (pe_lst ha).imD fun σ H Q q => by
    obtain ⟨R, ds, h, P, Z, e, p, k, z⟩ := q
    refine ⟨R, ds, h, _, Z, e, p, fun R1 H1 h1 w1 v1 ⟨l, p1⟩ x1 e1 r1 => ⟨by rw [← relDs_len r1]; exact l, fun pp np => ?_⟩, z⟩
    exact k R1 _ h1 _ _ p1 (x1.trans (Ex.fresh np)) (e1.fresh np) (m_new e1 x1 np r1)
inductive B1 where
  | len | int | repr | sum | all | any | tuple | list | str | bool | abs
def B1.name : B1 → Str
  | .len => "len" | .int => "int" | .repr => "repr" | .sum => "sum" | .all => "all" | .any => "any" | .tuple => "tuple" | .list => "list" | .str => "str" | .bool => "bool" | .abs => "abs"
def wLen (x : W) (Q : W → Prop) : Prop := match x with
  | .d (.str s) => s.length ≤ sizeLine ∧ Q (.d (.int s.length))
  | x => ∃ xs, seqW x = some xs ∧ Q (.d (.int xs.length))
def wIntc (x : W) (Q : W → Prop) : Prop := match x with
  | .d (.int i) => Q (.d (.int i))
  | .d (.bl b) => Q (.d (.int (if b then 1 else 0)))
  | .d (.str a) => ∃ n, PySem.intText? a = some n ∧ a.length ≤ 640 ∧ Q (.d (.int n))
  | _ => False
def wRepr (x : W) (Q : W → Prop) : Prop := ∃ d, pyW x = some d ∧ d.showable = true ∧ d.depth ≤ 40 ∧ d.shown.length ≤ sizeLine ∧ Q (.d (.str d.shown))
def wSum (x : W) (Q : W → Prop) : Prop := ∃ ns : List Int, lstW x = some (ns.map D.int) ∧ Q (.d (.int ns.sum))
def wAll (x : W) (Q : W → Prop) : Prop := ∃ bs : List Bool, lstW x = some (bs.map D.bl) ∧ Q (.d (.bl (bs.all id)))
def wAny (x : W) (Q : W → Prop) : Prop := ∃ bs : List Bool, lstW x = some (bs.map D.bl) ∧ Q (.d (.bl (bs.any id)))
def wTuple (x : W) (Q : W → Prop) : Prop := ∃ xs, seqW x = some xs ∧ Q (.d (.tup xs))
def wList (x : W) (Q : W → Prop) : Prop := ∃ xs, seqW x = some xs ∧ Q (.new xs)
def wStrc (x : W) (Q : W → Prop) : Prop := match x with
  | .d (.int i) => i.natAbs.log2 < 1920 ∧ Q (.d (.str (toString i)))
  | .d (.str a) => Q (.d (.str a))
  | _ => False
def wBoolc (x : W) (Q : W → Prop) : Prop := match x with
  | .d (.int i) => Q (.d (.bl (i != 0)))
  | .d (.bl b) => Q (.d (.bl b))
  | _ => False
def wAbs (x : W) (Q : W → Prop) : Prop := match x with
  | .d (.int i) => Q (.d (.int (if i < 0 then -i else i)))
  | _ => False
def wB1 : B1 → W → (W → Prop) → Prop
  | .len => wLen | .int => wIntc | .repr => wRepr | .sum => wSum | .all => wAll | .any => wAny | .tuple => wTuple | .list => wList | .str => wStrc | .bool => wBoolc | .abs => wAbs
/-- repr of data, where nothing is being shown -/
theorem call_reprD (hg : X.A.guards = some []) (hu : X.A.units + 64 < cLine) : CallR X (.builtin "repr") (fun xs H Q => ∃ v d, xs = [v] ∧ Dp X.K H v d ∧ d.showable = true ∧ d.hasDict = false ∧ d.depth ≤ 40 ∧ d.shown.length ≤ sizeLine ∧ Q (.str d.shown) H) := by
  intro pins s σ H xs us Q I r h
  obtain ⟨v, d, rfl, hd, hs, hn, hl, hz, q⟩ := h
  obtain ⟨u, rfl, ru⟩ := vals1 r
  obtain ⟨as, rd⟩ := Dp.reads I d v u hd ru
  cases hd with
  | non => cases ru; exact PySem.P.repr_of_none ⟨.str _, H, I.tok _, ⟨_, rfl⟩, q⟩
  | bl b => cases ru; exact PySem.P.repr_of_bool ⟨.str _, H, I.tok _, ⟨_, rfl⟩, q⟩
  | int i => obtain ⟨t, rfl⟩ := ru; exact PySem.P.repr_of_int (of_decide_eq_true hs) ⟨.str _, H, I.tok _, ⟨_, rfl⟩, q⟩
  | str x => obtain ⟨t, rfl⟩ := ru; exact PySem.P.repr_of_str ⟨.str _, H, I.tok _, ⟨_, rfl⟩, q⟩ hz
  | lst _ _ =>
    cases ru
    exact repr_of_reads' rd hs (fun z => by rw [hn] at z; cases z) hg (by omega) (fun _ _ e => e) (fun h' u tk hk => ⟨.str _, H, I.kept (t' := tk) hk, ⟨_, rfl⟩, q⟩) hz
  | tup _ _ =>
    cases ru
    exact repr_of_reads' rd hs (fun z => by rw [hn] at z; cases z) hg (by omega) (fun _ _ e => e) (fun h' u tk hk => ⟨.str _, H, I.kept (t' := tk) hk, ⟨_, rfl⟩, q⟩) hz
end
end DL
set_option maxHeartbeats 4000000
namespace DL
open PySem PySem.Spec PyProof.Rows L2
section
variable {X : Cx} {C : Cn} {Wx : WX}
mutual
theorem noDict : ∀ {d : D} {p : PyData}, toPy d = some p → p.hasDict = false
  | .non, p, e => by unfold toPy at e; cases e; rfl
  | .bl _, p, e => by unfold toPy at e; cases e; rfl
  | .int _, p, e => by unfold toPy at e; cases e; rfl
  | .str _, p, e => by unfold toPy at e; cases e; rfl
  | .ty _, p, e => by unfold toPy at e; cases e
  | .ref _, p, e => by unfold toPy at e; cases e
  | .tup xs, p, e => by unfold toPy at e; obtain ⟨ps, e1, rfl⟩ := Option.map_eq_some_iff.mp e; exact noDicts e1
  | .lst xs, p, e => by unfold toPy at e; obtain ⟨ps, e1, rfl⟩ := Option.map_eq_some_iff.mp e; exact noDicts e1
  | .fro xs, p, e => by unfold toPy at e; obtain ⟨ps, e1, rfl⟩ := Option.map_eq_some_iff.mp e; exact noDicts e1
  | .wtp xs, p, e => by unfold toPy at e; obtain ⟨ps, e1, rfl⟩ := Option.map_eq_some_iff.mp e; exact noDicts e1
theorem noDicts : ∀ {ds : List D} {ps : List PyData}, toPys ds = some ps → PyData.hasDictAll ps = false
  | [], ps, e => by unfold toPys at e; cases e; rfl
  | d :: ds, ps, e => by
    unfold toPys at e
    split at e
    · rename_i a b e1 e2
      cases e
      show (a.hasDict || PyData.hasDictAll b) = false
      rw [noDict e1, noDicts e2]; rfl
    · cases e
end
theorem noDictW {w : W} {p : PyData} (e : pyW w = some p) : p.hasDict = false := by
  cases w with
  | d x => exact noDict e
  | new xs => obtain ⟨ps, e1, rfl⟩ := Option.map_eq_some_iff.mp e; exact noDicts e1
  | fn _ => cases e
  | own xs => obtain ⟨ps, e1, rfl⟩ := Option.map_eq_some_iff.mp e; exact noDicts e1
/-- the layer's rules for a built-in of one argument -/
def rB1 (K : Fg) : B1 → V → Hp → VK → Prop
  | .len => fun x H Q => (∃ p ys, x = .ref p ∧ (SqL K H p ys ∨ SqT K H p ys) ∧ Q (.int ys.length) H) ∨ ∃ z, x = .str z ∧ z.length ≤ sizeLine ∧ Q (.int z.length) H
  | .int => fun x H Q => ((∃ i, x = .int i ∧ Q (.int i) H) ∨ ∃ k, x = .bl k ∧ Q (.int (if k then 1 else 0)) H) ∨ ∃ a n, x = .str a ∧ PySem.intText? a = some n ∧ a.length ≤ 640 ∧ Q (.int n) H
  | .repr => fun x H Q => ∃ d, Dp K H x d ∧ d.showable = true ∧ d.hasDict = false ∧ d.depth ≤ 40 ∧ d.shown.length ≤ sizeLine ∧ Q (.str d.shown) H
  | .sum => fun x H Q => ∃ (a : Addr) (ns : List Int), x = .ref a ∧ SqL K H a (ns.map V.int) ∧ Q (.int ns.sum) H
  | .all => fun x H Q => ∃ (a : Addr) (bs : List Bool), x = .ref a ∧ SqL K H a (bs.map V.bl) ∧ Q (.bl (bs.all id)) H
  | .any => fun x H Q => ∃ (a : Addr) (bs : List Bool), x = .ref a ∧ SqL K H a (bs.map V.bl) ∧ Q (.bl (bs.any id)) H
  | .tuple => fun x H Q => ∃ p ys, x = .ref p ∧ ((SqL K H p ys ∧ ∀ l, H l = none → Q (.ref l) (upd H l (.tup ys))) ∨ (SqT K H p ys ∧ Q (.ref p) H))
  | .list => fun x H Q => ∃ p ys, x = .ref p ∧ (SqL K H p ys ∨ SqT K H p ys) ∧ ∀ l, H l = none → Q (.ref l) (upd H l (.lst ys))
  | .str => fun x H Q => (∃ i, x = .int i ∧ i.natAbs.log2 < 1920 ∧ Q (.str (toString i)) H) ∨ ∃ a, x = .str a ∧ Q (.str a) H
  | .bool => fun x H Q => (∃ i, x = .int i ∧ Q (.bl (i != 0)) H) ∨ ∃ k, x = .bl k ∧ Q (.bl k) H
  | .abs => fun x H Q => ∃ i, x = .int i ∧ Q (.int (if i < 0 then -i else i)) H
/-- what a built-in asks of the place where it is called -/
structure B1Ok (X : Cx) (b : B1) : Prop where
  free : X.mg b.name = none
  gl : Gl X b.name
  calm : X.calm = true
  units : X.A.units + 64 < cLine
  guard : b = .repr → X.A.guards = some []
def B1.val : B1 → Value
  | .len => .builtin "len" | .int => .type "int" | .repr => .builtin "repr" | .sum => .builtin "sum" | .all => .builtin "all" | .any => .builtin "any" | .tuple => .type "tuple" | .list => .type "list" | .str => .type "str" | .bool => .type "bool" | .abs => .builtin "abs"
def rArg1 (r : V → Hp → VK → Prop) : List V → Hp → VK → Prop := fun xs H Q => ∃ x, xs = [x] ∧ r x H Q
theorem call_b1 (b : B1) (ok : B1Ok X b) : CallR X b.val (rArg1 (rB1 X.K b)) := by
  intro pins s σ H xs us Q I r h
  obtain ⟨x, rfl, h⟩ := h
  cases b with
  | len =>
    rcases h with ⟨p, ys, rfl, q⟩ | ⟨z, rfl, q⟩
    · exact call_len_seq pins s σ H _ us Q I r ⟨p, ys, rfl, q⟩
    · exact call_len_str pins s σ H _ us Q I r ⟨z, rfl, q⟩
  | int =>
    rcases h with (⟨i, rfl, q⟩ | ⟨k, rfl, q⟩) | ⟨a, n, rfl, q⟩
    · exact call_int1 pins s σ H _ us Q I r (.inl ⟨i, rfl, q⟩)
    · exact call_int1 pins s σ H _ us Q I r (.inr ⟨k, rfl, q⟩)
    · exact call_int_str pins s σ H _ us Q I r ⟨a, n, rfl, q⟩
  | repr => obtain ⟨d, q⟩ := h; exact call_reprD (ok.guard rfl) ok.units pins s σ H _ us Q I r ⟨x, d, rfl, q⟩
  | sum => obtain ⟨a, n, rfl, q⟩ := h; exact cr_sum ok.calm pins s σ H _ us Q I r ⟨a, n, rfl, q⟩
  | all => obtain ⟨a, n, rfl, q⟩ := h; exact cr_all ok.calm pins s σ H _ us Q I r ⟨a, n, rfl, q⟩
  | any => obtain ⟨a, n, rfl, q⟩ := h; exact cr_any ok.calm pins s σ H _ us Q I r ⟨a, n, rfl, q⟩
  | tuple => obtain ⟨a, n, rfl, q⟩ := h; exact call_tuple_of pins s σ H _ us Q I r ⟨a, n, rfl, q⟩
  | list => obtain ⟨a, n, rfl, q⟩ := h; exact call_list_of pins s σ H _ us Q I r ⟨a, n, rfl, q⟩
  | str =>
    rcases h with ⟨i, rfl, q⟩ | ⟨a, rfl, q⟩
    · exact call_str_int pins s σ H _ us Q I r ⟨i, rfl, q⟩
    · exact SkE.call_str_str pins s σ H _ us Q I r ⟨a, rfl, q⟩
  | bool =>
    rcases h with ⟨i, rfl, q⟩ | ⟨a, rfl, q⟩
    · exact call_bool1 pins s σ H _ us Q I r (.inl ⟨i, rfl, q⟩)
    · exact call_bool1 pins s σ H _ us Q I r (.inr ⟨a, rfl, q⟩)
  | abs => obtain ⟨i, rfl, q⟩ := h; exact call_abs pins s σ H _ us Q I r ⟨i, rfl, q⟩
theorem pe_b1 {a : Expr} {t : TE} {p pos : Pos} (b : B1) (ok : B1Ok X b) (ha : PE X a t) (he : starEach [a] X.env = (false, eval a X.env) :: starEach [] X.env) : PE X (.Call (.Name b.name p) [a] [] pos) (tCB (rArg1 (rB1 X.K b)) (tCons t tNil)) := by
  have ar : PA X [a] (tCons t tNil) := pa_cons ha pa_nil he
  have c := call_b1 b ok
  have f := ok.free
  have g := ok.gl
  cases b with
  | len => exact pe_callB c g f (by decide +kernel) ar (he := he)
  | int => exact pe_callTy c g f (by decide +kernel) ar (he := he)
  | repr => exact pe_callB c g f (by decide +kernel) ar (he := he)
  | sum => exact pe_callB c g f (by decide +kernel) ar (he := he)
  | all => exact pe_callB c g f (by decide +kernel) ar (he := he)
  | any => exact pe_callB c g f (by decide +kernel) ar (he := he)
  | tuple => exact pe_callTy c g f (by decide +kernel) ar (he := he)
  | list => exact pe_callTy c g f (by decide +kernel) ar (he := he)
  | str => exact pe_callTy c g f (by decide +kernel) ar (he := he)
  | bool => exact pe_callTy c g f (by decide +kernel) ar (he := he)
  | abs => exact pe_callB c g f (by decide +kernel) ar (he := he)
theorem s_b1 {b : B1} {R : Rg} {ds : DSt} {σ : Sl} {H : Hp} {h : Hs} {R0 : Rg} {H0 : Hp} {x : W} {v : V} {Pw : W → Prop} {Q : VK} (e : Env C R ds σ H h) (ex : Ex R0 H0 R H)
    (rx : RelW C.K H0 R H x v) (p : wB1 b x Pw) (k : Kont C ds σ h R H H0 Pw Q) : rB1 C.K b v H Q := by
  cases b with
  | len =>
    have p : wLen x Pw := p
    unfold wLen at p
    split at p
    · cases rw_str rx
      exact .inr ⟨_, rfl, p.1, k R H _ _ p.2 (Ex.refl _ _) e mw_int⟩
    · obtain ⟨xs, e1, p⟩ := p
      obtain ⟨a, vs, rfl, q, t⟩ := rel_seq rx e1
      exact .inl ⟨a, vs, rfl, q, by rw [← relDs_len t]; exact k R H _ _ p (Ex.refl _ _) e mw_int⟩
  | int =>
    have p : wIntc x Pw := p
    unfold wIntc at p
    split at p
    · cases rw_int rx; exact .inl (.inl ⟨_, rfl, k R H _ _ p (Ex.refl _ _) e mw_int⟩)
    · cases rw_bl rx; exact .inl (.inr ⟨_, rfl, k R H _ _ p (Ex.refl _ _) e mw_int⟩)
    · cases rw_str rx
      obtain ⟨n, e1, l, p⟩ := p
      exact .inr ⟨_, n, rfl, e1, l, k R H _ _ p (Ex.refl _ _) e mw_int⟩
    · exact p.elim
  | repr =>
    obtain ⟨d, e1, hs, hd, hl, p⟩ := p
    exact ⟨d, dpW_of rx e1, hs, noDictW e1, hd, hl, k R H _ _ p (Ex.refl _ _) e mw_str⟩
  | sum =>
    obtain ⟨ns, e1, p⟩ := p
    obtain ⟨a, vs, rfl, q, t⟩ := rel_lst rx e1
    cases relDs_ints t
    exact ⟨a, ns, rfl, q, k R H _ _ p (Ex.refl _ _) e mw_int⟩
  | all =>
    obtain ⟨ns, e1, p⟩ := p
    obtain ⟨a, vs, rfl, q, t⟩ := rel_lst rx e1
    cases relDs_bls t
    exact ⟨a, ns, rfl, q, k R H _ _ p (Ex.refl _ _) e mw_bl⟩
  | any =>
    obtain ⟨ns, e1, p⟩ := p
    obtain ⟨a, vs, rfl, q, t⟩ := rel_lst rx e1
    cases relDs_bls t
    exact ⟨a, ns, rfl, q, k R H _ _ p (Ex.refl _ _) e mw_bl⟩
  | tuple =>
    obtain ⟨xs, e1, p⟩ := p
    obtain ⟨a, vs, rfl, q, t⟩ := rel_seqT rx e1
    rcases q with q | q
    · exact ⟨a, vs, rfl, .inl ⟨q, fun l nl => k R _ _ _ p (Ex.fresh nl) (e.fresh nl) (mw_tup upd_same (relDs_ex e.ok (Ex.fresh nl) t))⟩⟩
    · exact ⟨a, vs, rfl, .inr ⟨q.sq, k R H _ _ p (Ex.refl _ _) e (mw_tup q t)⟩⟩
  | list =>
    obtain ⟨xs, e1, p⟩ := p
    obtain ⟨a, vs, rfl, q, t⟩ := rel_seq rx e1
    exact ⟨a, vs, rfl, q, fun l nl => k R _ _ _ p (Ex.fresh nl) (e.fresh nl) (m_new e ex nl t)⟩
  | str =>
    have p : wStrc x Pw := p
    unfold wStrc at p
    split at p
    · cases rw_int rx; exact .inl ⟨_, rfl, p.1, k R H _ _ p.2 (Ex.refl _ _) e mw_str⟩
    · cases rw_str rx; exact .inr ⟨_, rfl, k R H _ _ p (Ex.refl _ _) e mw_str⟩
    · exact p.elim
  | bool =>
    have p : wBoolc x Pw := p
    unfold wBoolc at p
    split at p
    · cases rw_int rx; exact .inl ⟨_, rfl, k R H _ _ p (Ex.refl _ _) e mw_bl⟩
    · cases rw_bl rx; exact .inr ⟨_, rfl, k R H _ _ p (Ex.refl _ _) e mw_bl⟩
    · exact p.elim
  | abs =>
    have p : wAbs x Pw := p
    unfold wAbs at p
    split at p
    · cases rw_int rx; exact ⟨_, rfl, k R H _ _ p (Ex.refl _ _) e mw_int⟩
    · exact p.elim
theorem de_b1 {a : Expr} {ta : TDE} {p pos : Pos} {b : B1} (hK : C.K = X.K) (ok : B1Ok X b) (ha : PE X a (lift C Wx ta)) (he : starEach [a] X.env = (false, eval a X.env) :: starEach [] X.env) :
    PE X (.Call (.Name b.name p) [a] [] pos) (lift C Wx (dOp1 (wB1 b) ta)) :=
  (pe_b1 b ok ha he).imD fun σ H Q q => by
    obtain ⟨R, ds, h, P, Z, e, p, k, z⟩ := q
    refine ⟨R, ds, h, _, Z, e, p, fun R1 H1 h1 w1 v1 p1 x1 e1 r1 => ?_, z⟩
    exact ⟨v1, rfl, hK ▸ s_b1 e1 x1 r1 p1 fun R' H' w z a b c d => k R' H' h1 w z a (x1.trans b) c d⟩
def tyD : D → Option String
  | .non => some "NoneType"
  | .bl _ => some "bool"
  | .int _ => some "int"
  | .str _ => some "str"
  | .tup _ => some "tuple"
  | .lst _ => some "list"
  | .fro _ => some "list"
  | .wtp _ => some "tuple"
  | _ => none
def tyW : W → Option String
  | .d x => tyD x
  | .new _ => some "list"
  | .own _ => some "list"
  | .fn _ => none
def wIsi (T : String) (x : W) (Q : W → Prop) : Prop := ∃ t b, tyW x = some t ∧ kitB t T = some b ∧ Q (.d (.bl b))
theorem ty_of {R : Rg} {H H1 : Hp} {w : W} {v : V} {t : String} (r : RelW C.K H1 R H w v) (e : tyW w = some t) : TyX C.K H v (.type t) := by
  cases w with
  | d x =>
    cases x with
    | non => cases rw_non r; cases e; exact .base .non
    | bl _ => cases rw_bl r; cases e; exact .base (.bl _)
    | int _ => cases rw_int r; cases e; exact .base (.int _)
    | str _ => cases rw_str r; cases e; exact .base (.str _)
    | ty _ => cases e
    | ref _ => cases e
    | tup _ =>
      obtain ⟨a, vs, rfl, q, _⟩ := rw_tup r; cases e
      exact .base (.tup q)
    | wtp _ =>
      have r2 : RelD C.K R H (.wtp _) v := r; obtain ⟨a, vs, rfl, q, _⟩ := r_wtp r2; cases e
      rcases q H with (q | ⟨o, q⟩) | ⟨o, its, n, q, c, _⟩
      · exact .base (.tup q)
      · exact .fTuple q
      · exact .kTuple q c
    | lst _ => have r2 : RelD C.K R H (.lst _) v := r; obtain ⟨a, vs, rfl, q, _⟩ := r_lst r2; cases e; exact .base (.lst q.2)
    | fro _ =>
      have r2 : RelD C.K R H (.fro _) v := r
      obtain ⟨a, vs, rfl, q, _⟩ := r_fro r2; cases e
      rcases q with ⟨o, q⟩ | ⟨o, its, n, q, c, _⟩
      · exact .base (.frz q)
      · exact .kList q c
  | new _ => obtain ⟨a, vs, rfl, _, q, _⟩ := r; cases e; exact .base (.lst q)
  | fn _ => cases e
  | own _ => obtain ⟨a, vs, rfl, q, _⟩ := r; cases e; exact .base (.lst q)
theorem de_isi {a : Expr} {ta : TDE} {p p2 pos : Pos} {T : Str} {T' : String} (hK : C.K = X.K) (hg : Gl X "isinstance") (hm : X.mg "isinstance" = none) (gT : Gl X T) (mT : X.mg T = none) (hT : bootBuiltins T = some (.type T')) (hn : T ≠ "__name__") (hd : (T == ("__debug__" : Str)) = false)
    (ha : PE X a (lift C Wx ta)) (he : starEach [a, .Name T p2] X.env = (false, eval a X.env) :: starEach [.Name T p2] X.env) :
    PE X (.Call (.Name "isinstance" p) [a, .Name T p2] [] pos) (lift C Wx (dOp1 (wIsi T') ta)) :=
  (pe_callB call_isi hg hm (by decide +kernel) (pa_cons ha (pa_cons (pe_bltn (v := .ty T') gT mT hT rfl hn hd) pa_nil (by rfl)) he) (he := he) (hpl := by rfl)).imD fun σ H Q q => by
    obtain ⟨R, ds, h, P, Z, e, p, k, z⟩ := q
    refine ⟨R, ds, h, _, Z, e, p, fun R1 H1 h1 w1 v1 ⟨t, b, e1, kb, p1⟩ x1 e1' r1 => ?_, z⟩
    exact ⟨v1, .ty T', .type t, .type T', b, rfl, .ty T', hK ▸ ty_of r1 e1, kit_ty kb, k R1 H1 h1 _ _ p1 x1 e1' mw_bl⟩
def wIx (x y : W) (Q : W → Prop) : Prop := match y with
  | .d (.int i) => (match x with
    | .d (.str z) => z.length ≤ sizeLine ∧ ∃ c, atI z.cps.toList i = some c ∧ Q (.d (.str ⟨#[c]⟩))
    | x => ∃ xs d, seqW x = some xs ∧ atI xs i = some d ∧ Q (.d d))
  | _ => False
theorem relDs_atI {R : Rg} {H : Hp} {xs : List D} {vs : List V} {i : Int} {d : D} (r : RelDs C.K R H xs vs) (e : atI xs i = some d) : ∃ v, atI vs i = some v ∧ RelD C.K R H d v := by
  unfold atI at e ⊢
  rw [← relDs_len r]
  cases q : ixN xs.length i with
  | none => rw [q] at e; cases e
  | some j =>
    rw [q] at e
    exact relDs_get r e
theorem s_ix {R : Rg} {ds : DSt} {σ : Sl} {H : Hp} {h : Hs} {H0 : Hp} {x y : W} {v u : V} {Pw : W → Prop} {Q : VK} (e : Env C R ds σ H h)
    (rx : RelW C.K H0 R H x v) (ry : RelW C.K H0 R H y u) (p : wIx x y Pw) (k : Kont C ds σ h R H H0 Pw Q) : rIx C.K v u H Q := by
  unfold wIx at p
  split at p
  · cases rw_int ry
    split at p
    · cases rw_str rx
      obtain ⟨l, c, e1, p⟩ := p
      exact .inr (.inr ⟨_, _, c, rfl, rfl, l, e1, k R H _ _ p (Ex.refl _ _) e mw_str⟩)
    · obtain ⟨xs, d, e1, e2, p⟩ := p
      obtain ⟨a, vs, rfl, q, t⟩ := rel_seq rx e1
      obtain ⟨v, e3, rv⟩ := relDs_atI t e2
      rcases q with q | q
      · exact .inl ⟨a, vs, _, v, rfl, rfl, q, e3, k R H _ _ p (Ex.refl _ _) e rv⟩
      · exact .inr (.inl ⟨a, vs, _, v, rfl, rfl, q, e3, k R H _ _ p (Ex.refl _ _) e rv⟩)
  · exact p.elim
theorem de_ix {a b : Expr} {ta tb : TDE} {pos : Pos} (hK : C.K = X.K) (hs : PlainIx b) (ha : PE X a (lift C Wx ta)) (hb : PE X b (lift C Wx tb)) : PE X (.Subscript a b pos) (lift C Wx (dOp2 wIx ta tb)) :=
  (pe_ix ix_seq ha hb hs).imD fun σ H Q q => op2 (fun R ds σ H h R0 H0 x y v u Pw Q e ex _ rx ry p k => hK ▸ s_ix e rx ry p k) q
def dHix (ta tb : TDE) : TDE := fun ds h P Z => ta ds h (fun x h1 => tb ds h1 (fun y h2 => ∃ n i xs d, x = .d (.ref n) ∧ y = .d (.int i) ∧ h2[n]? = some (.lst xs) ∧ atI xs i = some d ∧ P (.d d) h2) Z) Z
theorem de_hix {a b : Expr} {ta tb : TDE} {pos : Pos} (hK : C.K = X.K) (hs : PlainIx b) (ha : PE X a (lift C Wx ta)) (hb : PE X b (lift C Wx tb)) : PE X (.Subscript a b pos) (lift C Wx (dHix ta tb)) :=
  (pe_ix ix_list ha hb hs).imD fun σ H Q q => by
    obtain ⟨R, ds, h, P, Z, e, p, k, z⟩ := q
    refine ⟨R, ds, h, _, Z, e, p, fun R1 H1 h1 w1 v1 p1 x1 e1 r1 => ?_, z⟩
    refine ⟨R1, ds, h1, _, Z, e1, p1, fun R2 H2 h2 w2 v2 ⟨n, i, xs, d, hx, hy, hn, hi, p2⟩ x2 e2 r2 => ?_, fun R' H' h' x cls dd a b c d => z R' H' h' x cls dd a (x1.trans b) c d⟩
    subst hx hy
    have r1' : RelD C.K R2 H2 (.ref n) v1 := relW_ex e1.ok x2 r1
    obtain ⟨_, rfl⟩ := r_ref r1'
    cases rw_int r2
    obtain ⟨u, hu, vs, rfl, t⟩ := e2.ok.obj n _ hn
    obtain ⟨v, e3, rv⟩ := relDs_atI t hi
    exact ⟨_, vs, i, v, rfl, rfl, .inl (.inl hu), e3, k R2 H2 h2 _ _ p2 (x1.trans x2) e2 rv⟩
abbrev TDO := DSt → Hs → (Option Int → Hs → Prop) → XD → Prop
def dNo : TDO := fun _ h P _ => P none h
def dPart (t : TDE) : TDO := fun ds h P Z => t ds h (fun x h1 => ∃ i, x = .d (.int i) ∧ P (some i) h1) Z
def liftO (C : Cn) (Wx : WX) (t : TDO) : Sl → Hp → (Option Int → Hp → Prop) → Prop := fun σ H Q => ∃ R ds h P Z, Env C R ds σ H h ∧ t ds h P Z ∧
  (∀ R' H' h' w, P w h' → Ex R H R' H' → Env C R' ds σ H' h' → Q w H') ∧
  (∀ R' H' h' x cls dd, Z x h' → Ex R H R' H' → Env C R' ds σ H' h' → RelX C R' H' x cls dd → Wx cls dd σ H')
def cutD {α : Type} (xs : List α) (lo hi : Option Int) : List α := (xs.drop (HT.sIx xs.length 0 lo)).take (HT.sIx xs.length xs.length hi - HT.sIx xs.length 0 lo)
def wSl (x : W) (lo hi : Option Int) (Q : W → Prop) : Prop := match x with
  | .d (.str z) => z.length ≤ sizeLine ∧ Q (.d (.str (cutS z lo hi)))
  | .d (.tup xs) => Q (.d (.tup (cutD xs lo hi)))
  | x => ∃ xs, lstW x = some xs ∧ Q (.new (cutD xs lo hi))
def dSl (ta : TDE) (tl th : TDO) : TDE := fun ds h P Z => ta ds h (fun x h1 => tl ds h1 (fun lo h2 => th ds h2 (fun hi h3 => wSl x lo hi fun z => P z h3) Z) Z) Z
theorem relDs_cut {R : Rg} {H : Hp} {xs : List D} {vs : List V} {lo hi : Option Int} (r : RelDs C.K R H xs vs) : RelDs C.K R H (cutD xs lo hi) (cutV vs lo hi) := by
  unfold cutD cutV
  rw [relDs_len r]
  exact relDs_take _ (relDs_drop _ r)
theorem cut_all {α : Type} {xs : List α} {lo hi : Option Int} (h1 : HT.sIx xs.length 0 lo = 0) (h2 : HT.sIx xs.length xs.length hi = xs.length) : cutD xs lo hi = xs := by
  unfold cutD
  rw [h1, h2]
  simp
theorem sl_any : SlR X (fun x lo hi H Q => (rSlL X.K x lo hi H Q ∨ rSlA X.K x lo hi H Q) ∨ rSlS x lo hi H Q) := SlR.or (SlR.or sl_list sl_tupA) sl_str
theorem s_sl {R : Rg} {ds : DSt} {σ : Sl} {H : Hp} {h : Hs} {R0 : Rg} {H0 : Hp} {x : W} {lo hi : Option Int} {v : V} {Pw : W → Prop} {Q : VK} (e : Env C R ds σ H h) (ex : Ex R0 H0 R H)
    (rx : RelW C.K H0 R H x v) (p : wSl x lo hi Pw) (k : Kont C ds σ h R H H0 Pw Q) : (rSlL C.K v lo hi H Q ∨ rSlA C.K v lo hi H Q) ∨ rSlS v lo hi H Q := by
  unfold wSl at p
  split at p
  · cases rw_str rx
    exact .inr ⟨_, rfl, p.1, k R H _ _ p.2 (Ex.refl _ _) e mw_str⟩
  · obtain ⟨a, vs, rfl, q, t⟩ := rw_tup rx
    refine .inl (.inr ⟨a, vs, rfl, q.sq, fun ⟨h1, h2⟩ => ?_, fun _ l nl => ?_⟩)
    · rw [← relDs_len t] at h1 h2
      rw [cut_all h1 h2] at p
      exact k R H _ _ p (Ex.refl _ _) e (mw_tup q t)
    · exact k R _ _ _ p (Ex.fresh nl) (e.fresh nl) (mw_tup upd_same (relDs_ex e.ok (Ex.fresh nl) (relDs_cut t)))
  · obtain ⟨xs, e1, p⟩ := p
    obtain ⟨a, vs, rfl, q, t⟩ := rel_lst rx e1
    exact .inl (.inl ⟨a, vs, rfl, q, fun l nl => k R _ _ _ p (Ex.fresh nl) (e.fresh nl) (m_new e ex nl (relDs_cut t))⟩)
theorem do_no : PO X none (liftO C Wx dNo) := by
  refine ⟨fun pins s σ H Q I q => po_none.run pins s σ H Q I ?_⟩
  obtain ⟨R, ds, h, P, Z, e, p, k, z⟩ := q
  exact k R H h none p (Ex.refl _ _) e
theorem do_some {a : Expr} {ta : TDE} (ha : PE X a (lift C Wx ta)) : PO X (some a) (liftO C Wx (dPart ta)) := by
  refine ⟨fun pins s σ H Q I q => (po_some ha).run pins s σ H Q I ?_⟩
  obtain ⟨R, ds, h, P, Z, e, p, k, z⟩ := q
  refine ⟨R, ds, h, _, Z, e, p, fun R1 H1 h1 w1 v1 ⟨i, hx, p1⟩ x1 e1 r1 => ?_, z⟩
  subst hx
  exact ⟨i, rw_int r1, k R1 H1 h1 _ p1 x1 e1⟩
theorem de_sl {a : Expr} {lo hi : Option Expr} {ta : TDE} {tl th : TDO} {pos p2 : Pos} (hK : C.K = X.K) (ha : PE X a (lift C Wx ta)) (hl : PO X lo (liftO C Wx tl)) (hh : PO X hi (liftO C Wx th)) :
    PE X (.Subscript a (.Slice lo hi none p2) pos) (lift C Wx (dSl ta tl th)) :=
  (pe_slice sl_any ha hl hh).imD fun σ H Q q => by
    obtain ⟨R, ds, h, P, Z, e, p, k, z⟩ := q
    refine ⟨R, ds, h, _, Z, e, p, fun R1 H1 h1 w1 v1 p1 x1 e1 r1 => ?_, z⟩
    refine ⟨R1, ds, h1, _, Z, e1, p1, fun R2 H2 h2 lo p2 x2 e2 => ?_, fun R' H' h' x cls dd a b c d => z R' H' h' x cls dd a (x1.trans b) c d⟩
    refine ⟨R2, ds, h2, _, Z, e2, p2, fun R3 H3 h3 hi p3 x3 e3 => ?_, fun R' H' h' x cls dd a b c d => z R' H' h' x cls dd a ((x1.trans x2).trans b) c d⟩
    have x13 := (x1.trans x2).trans x3
    exact hK ▸ s_sl e3 x13 (relW_ex e1.ok (x2.trans x3) r1) p3 fun R' H' w z a b c d => k R' H' h3 w z a (x13.trans b) c d
end
end DL
set_option maxHeartbeats 4000000
namespace DL
open PySem PySem.Spec PyProof.Rows L2
/-- what is wanted behind a statement -/
structure DEnds where
  nx : DSt → Hs → Prop
  rt : D → Hs → Prop
  ex : Xn → DSt → Hs → Prop
  bk : DSt → Hs → Prop := fun _ _ => False
  ct : DSt → Hs → Prop := fun _ _ => False
abbrev TDS := DSt → Hs → DEnds → Prop
structure EndsOk (C : Cn) (Wx : WX) (R : Rg) (H : Hp) (P : DEnds) (D : Ends) : Prop where
  nx : ∀ R' ds σ H' h, Env C R' ds σ H' h → Mo C.K R H R' H' → P.nx ds h → D.nx σ H'
  bk : ∀ R' ds σ H' h, Env C R' ds σ H' h → Mo C.K R H R' H' → P.bk ds h → D.bk σ H'
  ct : ∀ R' ds σ H' h, Env C R' ds σ H' h → Mo C.K R H R' H' → P.ct ds h → D.ct σ H'
  rt : ∀ R' H' h d v, HOk' C.K C.Cl R' H' h → Ex C.R₀ C.H₀ R' H' → RelD C.K R' H' d v → P.rt d h → D.rt v H'
  ex : ∀ R' ds σ H' h x cls dd, Env C R' ds σ H' h → Mo C.K R H R' H' → RelX C R' H' x cls dd → P.ex x ds h → Wx cls dd σ H'
def liftS (C : Cn) (Wx : WX) (t : TDS) : TS := fun D σ H => ∃ R ds h P, Env C R ds σ H h ∧ t ds h P ∧ EndsOk C Wx R H P D
section
variable {X : Cx} {C : Cn} {Wx : WX}
theorem Mo.refl (K : Fg) (R : Rg) (H : Hp) : Mo K R H R H := ⟨Nat.le_refl _, fun _ _ => rfl, fun _ _ r => r, fun _ _ r => r, fun _ _ r => r, fun _ _ _ r => r⟩
theorem Mo.trans {K : Fg} {R R' R'' : Rg} {H H' H'' : Hp} (a : Mo K R H R' H') (b : Mo K R' H' R'' H'') : Mo K R H R'' H'' :=
  ⟨Nat.le_trans a.le b.le, fun i hi => (b.at_ i (Nat.lt_of_lt_of_le hi a.le)).trans (a.at_ i hi), fun _ _ r => b.tup _ _ (a.tup _ _ r), fun _ _ r => b.lst _ _ (a.lst _ _ r), fun _ _ r => b.fro _ _ (a.fro _ _ r), fun _ _ _ r => b.lk _ _ _ (a.lk _ _ _ r)⟩
theorem EndsOk.later {R R' : Rg} {H H' : Hp} {P : DEnds} {D : Ends} (k : EndsOk C Wx R H P D) (m : Mo C.K R H R' H') : EndsOk C Wx R' H' P D :=
  ⟨fun R2 ds σ H2 h e m2 p => k.nx R2 ds σ H2 h e (m.trans m2) p, fun R2 ds σ H2 h e m2 p => k.bk R2 ds σ H2 h e (m.trans m2) p, fun R2 ds σ H2 h e m2 p => k.ct R2 ds σ H2 h e (m.trans m2) p, k.rt,
    fun R2 ds σ H2 h x cls dd e m2 r p => k.ex R2 ds σ H2 h x cls dd e (m.trans m2) r p⟩
/-- an exception of an expression -/
theorem EndsOk.exE {R : Rg} {H : Hp} {P : DEnds} {D : Ends} {ds : DSt} {σ : Sl} {h : Hs} (k : EndsOk C Wx R H P D) (e : Env C R ds σ H h) :
    ∀ R' H' h' x cls dd, P.ex x ds h' → Ex R H R' H' → Env C R' ds σ H' h' → RelX C R' H' x cls dd → Wx cls dd σ H' :=
  fun R' H' h' x cls dd p a b c => k.ex R' ds σ H' h' x cls dd b (a.mo e.ok) c p
theorem Env.set {R : Rg} {ds : DSt} {σ : Sl} {H : Hp} {h : Hs} {d : D} {v : V} (e : Env C R ds σ H h) (i : Nat) (r : RelD C.K R H d v) : Env C R (ds.set i (some (.d d))) (σ.set i (some v)) H h := by
  have hs : ∀ (j : Nat) w, (ds.set i (some (W.d d)))[j]? = some (some w) → (j = i ∧ w = .d d ∧ i < ds.length) ∨ (j ≠ i ∧ ds[j]? = some (some w)) := fun j w q => by
    by_cases hj : j = i
    · subst hj
      by_cases hl : j < ds.length
      · rw [List.getElem?_set_self hl] at q; cases q; exact .inl ⟨rfl, rfl, hl⟩
      · rw [List.set_eq_of_length_le (by omega)] at q
        rw [List.getElem?_eq_none (by omega)] at q; cases q
    · rw [List.getElem?_set_ne (Ne.symm hj)] at q; exact .inr ⟨hj, q⟩
  refine ⟨e.ok, e.ex, by simp [e.len], fun j w q => ?_, fun j xs q => ?_, fun j k xs ys a q1 s1 q2 s2 => ?_, fun j xs a q s => ?_⟩
  · rcases hs j w q with ⟨rfl, rfl, hl⟩ | ⟨hj, q⟩
    · exact ⟨v, by rw [List.getElem?_set_self (by rw [← e.len]; exact hl)], r⟩
    · rw [List.getElem?_set_ne (Ne.symm hj)]; exact e.slot j w q
  · rcases hs j _ q with ⟨_, z, _⟩ | ⟨_, q⟩
    · cases z
    · exact e.nnew j xs q
  · rcases hs j _ q1 with ⟨_, z, _⟩ | ⟨hj, q1⟩
    · cases z
    rcases hs k _ q2 with ⟨_, z, _⟩ | ⟨hk, q2⟩
    · cases z
    rw [List.getElem?_set_ne (Ne.symm hj)] at s1
    rw [List.getElem?_set_ne (Ne.symm hk)] at s2
    exact e.own j k xs ys a q1 s1 q2 s2
  · rcases hs j _ q with ⟨_, z, _⟩ | ⟨hj, q⟩
    · cases z
    rw [List.getElem?_set_ne (Ne.symm hj)] at s
    exact e.own0 j xs a q s
/-- a slot takes a new list as its own -/
theorem Env.setO {R : Rg} {ds : DSt} {σ : Sl} {H : Hp} {h : Hs} {xs : List D} {vs : List V} {a : Addr} (e : Env C R ds σ H h) (i : Nat) (q : H a = some (.lst vs)) (nf : ¬ R.fz a) (o : Out R a) (r : RelDs C.K R H xs vs)
    (h0 : C.H₀ a = none) (hn : ∀ (j : Nat) ys, ds[j]? = some (some (.own ys)) → σ[j]? ≠ some (some (.ref a))) : Env C R (ds.set i (some (.own xs))) (σ.set i (some (.ref a))) H h := by
  have hs : ∀ (j : Nat) w, (ds.set i (some (W.own xs)))[j]? = some (some w) → (j = i ∧ w = .own xs ∧ i < ds.length) ∨ (j ≠ i ∧ ds[j]? = some (some w)) := fun j w q => by
    by_cases hj : j = i
    · subst hj
      by_cases hl : j < ds.length
      · rw [List.getElem?_set_self hl] at q; cases q; exact .inl ⟨rfl, rfl, hl⟩
      · rw [List.set_eq_of_length_le (by omega)] at q
        rw [List.getElem?_eq_none (by omega)] at q; cases q
    · rw [List.getElem?_set_ne (Ne.symm hj)] at q; exact .inr ⟨hj, q⟩
  refine ⟨e.ok, e.ex, by simp [e.len], fun j w q1 => ?_, fun j ys q1 => ?_, fun j k ys zs b q1 s1 q2 s2 => ?_, fun j ys b q1 s => ?_⟩
  · rcases hs j w q1 with ⟨rfl, rfl, hl⟩ | ⟨hj, q1⟩
    · exact ⟨.ref a, by rw [List.getElem?_set_self (by rw [← e.len]; exact hl)], a, vs, rfl, q, nf, o, r⟩
    · rw [List.getElem?_set_ne (Ne.symm hj)]; exact e.slot j w q1
  · rcases hs j _ q1 with ⟨_, z, _⟩ | ⟨_, q1⟩
    · cases z
    · exact e.nnew j ys q1
  · rcases hs j _ q1 with ⟨rfl, z, hl⟩ | ⟨hj, q1⟩
    · rw [List.getElem?_set_self (by rw [← e.len]; exact hl)] at s1
      cases s1
      rcases hs k _ q2 with ⟨rfl, _⟩ | ⟨hk, q2⟩
      · rfl
      · rw [List.getElem?_set_ne (Ne.symm hk)] at s2
        exact absurd s2 (hn k zs q2)
    · rw [List.getElem?_set_ne (Ne.symm hj)] at s1
      have q1b := q1
      rcases hs k _ q2 with ⟨ek, _, hl⟩ | ⟨hk, q2⟩
      · rw [ek, List.getElem?_set_self (by rw [← e.len]; exact hl)] at s2
        cases s2
        exact absurd s1 (hn j ys q1b)
      · rw [List.getElem?_set_ne (Ne.symm hk)] at s2
        exact e.own j k ys zs b q1 s1 q2 s2
  · rcases hs j _ q1 with ⟨rfl, _, hl⟩ | ⟨hj, q1⟩
    · rw [List.getElem?_set_self (by rw [← e.len]; exact hl)] at s
      cases s
      exact h0
    · rw [List.getElem?_set_ne (Ne.symm hj)] at s
      exact e.own0 j ys b q1 s
/-- a list that no tree leans on is written -/
theorem Mo.wr {R : Rg} {H : Hp} {a : Addr} {vs : List V} {o : HO} (q : H a = some (.lst vs)) (nf : ¬ R.fz a) : Mo C.K R H R (upd H a o) := by
  have ne : ∀ b u, H b = some u → u ≠ .lst vs → b ≠ a := fun b u e n z => by subst z; rw [q] at e; cases e; exact n rfl
  refine ⟨Nat.le_refl _, fun _ _ => rfl, fun b us r => ?_, fun b us r => ?_, fun b us r => ?_, fun b o' u' r => by rw [upd_ne (ne b _ r HO.noConfusion)]; exact r⟩
  · show upd H a o b = _
    rw [upd_ne (ne b _ r HO.noConfusion)]; exact r
  · exact ⟨r.1, by rw [upd_ne (show b ≠ a from fun z => nf (by rw [← z]; exact r.1))]; exact r.2⟩
  · rcases r with ⟨o', r⟩ | r
    · exact .inl ⟨o', by rw [upd_ne (ne b _ r HO.noConfusion)]; exact r⟩
    · exact .inr r
/-- an own list is written -/
theorem Env.wr {R : Rg} {ds : DSt} {σ : Sl} {H : Hp} {h : Hs} {xs ys : List D} {us : List V} {a : Addr} {i : Nat} (e : Env C R ds σ H h) (hi : ds[i]? = some (some (.own xs))) (hs : σ[i]? = some (some (.ref a))) (r : RelDs C.K R H ys us) :
    Env C R (ds.set i (some (.own ys))) σ (upd H a (.lst us)) h ∧ Mo C.K R H R (upd H a (.lst us)) := by
  obtain ⟨v, e1, a', vs, ev, q, nf, o, t⟩ := e.slot i _ hi
  rw [hs] at e1
  cases e1
  cases ev
  have m : Mo C.K R H R (upd H a (.lst us)) := Mo.wr q nf
  have h0 := e.own0 i xs a hi hs
  have hl : i < ds.length := (List.getElem?_eq_some_iff.mp hi).1
  refine ⟨⟨⟨e.ok.len, fun j o' hj => ?_, e.ok.inj, e.ok.nfz, fun b z => ?_, tabs_wr q (fun _ => HO.noConfusion) (fun _ => HO.noConfusion) e.ok.tab⟩, ⟨e.ex.le, e.ex.at_, e.ex.fz, e.ex.nat, e.ex.nfz, fun b u q1 o1 n1 => ?_, fun b q1 => ?_, fun b o' u' q1 => by rw [upd_ne (fun y => by subst y; rw [h0] at q1; cases q1)]; exact e.ex.lk b o' u' q1⟩, by simp [e.len], fun j w q1 => ?_, fun j zs q1 => ?_, fun j k zs ws b q1 s1 q2 s2 => ?_, fun j zs b q1 s1 => ?_⟩, m⟩
  · obtain ⟨u, e2, r2⟩ := e.ok.obj j o' hj
    have hjn : j < R.n := by rw [← e.ok.len]; exact (List.getElem?_eq_some_iff.mp hj).1
    exact ⟨u, by rw [upd_ne (o j hjn)]; exact e2, relO_mo m r2⟩
  · obtain ⟨ws, e2⟩ := e.ok.fzd b z
    exact ⟨ws, by rw [upd_ne (show b ≠ a from fun y => nf (by rw [← y]; exact z))]; exact e2⟩
  · rw [upd_ne (fun y => by subst y; rw [h0] at q1; cases q1)]
    exact e.ex.frm b u q1 o1 n1
  · by_cases y : b = a
    · subst y; exact h0
    · rw [upd_ne y] at q1; exact e.ex.dom b q1
  · by_cases hj : j = i
    · subst hj
      rw [List.getElem?_set_self hl] at q1
      cases q1
      exact ⟨.ref a, hs, a, us, rfl, upd_same, nf, o, relDs_mo m r⟩
    · rw [List.getElem?_set_ne (Ne.symm hj)] at q1
      obtain ⟨v2, s2, r2⟩ := e.slot j w q1
      refine ⟨v2, s2, ?_⟩
      cases w with
      | d y => exact relD_mo m r2
      | new zs => exact absurd q1 (e.nnew j zs)
      | fn _ => exact r2
      | own zs =>
        obtain ⟨b, ws, ev2, q2, nf2, o2, t2⟩ := r2
        subst ev2
        have nab : b ≠ a := fun y => by
          subst y
          exact hj (e.own j i zs xs b q1 s2 hi hs)
        exact ⟨b, ws, rfl, by rw [upd_ne nab]; exact q2, nf2, o2, relDs_mo m t2⟩
  · by_cases hj : j = i
    · subst hj
      rw [List.getElem?_set_self hl] at q1
      cases q1
    · rw [List.getElem?_set_ne (Ne.symm hj)] at q1; exact e.nnew j zs q1
  · have f : ∀ (j : Nat) zs, (ds.set i (some (W.own ys)))[j]? = some (some (W.own zs)) → ∃ zs', ds[j]? = some (some (.own zs')) := fun j zs q => by
      by_cases hj : j = i
      · subst hj; exact ⟨xs, hi⟩
      · rw [List.getElem?_set_ne (Ne.symm hj)] at q; exact ⟨zs, q⟩
    obtain ⟨_, g1⟩ := f j zs q1
    obtain ⟨_, g2⟩ := f k ws q2
    exact e.own j k _ _ b g1 s1 g2 s2
  · by_cases hj : j = i
    · subst hj; exact e.own0 j xs b hi s1
    · rw [List.getElem?_set_ne (Ne.symm hj)] at q1; exact e.own0 j zs b q1 s1
/-- what may be shared and written -/
def Shr : HO → Prop
  | .lst _ => True
  | .dK _ => True
  | .dT _ => True
  | .ins _ _ _ => True
  | .frz _ _ => True
  | _ => False
theorem shr_of {K : Fg} {Cl : Cm} {R : Rg} {H : Hp} {o : O} {u : HO} (r : RelO K Cl R H o u) : Shr u := by
  cases o with
  | lst xs => obtain ⟨vs, rfl, _⟩ := r; trivial
  | dic xs => obtain ⟨vs, rfl, _⟩ := r; trivial
  | dit xs => obtain ⟨vs, rfl, _⟩ := r; trivial
  | ins c xs => obtain ⟨d, vs, rfl, _⟩ := r; trivial
  | fit xs => obtain ⟨d, vs, rfl, _⟩ := r; trivial
  | fic xs => obtain ⟨d, vs, rfl, _⟩ := r; trivial
/-- no locked dict -/
def O.mut : O → Bool
  | .fit _ => false
  | .fic _ => false
  | _ => true
theorem mut_of {K : Fg} {Cl : Cm} {R : Rg} {H : Hp} {o : O} {u : HO} (r : RelO K Cl R H o u) (m : o.mut = true) : ∀ o' v, u ≠ .frz o' v := fun o' v z => by
  subst z
  cases o with
  | lst xs => obtain ⟨vs, e, _⟩ := r; cases e
  | dic xs => obtain ⟨vs, e, _⟩ := r; cases e
  | dit xs => obtain ⟨vs, e, _⟩ := r; cases e
  | ins c xs => obtain ⟨d, vs, e, _⟩ := r; cases e
  | fit xs => cases m
  | fic xs => cases m
/-- a shared object is written -/
theorem Env.hw {R : Rg} {ds : DSt} {σ : Sl} {H : Hp} {h : Hs} {n : Nat} {o o2 : O} {u2 : HO} (e : Env C R ds σ H h) (hn : h[n]? = some o) (r2 : RelO C.K C.Cl R H o2 u2) (hm : o.mut = true := by rfl) :
    Env C R ds σ (upd H (R.at_ n) u2) (h.set n o2) ∧ Mo C.K R H R (upd H (R.at_ n) u2) := by
  obtain ⟨u, hu, r⟩ := e.ok.obj n o hn
  have hnl : n < R.n := by rw [← e.ok.len]; exact (List.getElem?_eq_some_iff.mp hn).1
  have su := shr_of r
  have ne : ∀ b v, H b = some v → ¬ Shr v → b ≠ R.at_ n := fun b v q s z => by rw [z, hu] at q; cases q; exact s su
  have nfz : ∀ b, R.fz b → b ≠ R.at_ n := fun b z y => e.ok.nfz n hnl (by rw [← y]; exact z)
  have neF : ∀ b o' v, H b = some (.frz o' v) → b ≠ R.at_ n := fun b o' v q z => by rw [z, hu] at q; cases q; exact mut_of r hm _ _ rfl
  have m : Mo C.K R H R (upd H (R.at_ n) u2) := by
    refine ⟨Nat.le_refl _, fun _ _ => rfl, fun b us q => ?_, fun b us q => ⟨q.1, by rw [upd_ne (nfz b q.1)]; exact q.2⟩, fun b us q => ?_, fun b o' u' q => by rw [upd_ne (neF b _ _ q)]; exact q⟩
    · show upd H (R.at_ n) u2 b = _
      rw [upd_ne (ne b _ q fun z => z)]; exact q
    · rcases q with ⟨o', q⟩ | q
      · exact .inl ⟨o', by rw [upd_ne (neF b _ _ q)]; exact q⟩
      · exact .inr q
  refine ⟨⟨⟨by simp [e.ok.len], fun j o' hj => ?_, e.ok.inj, e.ok.nfz, fun b z => ?_, tabs_wr hu (fun ps z => by rw [z] at su; exact su) (fun ps z => by rw [z] at su; exact su) e.ok.tab⟩, ⟨e.ex.le, e.ex.at_, e.ex.fz, e.ex.nat, e.ex.nfz, fun b v q1 o1 n1 => ?_, fun b q1 => ?_, fun b o' u' q1 => by rw [upd_ne (neF b _ _ (e.ex.lk b o' u' q1))]; exact e.ex.lk b o' u' q1⟩, e.len, fun j w q1 => ?_, e.nnew, e.own, e.own0⟩, m⟩
  · by_cases hjn : j = n
    · subst hjn
      rw [List.getElem?_set_self (by rw [e.ok.len]; exact hnl)] at hj
      cases hj
      exact ⟨u2, upd_same, relO_mo m r2⟩
    · rw [List.getElem?_set_ne (Ne.symm hjn)] at hj
      obtain ⟨v, e2, r3⟩ := e.ok.obj j o' hj
      have hjl : j < R.n := by rw [← e.ok.len]; exact (List.getElem?_eq_some_iff.mp hj).1
      exact ⟨v, by rw [upd_ne (fun z => hjn (e.ok.inj j n hjl hnl z))]; exact e2, relO_mo m r3⟩
  · obtain ⟨ws, e2⟩ := e.ok.fzd b z
    exact ⟨ws, by rw [upd_ne (nfz b z)]; exact e2⟩
  · have ob := e.ex.out q1 o1
    rw [upd_ne (fun z => ob n hnl z.symm)]
    exact e.ex.frm b v q1 o1 n1
  · by_cases y : b = R.at_ n
    · rw [y, upd_same] at q1; cases q1
    · rw [upd_ne y] at q1; exact e.ex.dom b q1
  · obtain ⟨v2, s2, r3⟩ := e.slot j w q1
    refine ⟨v2, s2, ?_⟩
    cases w with
    | d y => exact relD_mo m r3
    | new zs => exact absurd q1 (e.nnew j zs)
    | fn _ => exact r3
    | own zs =>
      obtain ⟨b, ws, ev2, q2, nf2, o2, t2⟩ := r3
      exact ⟨b, ws, ev2, by rw [upd_ne (fun z => o2 n hnl z.symm)]; exact q2, nf2, o2, relDs_mo m t2⟩
/-- a new shared object -/
theorem Env.ha {R : Rg} {ds : DSt} {σ : Sl} {H : Hp} {h : Hs} {p : Addr} {o : O} {u : HO} (e : Env C R ds σ H h) (np : H p = none) (r : RelO C.K C.Cl R H o u) :
    ∃ R', Env C R' ds σ (upd H p u) (h ++ [o]) ∧ Ex R H R' (upd H p u) ∧ R'.at_ h.length = p ∧ R'.n = h.length + 1 := by
  let R' : Rg := ⟨R.n + 1, fun i => if i = R.n then p else R.at_ i, R.fz⟩
  have hlt : ∀ i, i < R.n → R'.at_ i = R.at_ i := fun i hi => if_neg (Nat.ne_of_lt hi)
  have hat : R'.at_ R.n = p := if_pos rfl
  have nf := e.ok.nfresh np
  have x : Ex R H R' (upd H p u) := by
    refine ⟨Nat.le_succ _, hlt, fun _ z => z, fun i a b => ?_, fun _ z => .inl z, fun b v q _ _ => by rw [upd_ne (ne_of_none q np)]; exact q, fun b q => ?_, fun b o' u' q => by rw [upd_ne (ne_of_none q np)]; exact q⟩
    · have : i = R.n := by have b' : i < R.n + 1 := b; omega
      subst this
      rw [hat]; exact np
    · by_cases y : b = p
      · subst y; exact np
      · rw [upd_ne y] at q; exact q
  have m := x.mo e.ok
  have ok : HOk' C.K C.Cl R' (upd H p u) (h ++ [o]) := by
    refine ⟨by show (h ++ [o]).length = R.n + 1; simp [e.ok.len], fun j o' hj => ?_, fun i j hi hj q => ?_, fun i hi z => ?_, fun b z => ?_, tabs_new np e.ok.tab⟩
    · by_cases hl : j < h.length
      · rw [List.getElem?_append_left hl] at hj
        obtain ⟨v, e2, r3⟩ := e.ok.obj j o' hj
        have hjl : j < R.n := by rw [← e.ok.len]; exact hl
        exact ⟨v, by rw [hlt j hjl, upd_ne (ne_of_none e2 np)]; exact e2, relO_mo m r3⟩
      · have hb : j < (h ++ [o]).length := (List.getElem?_eq_some_iff.mp hj).1
        have ej : j = h.length := by simp at hb; omega
        subst ej
        simp at hj
        subst hj
        exact ⟨u, by rw [e.ok.len, hat]; exact upd_same, relO_mo m r⟩
    · have hi' : i < R.n + 1 := hi
      have hj' : j < R.n + 1 := hj
      by_cases a : i = R.n
      · by_cases b : j = R.n
        · omega
        · exfalso
          rw [a, hat, hlt j (by omega)] at q
          exact nf.2 j (by omega) q.symm
      · by_cases b : j = R.n
        · exfalso
          rw [b, hat, hlt i (by omega)] at q
          exact nf.2 i (by omega) q
        · rw [hlt i (by omega), hlt j (by omega)] at q
          exact e.ok.inj i j (by omega) (by omega) q
    · have hi' : i < R.n + 1 := hi
      by_cases a : i = R.n
      · rw [a, hat] at z; exact nf.1 z
      · rw [hlt i (by omega)] at z; exact e.ok.nfz i (by omega) z
    · obtain ⟨ws, e2⟩ := e.ok.fzd b z
      exact ⟨ws, by rw [upd_ne (ne_of_none e2 np)]; exact e2⟩
  exact ⟨R', e.step x ok, x, by rw [e.ok.len]; exact hat, by rw [e.ok.len]⟩
/-- an own list becomes one that never changes -/
theorem Env.frz {R : Rg} {ds : DSt} {σ : Sl} {H : Hp} {h : Hs} {xs : List D} {i : Nat} (e : Env C R ds σ H h) (hi : ds[i]? = some (some (.own xs))) :
    ∃ R', Env C R' (ds.set i (some (.d (.lst xs)))) σ H h ∧ Mo C.K R H R' H := by
  obtain ⟨v, s1, a, vs, ev, q, nf, o, t⟩ := e.slot i _ hi
  subst ev
  have hl : i < ds.length := (List.getElem?_eq_some_iff.mp hi).1
  have h0 := e.own0 i xs a hi s1
  refine ⟨R.frz a, ⟨e.ok.frz q o, e.ex.frz h0, by simp [e.len], fun j w q1 => ?_, fun j zs q1 => ?_, fun j k zs ws b q1 t1 q2 t2 => ?_, fun j zs b q1 t1 => ?_⟩, Mo.frz⟩
  · by_cases hj : j = i
    · subst hj
      rw [List.getElem?_set_self hl] at q1
      cases q1
      refine ⟨.ref a, s1, ?_⟩
      show RelD C.K (R.frz a) H (.lst xs) (.ref a)
      unfold RelD
      exact ⟨a, vs, rfl, ⟨.inr rfl, q⟩, relDs_mo Mo.frz t⟩
    · rw [List.getElem?_set_ne (Ne.symm hj)] at q1
      obtain ⟨v2, s2, r2⟩ := e.slot j w q1
      refine ⟨v2, s2, ?_⟩
      cases w with
      | d y => exact relD_mo Mo.frz r2
      | new zs => exact absurd q1 (e.nnew j zs)
      | fn _ => exact r2
      | own zs =>
        obtain ⟨b, ws, ev2, q2, nf2, o2, t2⟩ := r2
        subst ev2
        refine ⟨b, ws, rfl, q2, fun z => ?_, o2, relDs_mo Mo.frz t2⟩
        rcases z with z | z
        · exact nf2 z
        · subst z; exact hj (e.own j i zs xs b q1 s2 hi s1)
  · by_cases hj : j = i
    · subst hj; rw [List.getElem?_set_self hl] at q1; cases q1
    · rw [List.getElem?_set_ne (Ne.symm hj)] at q1; exact e.nnew j zs q1
  · by_cases hj : j = i
    · subst hj; rw [List.getElem?_set_self hl] at q1; cases q1
    by_cases hk : k = i
    · subst hk; rw [List.getElem?_set_self hl] at q2; cases q2
    rw [List.getElem?_set_ne (Ne.symm hj)] at q1
    rw [List.getElem?_set_ne (Ne.symm hk)] at q2
    exact e.own j k zs ws b q1 t1 q2 t2
  · by_cases hj : j = i
    · subst hj; rw [List.getElem?_set_self hl] at q1; cases q1
    · rw [List.getElem?_set_ne (Ne.symm hj)] at q1; exact e.own0 j zs b q1 t1
end
end DL
set_option maxHeartbeats 4000000
namespace DL
open PySem PySem.Spec PyProof.Rows L2
section
variable {X : Cx} {C : Cn} {Wx : WX}
def dNext : TDS := fun ds h P => P.nx ds h
def dSeq (t u : TDS) : TDS := fun ds h P => t ds h { P with nx := fun ds' h' => u ds' h' P }
theorem dss_nil : PSs X [] (liftS C Wx dNext) := pss_nil.imD fun D σ H q => by
  obtain ⟨R, ds, h, P, e, p, k⟩ := q
  exact k.nx R ds σ H h e (Mo.refl _ _ _) p
theorem dss_cons {st : Stmt} {rest : List Stmt} {t u : TDS} (h1 : PS X st (liftS C Wx t)) (h2 : PSs X rest (liftS C Wx u)) : PSs X (st :: rest) (liftS C Wx (dSeq t u)) := (pss_cons h1 h2).imD fun D σ H q => by
  obtain ⟨R, ds, h, P, e, p, k⟩ := q
  exact ⟨R, ds, h, _, e, p, ⟨fun R' ds' σ' H' h' e' m p' => ⟨R', ds', h', P, e', p', k.later m⟩, k.bk, k.ct, k.rt, k.ex⟩⟩
theorem ds_pass {pos : Pos} : PS X (.Pass pos) (liftS C Wx dNext) := ps_pass.imD fun D σ H q => by
  obtain ⟨R, ds, h, P, e, p, k⟩ := q
  exact k.nx R ds σ H h e (Mo.refl _ _ _) p
def dBrk : TDS := fun ds h P => P.bk ds h
theorem ds_brk {pos : Pos} : PS X (.Break pos) (liftS C Wx dBrk) := ps_break.imD fun D σ H q => by
  obtain ⟨R, ds, h, P, e, p, k⟩ := q
  exact k.bk R ds σ H h e (Mo.refl _ _ _) p
def dRet (t : TDE) : TDS := fun ds h P => dD t ds h (fun d h' => P.rt d h') (fun x h' => P.ex x ds h')
theorem ds_ret {e : Expr} {t : TDE} {pos : Pos} (he : PE X e (lift C Wx t)) : PS X (.Return (some e) pos) (liftS C Wx (dRet t)) := (ps_ret (pe_D he)).imD fun D σ H q => by
  obtain ⟨R, ds, h, P, e, p, k⟩ := q
  exact ⟨R, ds, h, _, _, e, p, fun R' H' h' d v p' x e' r => k.rt R' H' h' d v e'.ok e'.ex r p', k.exE e⟩
/-- an expression's value is dropped -/
def dDrop (t : TDE) : TDS := fun ds h P => t ds h (fun _ h' => P.nx ds h') (fun x h' => P.ex x ds h')
theorem ds_expr {e : Expr} {t : TDE} {pos : Pos} (he : PE X e (lift C Wx t)) (hs : swapsWith e none pos.line X.env = pure false) : PS X (.Expr e pos) (liftS C Wx (dDrop t)) := (ps_expr he hs).imD fun D σ H q => by
  obtain ⟨R, ds, h, P, e, p, k⟩ := q
  exact ⟨R, ds, h, _, _, e, p, fun R' H' h' w v p' x e' r => k.nx R' ds σ H' h' e' (x.mo e.ok) p', k.exE e⟩
/-- name = value, a tree -/
def dSet (i : Nat) (t : TDE) : TDS := fun ds h P => dD t ds h (fun d h' => P.nx (ds.set i (some (.d d))) h') (fun x h' => P.ex x ds h')
theorem ds_set {i : Nat} {x : Str} {e : Expr} {t : TDE} {pos pos' : Pos} (hN : X.N.Nodup) (hi : X.N[i]? = some x) (hx : Loc X.env.scope x) (hf : X.fn x = true ∨ X.env.scope.names.lookup x = some .local) (he : PE X e (lift C Wx t)) (hs : swapsWith e (some (.Name x pos')) pos.line X.env = pure false) :
    PS X (.Assign [.Name x pos'] e pos) (liftS C Wx (dSet i t)) := (ps_set (i := i) hN hi hx (pe_D he) hs hf).imD fun D σ H q => by
  obtain ⟨R, ds, h, P, e, p, k⟩ := q
  exact ⟨R, ds, h, _, _, e, p, fun R' H' h' d v p' x e' r => k.nx R' _ _ H' h' (e'.set i r) (x.mo e.ok) p', k.exE e⟩
/-- name = a new list, its own -/
def dOwn (i : Nat) (t : TDE) : TDS := fun ds h P => t ds h (fun w h' => ∃ xs, w = .new xs ∧ P.nx (ds.set i (some (.own xs))) h') (fun x h' => P.ex x ds h')
theorem Env.ownNew {R R' : Rg} {H H' : Hp} {ds : DSt} {σ : Sl} {h h' : Hs} {xs : List D} {v : V} (i : Nat) (e : Env C R ds σ H h) (e' : Env C R' ds σ H' h') (r : RelW C.K H R' H' (.new xs) v) : Env C R' (ds.set i (some (.own xs))) (σ.set i (some v)) H' h' := by
  obtain ⟨a, vs, rfl, n1, q, nf, o, t⟩ := r
  refine e'.setO i q nf o t (e.ex.dom a n1) fun j ys hj hs => ?_
  obtain ⟨v0, s0, a0, vs0, ev0, q0, _⟩ := e.slot j _ hj
  rw [hs] at s0
  cases s0
  cases ev0
  rw [n1] at q0
  cases q0
theorem ds_own {i : Nat} {x : Str} {e : Expr} {t : TDE} {pos pos' : Pos} (hN : X.N.Nodup) (hi : X.N[i]? = some x) (hx : Loc X.env.scope x) (hf : X.fn x = true ∨ X.env.scope.names.lookup x = some .local) (he : PE X e (lift C Wx t)) (hs : swapsWith e (some (.Name x pos')) pos.line X.env = pure false) :
    PS X (.Assign [.Name x pos'] e pos) (liftS C Wx (dOwn i t)) := (ps_set (i := i) hN hi hx he hs hf).imD fun D σ H q => by
  obtain ⟨R, ds, h, P, e, p, k⟩ := q
  refine ⟨R, ds, h, _, _, e, p, fun R' H' h' w v ⟨xs, hw, p'⟩ x e' r => ?_, k.exE e⟩
  subst hw
  exact k.nx R' _ _ H' h' (Env.ownNew i e e' r) (x.mo e.ok) p'
/-- an own list becomes a tree, ahead of a statement -/
def dFrz (i : Nat) (t : TDS) : TDS := fun ds h P => ∃ xs, ds[i]? = some (some (.own xs)) ∧ t (ds.set i (some (.d (.lst xs)))) h P
theorem lift_frz {i : Nat} {t : TDS} {D : Ends} {σ : Sl} {H : Hp} (q : liftS C Wx (dFrz i t) D σ H) : liftS C Wx t D σ H := by
  obtain ⟨R, ds, h, P, e, ⟨xs, hi, p⟩, k⟩ := q
  obtain ⟨R', e', m⟩ := e.frz hi
  exact ⟨R', _, h, P, e', p, k.later m⟩
theorem ds_frz {i : Nat} {st : Stmt} {t : TDS} (hs : PS X st (liftS C Wx t)) : PS X st (liftS C Wx (dFrz i t)) := hs.imD fun _ _ _ q => lift_frz q
def dIte (c : TDT) (t u : TDS) : TDS := fun ds h P => c ds h (fun b h' => if b = true then t ds h' P else u ds h' P) (fun x h' => P.ex x ds h')
theorem ds_if {c : Expr} {a b : List Stmt} {tc : TDT} {t u : TDS} {pos : Pos} (hc : PT X c (liftT C Wx tc)) (ha : PSs X a (liftS C Wx t)) (hb : PSs X b (liftS C Wx u)) : PS X (.If c a b pos) (liftS C Wx (dIte tc t u)) := (ps_if hc ha hb).imD fun D σ H q => by
  obtain ⟨R, ds, h, P, e, p, k⟩ := q
  refine ⟨R, ds, h, _, _, e, p, fun R' H' h' b p' x e' => ?_, k.exE e⟩
  cases b with
  | true => exact ⟨R', ds, h', P, e', p', k.later (x.mo e.ok)⟩
  | false => exact ⟨R', ds, h', P, e', p', k.later (x.mo e.ok)⟩
mutual
inductive Tg where
  | nm (i : Nat)
  | tp (ts : Tgs)
inductive Tgs where
  | nil
  | cons (t : Tg) (ts : Tgs)
end
mutual
def Tg.slots : Tg → List Nat
  | .nm i => [i]
  | .tp ts => ts.slots
def Tgs.slots : Tgs → List Nat
  | .nil => []
  | .cons t ts => t.slots ++ ts.slots
end
def Tgs.len : Tgs → Nat
  | .nil => 0
  | .cons _ ts => ts.len + 1
mutual
def Tg.put : Tg → D → DSt → (DSt → Prop) → Prop
  | .nm i, d, ds, P => P (ds.set i (some (.d d)))
  | .tp ts, d, ds, P => ∃ xs, d = .tup xs ∧ xs.length = ts.len ∧ ts.put xs ds P
def Tgs.put : Tgs → List D → DSt → (DSt → Prop) → Prop
  | .nil, xs, ds, P => xs = [] ∧ P ds
  | .cons t ts, xs, ds, P => ∃ x r, xs = x :: r ∧ t.put x ds fun ds' => ts.put r ds' P
end
/-- the slots but some are as they were -/
def Kept (l : List Nat) (σ σ' : Sl) : Prop := σ'.length = σ.length ∧ ∀ j, j ∉ l → σ'[j]? = σ[j]?
def liftG (C : Cn) (g : Tg) : TG := fun v σ H Q => ∃ R ds h d P, Env C R ds σ H h ∧ RelD C.K R H d v ∧ g.put d ds P ∧ ∀ ds' σ', Env C R ds' σ' H h → Kept g.slots σ σ' → P ds' → Q σ' H
def liftGs (C : Cn) (g : Tgs) : TGs := fun v σ H Q => ∃ R ds h d P, Env C R ds σ H h ∧ RelDs C.K R H d v ∧ g.put d ds P ∧ ∀ ds' σ', Env C R ds' σ' H h → Kept g.slots σ σ' → P ds' → Q σ' H
theorem _root_.L2.PG.imD {X : Cx} {e : Expr} {t t' : TG} (p : PG X e t) (f : ∀ v σ H Q, t' v σ H Q → t v σ H Q) : PG X e t' := ⟨fun pins s σ H v u Q I r q => p.run pins s σ H v u Q I r (f v σ H Q q)⟩
theorem _root_.L2.PGs.imD {X : Cx} {e : List Expr} {t t' : TGs} (p : PGs X e t) (f : ∀ v σ H Q, t' v σ H Q → t v σ H Q) : PGs X e t' := ⟨fun pins s σ H v u Q I r q => p.run pins s σ H v u Q I r (f v σ H Q q)⟩
theorem dg_nm {i : Nat} {x : Str} {pos : Pos} (hN : X.N.Nodup) (hi : X.N[i]? = some x) (hx : Loc X.env.scope x) (hf : X.fn x = true ∨ X.env.scope.names.lookup x = some .local) : PG X (.Name x pos) (liftG C (.nm i)) := (pg_name (i := i) hN hi hx hf).imD fun v σ H Q q => by
  obtain ⟨R, ds, h, d, P, e, r, p, k⟩ := q
  unfold Tg.put at p
  refine k _ _ (e.set i r) ⟨by simp, fun j hj => ?_⟩ p
  unfold Tg.slots at hj
  rw [List.getElem?_set_ne (fun z => hj (by simp [z]))]
theorem dgs_nil : PGs X [] (liftGs C .nil) := pgs_nil.imD fun v σ H Q q => by
  obtain ⟨R, ds, h, d, P, e, r, p, k⟩ := q
  unfold Tgs.put at p
  obtain ⟨rfl, p⟩ := p
  exact ⟨r_nil r, k ds σ e ⟨rfl, fun _ _ => rfl⟩ p⟩
theorem dgs_cons {e : Expr} {es : List Expr} {t : Tg} {ts : Tgs} (h1 : PG X e (liftG C t)) (h2 : PGs X es (liftGs C ts)) (hs : (assignEach (e :: es) X.env).map (·.2) = assign e X.env :: (assignEach es X.env).map (·.2)) : PGs X (e :: es) (liftGs C (.cons t ts)) := (pgs_cons h1 h2 hs).imD fun v σ H Q q => by
  obtain ⟨R, ds, h, d, P, e, r, p, k⟩ := q
  unfold Tgs.put at p
  obtain ⟨x, xr, rfl, p⟩ := p
  obtain ⟨v1, vr, rfl, r1, r2⟩ := r_cons r
  refine ⟨v1, vr, rfl, R, ds, h, x, _, e, r1, p, fun ds' σ' e' kp p' => ⟨R, ds', h, xr, P, e', r2, p', fun ds2 σ2 e2 kp2 p2 => k ds2 σ2 e2 ⟨kp2.1.trans kp.1, fun j hj => ?_⟩ p2⟩⟩
  unfold Tgs.slots at hj
  rw [List.mem_append, not_or] at hj
  exact (kp2.2 j hj.2).trans (kp.2 j hj.1)
theorem dg_tp {es : List Expr} {k : Nat} {ts : Tgs} {pos : Pos} (hK : C.K = X.K) (hc : X.calm = true) (h : PGs X es (liftGs C ts)) (hn : (assignEach es X.env).length = ts.len) (hst : (assignEach es X.env).findIdx? (·.1) = none) : PG X (.Tuple es k pos) (liftG C (.tp ts)) :=
  (pg_tup (n := ts.len) hc h hn hst).imD fun v σ H Q q => by
    obtain ⟨R, ds, h, d, P, e, r, p, k⟩ := q
    unfold Tg.put at p
    obtain ⟨xs, rfl, hl, p⟩ := p
    obtain ⟨a, vs, rfl, q, t⟩ := r_tup r
    exact ⟨a, vs, rfl, q.sq, by rw [← relDs_len t]; exact hl, R, ds, h, xs, P, e, t, p, k⟩
/-- target = value -/
def dAsg (g : Tg) (t : TDE) : TDS := fun ds h P => dD t ds h (fun d h' => g.put d ds fun ds' => P.nx ds' h') (fun x h' => P.ex x ds h')
theorem ds_asg {tg e : Expr} {t : TDE} {g : Tg} {pos : Pos} (he : PE X e (lift C Wx t)) (hg : PG X tg (liftG C g)) (hs : swapsWithSole [tg] e pos.line X.env = pure false) (hw : swappedStores [tg] e X.env = pure none)
    (h1 : (assignEach [tg] X.env).map (·.2) = [assign tg X.env]) : PS X (.Assign [tg] e pos) (liftS C Wx (dAsg g t)) := (ps_asg (pe_D he) hg hs hw h1).imD fun D σ H q => by
  obtain ⟨R, ds, h, P, e, p, k⟩ := q
  exact ⟨R, ds, h, _, _, e, p, fun R' H' h' d v p' x e' r => ⟨R', ds, h', d, _, e', r, p', fun ds' σ' e2 _ p2 => k.nx R' ds' σ' H' h' e2 (x.mo e.ok) p2⟩, k.exE e⟩
structure Src (C : Cn) (R : Rg) (H : Hp) (xs : List D) (J : It) : Prop where
  go : ∀ i R' H', Mo C.K R H R' H' → i < xs.length → J.go i H'
  stop : ∀ R' H', Mo C.K R H R' H' → J.stop xs.length H'
  yld : ∀ i R' H' v H2 d ds σ h, Mo C.K R H R' H' → Env C R' ds σ H' h → xs[i]? = some d → J.yld i H' v H2 → Ex R' H' R' H2 ∧ Env C R' ds σ H2 h ∧ RelD C.K R' H2 d v
abbrev TDI := DSt → Hs → (List D → Hs → Prop) → XD → Prop
def liftI (C : Cn) (Wx : WX) (t : TDI) : TI := fun σ H Q => ∃ R ds h P Z, Env C R ds σ H h ∧ t ds h P Z ∧
  (∀ R' H' h' xs J, P xs h' → Ex R H R' H' → Env C R' ds σ H' h' → Src C R' H' xs J → Q J H') ∧
  (∀ R' H' h' x cls dd, Z x h' → Ex R H R' H' → Env C R' ds σ H' h' → RelX C R' H' x cls dd → Wx cls dd σ H')
theorem _root_.L2.PI.imD {X : Cx} {tg e : Expr} {t t' : TI} (p : PI X tg e t) (f : ∀ σ H Q, t' σ H Q → t σ H Q) : PI X tg e t' := ⟨fun pins s σ H Q I q => p.run pins s σ H Q I (f σ H Q q)⟩
def dItL (t : TDE) : TDI := fun ds h P Z => dD t ds h (fun d h' => ∃ xs, (d = .lst xs ∨ d = .fro xs) ∧ P xs h') Z
def dItT (t : TDE) : TDI := fun ds h P Z => dD t ds h (fun d h' => ∃ xs, d = .tup xs ∧ P xs h') Z
def dItS (t : TDE) : TDI := fun ds h P Z => dD t ds h (fun d h' => ∃ x, d = .str x ∧ P (x.cps.toList.map fun c => .str ⟨#[c]⟩) h') Z
theorem di_lst {tg e : Expr} {t : TDE} (hK : C.K = X.K) (he : PE X e (lift C Wx t)) : PI X tg e (liftI C Wx (dItL t)) := (pi_list (pe_D he)).imD fun σ H Q q => by
  obtain ⟨R, ds, h, P, Z, e, p, k, z⟩ := q
  refine ⟨R, ds, h, _, Z, e, p, fun R' H' h' d v ⟨xs, hd, p'⟩ x e' r => ?_, z⟩
  have src : ∀ a vs, (∀ R2 H2, Mo C.K R' H' R2 H2 → SqL C.K H2 a vs) → RelDs C.K R' H' xs vs → Src C R' H' xs (Itl X.K a) := fun a vs st t => by
    rw [← hK]
    refine ⟨fun i R2 H2 m hi => ⟨vs, vs[i]'(by rw [← relDs_len t]; exact hi), st R2 H2 m, by simp⟩, fun R2 H2 m => ⟨vs, st R2 H2 m, by rw [relDs_len t]; exact Nat.le_refl _⟩, fun i R2 H2 v H3 d ds σ h m e2 hd y => ?_⟩
    obtain ⟨rfl, y⟩ := y
    obtain ⟨u, hu, ru⟩ := relDs_get t hd
    have := y vs (st R2 _ m)
    rw [hu] at this
    cases this
    exact ⟨Ex.refl _ _, e2, relD_mo m ru⟩
  rcases hd with rfl | rfl
  · obtain ⟨a, vs, rfl, q, t⟩ := r_lst r
    exact ⟨a, rfl, ⟨vs, q.sq⟩, k R' H' h' xs _ p' x e' (src a vs (fun R2 H2 m => (m.lst _ _ q).sq) t)⟩
  · obtain ⟨a, vs, rfl, q, t⟩ := r_fro r
    exact ⟨a, rfl, ⟨vs, hK ▸ q.sq⟩, k R' H' h' xs _ p' x e' (src a vs (fun R2 H2 m => (m.fro _ _ q).sq) t)⟩
theorem di_tup {tg e : Expr} {t : TDE} (hK : C.K = X.K) (he : PE X e (lift C Wx t)) : PI X tg e (liftI C Wx (dItT t)) := (pi_tup (pe_D he)).imD fun σ H Q q => by
  obtain ⟨R, ds, h, P, Z, e, p, k, z⟩ := q
  refine ⟨R, ds, h, _, Z, e, p, fun R' H' h' d v ⟨xs, hd, p'⟩ x e' r => ?_, z⟩
  subst hd
  obtain ⟨a, vs, rfl, q, t⟩ := r_tup r
  refine ⟨a, rfl, ⟨vs, q.sq⟩, k R' H' h' xs _ p' x e' ?_⟩
  rw [← hK]
  refine ⟨fun i R2 H2 m hi => ⟨vs, vs[i]'(by rw [← relDs_len t]; exact hi), (m.tup _ _ q).sq, by simp⟩, fun R2 H2 m => ⟨vs, (m.tup _ _ q).sq, by rw [relDs_len t]; exact Nat.le_refl _⟩, fun i R2 H2 v H3 d ds σ h m e2 hd y => ?_⟩
  obtain ⟨rfl, y⟩ := y
  obtain ⟨u, hu, ru⟩ := relDs_get t hd
  have := y vs (m.tup _ _ q).sq
  rw [hu] at this
  cases this
  exact ⟨Ex.refl _ _, e2, relD_mo m ru⟩
theorem di_str {tg e : Expr} {t : TDE} (he : PE X e (lift C Wx t)) : PI X tg e (liftI C Wx (dItS t)) := (pi_str (pe_D he)).imD fun σ H Q q => by
  obtain ⟨R, ds, h, P, Z, e, p, k, z⟩ := q
  refine ⟨R, ds, h, _, Z, e, p, fun R' H' h' d v ⟨s, hd, p'⟩ x e' r => ?_, z⟩
  subst hd
  refine ⟨s, r_str r, k R' H' h' _ _ p' x e' ?_⟩
  have w := walk_str (z := s)
  have hl : (s.cps.toList.map fun c => D.str ⟨#[c]⟩).length = s.cps.size := by simp
  refine ⟨fun i R2 H2 m hi => w.goes i H2 (by rw [← hl]; exact hi) trivial, fun R2 H2 m => by rw [hl]; exact w.stops H2 trivial, fun i R2 H2 v H3 d ds σ h m e2 hd y => ?_⟩
  have hi : i < s.cps.size := by rw [← hl]; exact (List.getElem?_eq_some_iff.mp hd).1
  obtain ⟨rfl, c, hc, rfl⟩ := w.yields i H2 v H3 hi trivial y
  have : D.str ⟨#[c]⟩ = d := by
    rw [List.getElem?_map] at hd
    have h2 : s.cps.toList[i]? = some c := by simpa using hc
    rw [h2] at hd
    cases hd; rfl
  subst this
  exact ⟨Ex.refl _ _, e2, m_str⟩
/-- range(n), range(a, b) -/
def rngD (lo : Int) (n : Nat) : List D := (List.range n).map fun (i : Nat) => .int (lo + (i : Int))
def dItR1 (t : TDE) : TDI := fun ds h P Z => dCons t dNil ds h (fun xs h' => ∃ j, xs = [.int j] ∧ -(2 ^ 62) ≤ j ∧ j < 2 ^ 62 ∧ P (rngD 0 j.toNat) h') Z
def dItR2 (t u : TDE) : TDI := fun ds h P Z => dCons t (dCons u dNil) ds h (fun xs h' => ∃ i j, xs = [.int i, .int j] ∧ (-(2 ^ 62) ≤ i ∧ i < 2 ^ 62 ∧ -(2 ^ 62) ≤ j ∧ j < 2 ^ 62) ∧ P (rngD i (j - i).toNat) h') Z
theorem src_rng {R : Rg} {H : Hp} {lo : Int} {n : Nat} : Src C R H (rngD lo n) (Itr lo n) := by
  have hl : (rngD lo n).length = n := by unfold rngD; simp
  refine ⟨fun i _ _ _ hi => by rw [hl] at hi; exact hi, fun _ _ _ => by rw [hl]; exact Nat.le_refl n, fun i R2 H2 v H3 d ds σ h m e2 hd y => ?_⟩
  obtain ⟨rfl, rfl⟩ := y
  have hi : i < n := by rw [← hl]; exact (List.getElem?_eq_some_iff.mp hd).1
  have : D.int (lo + (i : Int)) = d := by
    unfold rngD at hd
    rw [List.getElem?_map, List.getElem?_range hi] at hd
    cases hd; rfl
  subst this
  exact ⟨Ex.refl _ _, e2, m_int⟩
theorem di_r1 {tg a : Expr} {t : TDE} {p pos : Pos} (hg : Gl X "range") (hm : X.mg "range" = none) (ha : PE X a (lift C Wx t)) (hs : starEach [a] X.env = [(false, eval a X.env)]) : PI X tg (.Call (.Name "range" p) [a] [] pos) (liftI C Wx (dItR1 t)) :=
  (pi_range1 hg hm (da_cons ha da_nil hs) hs).imD fun σ H Q q => by
    obtain ⟨R, ds, h, P, Z, e, p, k, z⟩ := q
    refine ⟨R, ds, h, _, Z, e, p, fun R' H' h' d v ⟨j, hd, l1, l2, p'⟩ x e' r => ?_, z⟩
    subst hd
    obtain ⟨v1, vr, rfl, r1, r2⟩ := r_cons r
    cases r_nil r2
    cases r_int r1
    exact ⟨j, rfl, l1, l2, k R' H' h' _ _ p' x e' src_rng⟩
theorem di_r2 {tg a b : Expr} {t u : TDE} {p pos : Pos} (hg : Gl X "range") (hm : X.mg "range" = none) (ha : PE X a (lift C Wx t)) (hb : PE X b (lift C Wx u)) (hs : starEach [a, b] X.env = [(false, eval a X.env), (false, eval b X.env)]) (hs2 : starEach [b] X.env = [(false, eval b X.env)]) :
    PI X tg (.Call (.Name "range" p) [a, b] [] pos) (liftI C Wx (dItR2 t u)) :=
  (pi_range2 hg hm (da_cons ha (da_cons hb da_nil hs2) (by rw [hs, hs2])) hs hs2).imD fun σ H Q q => by
    obtain ⟨R, ds, h, P, Z, e, p, k, z⟩ := q
    refine ⟨R, ds, h, _, Z, e, p, fun R' H' h' d v ⟨i, j, hd, l, p'⟩ x e' r => ?_, z⟩
    subst hd
    obtain ⟨v1, vr, rfl, r1, r2⟩ := r_cons r
    obtain ⟨v2, vr, rfl, rb, r3⟩ := r_cons r2
    cases r_nil r3
    cases r_int r1
    cases r_int rb
    exact ⟨i, j, rfl, l, k R' H' h' _ _ p' x e' src_rng⟩
def forD (g : Tg) (tb : TDS) (P : DEnds) : List D → DSt → Hs → Prop
  | [], ds, h => P.nx ds h
  | x :: xs, ds, h => g.put x ds fun ds2 => tb ds2 h { P with nx := forD g tb P xs, ct := forD g tb P xs, bk := P.nx }
def dFor (ti : TDI) (g : Tg) (tb : TDS) : TDS := fun ds h P => ti ds h (fun xs h' => forD g tb P xs ds h') (fun x h' => P.ex x ds h')
theorem ds_for {tg iter : Expr} {body : List Stmt} {ti : TDI} {g : Tg} {tb : TDS} {pos : Pos} (hp : PassesOwn (model X.prog X.w) X.A X.env X.xe) (hc : X.calm = true) (hi : PI X tg iter (liftI C Wx ti)) (hg : PG X tg (liftG C g)) (hb : PSs X body (liftS C Wx tb))
    (hs : ∀ x, foldedSetIterable iter X.env x = pure x) : PS X (.For tg iter body [] pos) (liftS C Wx (dFor ti g tb)) := (ps_for hp hc hi hg hb hs).imD fun D σ H q => by
  obtain ⟨R, ds, h, P, e, p, k⟩ := q
  refine ⟨R, ds, h, _, _, e, p, fun R1 H1 h1 xs J p1 x1 e1 src => ?_, k.exE e⟩
  have m1 := x1.mo e.ok
  refine ⟨fun i m σ' H' => m = xs.length - i ∧ i ≤ xs.length ∧ ∃ R' ds' h', Env C R' ds' σ' H' h' ∧ Mo C.K R1 H1 R' H' ∧ forD g tb P (xs.drop i) ds' h', ⟨xs.length, by simp, Nat.zero_le _, R1, ds, h1, e1, Mo.refl _ _ _, by simpa using p1⟩, ?_⟩
  rintro i m σ2 H2 ⟨rfl, hle, R2, ds2, h2, e2, m2, p2⟩
  by_cases hlt : i < xs.length
  · right
    rw [List.drop_eq_getElem_cons hlt] at p2
    refine ⟨src.go i R2 H2 m2 hlt, fun σ' H' => ∃ R' ds' h', Env C R' ds' σ' H' h' ∧ Mo C.K R1 H1 R' H' ∧ forD g tb P (xs.drop (i + 1)) ds' h', fun σ' H' ⟨R', ds', h', e', mm, p'⟩ => ⟨xs.length - (i + 1), by omega, rfl, hlt, R', ds', h', e', mm, p'⟩, fun v H3 y => ?_⟩
    obtain ⟨x3, e3, r3⟩ := src.yld i R2 H2 v H3 xs[i] ds2 σ2 h2 m2 e2 (List.getElem?_eq_getElem hlt) y
    have m3 := m2.trans (x3.mo e2.ok)
    unfold forD at p2
    refine ⟨R2, ds2, h2, _, _, e3, r3, p2, fun ds4 σ4 e4 _ p4 => ⟨R2, ds4, h2, _, e4, p4, ⟨fun R' ds' σ' H' h' e' mm p' => ⟨R', ds', h', e', m3.trans mm, p'⟩, fun R' ds' σ' H' h' e' mm p' => k.nx R' ds' σ' H' h' e' (m1.trans (m3.trans mm)) p',
      fun R' ds' σ' H' h' e' mm p' => ⟨R', ds', h', e', m3.trans mm, p'⟩, k.rt, fun R' ds' σ' H' h' x cls dd e' mm r p' => k.ex R' ds' σ' H' h' x cls dd e' (m1.trans (m3.trans mm)) r p'⟩⟩⟩
  · left
    have ei : i = xs.length := by omega
    subst ei
    rw [List.drop_length] at p2
    exact ⟨src.stop R2 H2 m2, k.nx R2 ds2 σ2 H2 h2 e2 (m1.trans m2) p2⟩
end
end DL
set_option maxHeartbeats 4000000
namespace DL
open PySem PySem.Spec PyProof.Rows L2
/-- classes that are raised in except suites -/
def hotN : List Str := ["InvalidPaper", "InvalidRow", "InvalidEvent"]
def cold (K : PySem.W.Frag) : Value → Bool
  | .ref C => match K.lookup C with
    | some ⟨_, _, .cls cd, _⟩ => !hotN.contains cd.name
    | _ => true
  | _ => true
abbrev onlyB (K : PySem.W.Frag) (b : Bool) (W : WX) : WX := fun c d σ H => cold K c = b ∧ W c d σ H
/-- an exception in the air of X -/
def XE (X : Cx) (W : WX) (u : Value) (s' : Shared) : Prop := L2.XE X (onlyB X.K false W) u s' ∨ L2N.XE X (onlyB X.K true W) u s'
def Takes (X : Cx) (W : WX) : Prop := ∀ u s', XE X W u s' → X.xe u s'
theorem Takes.hot {X : Cx} {W : WX} (t : Takes X W) : L2.Takes X (onlyB X.K false W) := fun u s' x => t u s' (.inl x)
theorem Takes.cold {X : Cx} {W : WX} (t : Takes X W) : L2N.Takes X (onlyB X.K true W) := fun u s' x => t u s' (.inr x)
theorem Takes.imp {X : Cx} {W W' : WX} (t : Takes X W) (h : ∀ c d σ H, W' c d σ H → W c d σ H) : Takes X W' := fun u s' x => by
  rcases x with x | x
  · exact t.hot.imp (fun c d σ H q => ⟨q.1, h _ _ _ _ q.2⟩) u s' x
  · exact t.cold.imp (fun c d σ H q => ⟨q.1, h _ _ _ _ q.2⟩) u s' x
/-- behind a call that let an exception out -/
def CX (K : PySem.W.Frag) (P : Program) (w : World) : CXT := fun outer H s E u s' =>
  L2.CX P w outer H s (fun c d H' => DL.cold K c = false ∧ E c d H') u s' ∨ L2N.CX P w outer H s (fun c d H' => DL.cold K c = true ∧ E c d H') u s'
section
variable {X : Cx} {pins : List (Addr × Obj)} {σ : Sl} {H : Hp} {s s' : Shared} {W : WX} {E : XK}
theorem XE.of_call (I : Inv X pins σ H s) (hW : ∀ cls d H', E cls d H' → W cls d σ H') {u : Value} (c : CX X.K X.prog X.w X.stack H s E u s') : XE X W u s' := by
  rcases c with c | c
  · exact .inl (L2.XE.of_call I (fun cls d H' q => ⟨q.1, hW _ _ _ q.2⟩) c)
  · exact .inr (L2N.XE.of_call I (fun cls d H' q => ⟨q.1, hW _ _ _ q.2⟩) c)
theorem takes_of (hs : X.stack = X.env :: X.outer) (hf : X.env.frame = some X.env.locals) (hex : X.ex = []) {E₁ : Value → Shared → Prop}
    (hx : X.xe = fun e s' => wpAny (model X.prog X.w) X.A (leaving X.env e) (fun _ s'' => CX X.K X.prog X.w X.outer X.H_0 X.s_0 E e s'') E₁ s') : Takes X (fun cls d _ H => E cls d H) := fun u s' x => by
  rw [hx]
  rcases x with x | x
  · exact wpAny_mono (L2.XE.leave (E₁ := E₁) (E := fun c d H' => DL.cold X.K c = false ∧ E c d H') hs hf hex (fun _ _ _ _ q => q) x) (fun _ _ q => .inl q) fun _ _ q => q
  · exact wpAny_mono (L2N.XE.leave (E₁ := E₁) (E := fun c d H' => DL.cold X.K c = true ∧ E c d H') hs hf hex (fun _ _ _ _ q => q) x) (fun _ _ q => .inr q) fun _ _ q => q
/-- an expression that makes an exception: its record has its fields, no context -/
abbrev PMk (X : Cx) (e : Expr) (t : Sl → Hp → XK → Prop) : Prop := L2H.PMk5 X e t
theorem mkP_zc {X : Cx} {pins : List (Addr × Obj)} {σ : Sl} {Q : XK} {u : Value} {s' : Shared} (h : L2N.MkP X pins σ Q u s') : L2.MkP X pins σ Q u s' := by
  obtain ⟨a, oe, vs, sI, H', cls, d, e, J, k, hne, ha, hz, r⟩ := h
  exact ⟨a, oe, vs, sI, H', cls, d, e, J, k, hne, ha, hz.zc, r⟩
theorem mkP_mono {X : Cx} {pins : List (Addr × Obj)} {σ : Sl} {Q Q' : XK} {u : Value} {s' : Shared} (h : L2N.MkP X pins σ Q u s') (m : ∀ c d H', Q c d H' → Q' c d H') : L2N.MkP X pins σ Q' u s' := by
  obtain ⟨a, oe, vs, sI, H', cls, d, e, J, k, hne, ha, hz, r1, r2, r3, r4, r5, r6, q⟩ := h
  exact ⟨a, oe, vs, sI, H', cls, d, e, J, k, hne, ha, hz, r1, r2, r3, r4, r5, r6, m _ _ _ q⟩
theorem ps_raiseC {W : WX} {e : Expr} {t : Sl → Hp → XK → Prop} {pos : Pos} (C : Value) (hc : X.calm = true) (tk : Takes X W) (he : PMk X e t) :
    PS X (.Raise (some e) none pos) (fun _ σ H => t σ H fun cls d H' => cls = C ∧ W cls d σ H') := by
  have he2 : L2N.PMk X e (fun σ H Q' => t σ H (fun cls d H' => cls = C ∧ W cls d σ H') ∧ ∀ c d H', (c = C ∧ W c d σ H') → Q' c d H') := fun pins s σ H Q I q => thn (he pins s σ H _ I q.1) fun _ _ x => mkP_mono x.1 q.2
  cases hC : DL.cold X.K C with
  | true => exact (L2N.ps_raise hc tk.cold he2).imD fun D σ H q => ⟨q, fun c d H' q => ⟨by rw [q.1]; exact hC, q.2⟩⟩
  | false => exact (L2.ps_raise hc tk.hot fun pins s σ H Q I q => thn (he2 pins s σ H Q I q) fun _ _ x => mkP_zc x).imD fun D σ H q => ⟨q, fun c d H' q => ⟨by rw [q.1]; exact hC, q.2⟩⟩
end
end DL
set_option maxHeartbeats 4000000
namespace DL
open PySem PySem.Spec PyProof.Rows L2
abbrev Gd (gd : Bool) (A : Around) : Prop := gd = true → A.guards = some []
structure FnG (P : Program) (w : World) (K : Fg) (mg : Str → Option Value) (base : Heap) (gd : Bool) (k : Nat) (f : Addr) (fd : FuncData) (ps : List Str) (sp : Sp) : Prop where
  len : ∀ vs H Q E, sp vs H Q E → vs.length = ps.length
  run : ∀ (A : Around) (outer : List PySem.Env) (s : Shared) (H : Hp) (args : Args) (us : List Value) (vs : List V) (Q : VK) (E : XK), Room k A → Gd gd A → Env0 P w K mg base A outer s H → BindsTo s fd args (ps.zip us) →
    Vals vs us → sp vs H Q E → codeAny (model P w) A (.call (.ref f) args) (CR (CX K P w) outer P w H s Q E) s
section
variable {P : Program} {w : World} {K : Fg} {mg : Str → Option Value} {base : Heap} {gd : Bool}
theorem FnG.mono {j k : Nat} {f : Addr} {fd : FuncData} {ps : List Str} {sp : Sp} (F : FnG P w K mg base gd j f fd ps sp) (h : j ≤ k) : FnG P w K mg base gd k f fd ps sp :=
  ⟨F.len, fun A o s H a us vs Q E hr => F.run A o s H a us vs Q E (hr.mono h)⟩
theorem FnG.imp {k : Nat} {f : Addr} {fd : FuncData} {ps : List Str} {sp sp' : Sp} (F : FnG P w K mg base gd k f fd ps sp) (h : ∀ vs H Q E, sp' vs H Q E → sp vs H Q E) : FnG P w K mg base gd k f fd ps sp' :=
  ⟨fun vs H Q E q => F.len vs H Q E (h _ _ _ _ q), fun A o s H a us vs Q E hr hg e0 hb r q => F.run A o s H a us vs Q E hr hg e0 hb r (h _ _ _ _ q)⟩
/-- a def of the text, by its body -/
theorem fnG_of {k : Nat} {f : Addr} {name qual : Str} {params : Arguments} {body : List Stmt} {scope : Scope} {dV kV doc pm cdv ct oc : Value} {an od : Option Addr} {osl : Array (Option Value)} {N ps : List Str} {sp : Sp}
    (lk : K.lookup f = some ⟨oc, od, .func (PySem.W.fnOf name qual params body scope dV kV doc pm an cdv ct), osl⟩) (hcd : PySem.W.codeIn K cdv qual = true) (S : FnScope N ps scope) (len : ∀ vs H Q E, sp vs H Q E → vs.length = ps.length)
    (hbody : ∀ (A : Around) (outer : List PySem.Env) (s : Shared) (H : Hp) (vs : List V) (Q : VK) (E : XK), Room k (A.deeper (envOfC qual scope s.heap.objs.size f cdv)) → Gd gd A → sp vs H Q E →
      ∃ t, PSs (cxOf (CX K P w) P w K mg base N qual scope f cdv A outer s H E) body t ∧ t { nx := fun _ H' => Q .non H', rt := Q } (start N vs) H) :
    FnG P w K mg base gd (k + 1) f (PySem.W.fnOf name qual params body scope dV kV doc pm an cdv ct) ps sp := by
  refine ⟨len, fun A outer s H args us vs Q E hr hgd e0 hb rv hsp => ?_⟩
  have kin : K.In s.heap := e0.mod.kin.keeps fun b o q => (e0.bs b o q).1
  have nol : s.heap.NoLimit := e0.mod.nolimit.keeps fun b o q => (e0.bs b o q).1
  have kinds : ∀ y ∈ ps.zip us, scope.names.lookup y.1 = some .local ∨ (scope.names.lookup y.1 = some .cell ∧ ((cellsFrom (s.heap.objs.size + 1) scope.names []).lookup y.1).isSome = true) := by
    rintro ⟨n, v⟩ hy
    rcases S.par n (List.of_mem_zip hy).1 with z | z
    · exact Or.inl z
    · exact Or.inr ⟨z, PySem.W.cellsFrom_some _ _ _ (Or.inl z)⟩
  refine codeAny_call_function hr.depth (kin _ _ lk) rfl S.co S.gen rfl (PySem.W.codeRec_of kin hcd) (hb _ _ _ _ ?_)
  refine wpAny_newFunctionEnv_cells S.kind kinds fun env henv s1 x1 => ?_
  subst henv
  refine ⟨nol.keeps x1.toInCall.keep, codeAny_func ?_⟩
  obtain ⟨t, pt, qt⟩ := hbody A outer s H vs Q E (hr.deeper _) hgd hsp
  have inv := inv_start (CX := CX K P w) (P := P) (w := w) (K := K) (mg := mg) (base := base) (N := N) (qual := qual) (f := f) (cd := cdv) (A := A) (outer := outer) (H := H) (E := E) S hr.hd e0 (len _ _ _ _ hsp) rv x1
  refine wpAny_mono (pt.run [] s1 (start N vs) H _ inv qt) (fun fl s' z => ?_) fun _ _ z => z
  cases fl with
  | ret u => obtain ⟨v, σ', H', J, r, q⟩ := z; exact ⟨v, H', J.os, J.bare, J.base, J.hok, r, q⟩
  | next => obtain ⟨σ', H', J, q⟩ := z; exact ⟨.non, H', J.os, J.bare, J.base, J.hok, rfl, q⟩
  | brk => obtain ⟨_, _, _, q⟩ := z; exact q.elim
  | cont => obtain ⟨_, _, _, q⟩ := z; exact q.elim
end
section
variable {X : Cx} {gd : Bool} {k : Nat} {f : Addr} {fd : FuncData} {ps : List Str} {sp : Sp} {Wx : WX}
/-- the wish of exceptions at these slots -/
def atS (Wx : WX) (σ : Sl) : XK := fun cls d H => Wx cls d σ H
theorem run_fnG {pins : List (Addr × Obj)} {σ : Sl} {H : Hp} {s : Shared} {Q : VK} {args : Args} {us : List Value} {vs : List V} (F : FnG X.prog X.w X.K X.mg X.base gd k f fd ps sp) (hr : Room k X.A) (hg : Gd gd X.A) (tk : Takes X Wx)
    (I : Inv X pins σ H s) (hb : BindsTo s fd args (ps.zip us)) (r : Vals vs us) (q : sp vs H Q (atS Wx σ)) : codeAny (model X.prog X.w) X.A (.call (.ref f) args) (fun res s' => match res with
      | .ok (.ret u) => EP X pins σ Q u s'
      | .ok _ => False
      | .error e => X.xe e s') s := by
  refine codeAny_mono (F.run X.A X.stack s H args us vs Q (atS Wx σ) hr hg I.env0 hb r q) fun res s' z => ?_
  cases res with
  | error e => exact tk e s' (XE.of_call I (fun _ _ _ h => h) z)
  | ok fl =>
    cases fl with
    | ret u => exact I.after z
    | next => exact z.elim
    | brk => exact z.elim
    | cont => exact z.elim
def tCallG (sp : Sp) (dvs : List V) (Wx : WX) (t : TA) : TE := fun σ H Q => t σ H fun vs H1 => sp (vs ++ dvs) H1 Q (atS Wx σ)
theorem pe_callG {x : Str} {p pos : Pos} {e : Expr} {es : List Expr} {t : TA} {dvs : List V} {dl : List Value} (F : FnG X.prog X.w X.K X.mg X.base gd k f fd ps sp) (hr : Room k X.A) (hgd : Gd gd X.A) (tk : Takes X Wx) (hg : Gl X x) (hm : X.mg x = some (.ref f)) (hk : PySem.W.keepIn X.K (.ref f) = true)
    (hb : Binds X.K fd ps dl) (hd : Vals dvs dl) (ha : PA X (e :: es) t) (hdb : (x == ("__debug__" : Str)) = false) (he : starEach (e :: es) X.env = (false, eval e X.env) :: starEach es X.env) (hpl : (backTo pos (starEach es X.env)).any (·.1) = false) :
    PE X (.Call (.Name x p) (e :: es) [] pos) (tCallG sp dvs Wx t) := by
  refine ⟨fun pins s σ H Q I q => ?_⟩
  refine wpAny_Call_Name_kw (ld_glob I hg hm ?_ hdb)
  refine PySem.W.callWith_K (h₀ := X.base) I.ok.mod.kin hk (thn (ha.run pos pins s σ H _ I q) fun us s1 ⟨vs, H1, I1, r, q1⟩ => ⟨I1.kIn, ?_⟩) he hpl
  have r2 := r.append hd
  have hl : (us ++ dl).length = ps.length := by rw [← r2.length]; exact F.len _ _ _ _ q1
  refine wpAny_call (codeAny_mono (run_fnG F hr hgd tk I1 (hb s1 us I1.kIn hl) r2 q1) fun res s' z => ?_)
  cases res with
  | error e => exact z
  | ok fl =>
    cases fl with
    | ret u => exact z
    | next => exact z.elim
    | brk => exact z.elim
    | cont => exact z.elim
end
abbrev FnD := List D → Hs → (D → Hs → Prop) → XD → Prop
def liftF (K : Fg) (Cl : Cm) (n : Nat) (f : FnD) : Sp := fun vs H Q E => ∃ R xs h P Z, HOk' K Cl R H h ∧ RelDs K R H xs vs ∧ xs.length = n ∧ f xs h P Z ∧
  (∀ R' H' h' d v, P d h' → Ex R H R' H' → HOk' K Cl R' H' h' → RelD K R' H' d v → Q v H') ∧
  (∀ R' H' h' x cls dd, Z x h' → Ex R H R' H' → HOk' K Cl R' H' h' → RelX ⟨K, Cl, R, H⟩ R' H' x cls dd → E cls dd H')
section
variable {X : Cx} {C : Cn} {Wx : WX}
def dCall (n : Nat) (f : FnD) (t : TDA) : TDE := fun ds h P Z => t ds h (fun xs h1 => xs.length = n ∧ f xs h1 (fun d h2 => P (.d d) h2) Z) Z
theorem de_call {x : Str} {p pos : Pos} {e : Expr} {es : List Expr} {t : TDA} {f : FnD} {gd : Bool} {k : Nat} {fa : Addr} {fd : FuncData} {ps : List Str} (hK : C.K = X.K) (F : FnG X.prog X.w X.K X.mg X.base gd k fa fd ps (liftF C.K C.Cl ps.length f)) (hr : Room k X.A) (hgd : Gd gd X.A) (tk : Takes X Wx) (hg : Gl X x) (hm : X.mg x = some (.ref fa)) (hk : PySem.W.keepIn X.K (.ref fa) = true)
    (hb : Binds X.K fd ps []) (ha : PA X (e :: es) (liftA C Wx t)) (hdb : (x == ("__debug__" : Str)) = false) (he : starEach (e :: es) X.env = (false, eval e X.env) :: starEach es X.env) (hpl : (backTo pos (starEach es X.env)).any (·.1) = false) :
    PE X (.Call (.Name x p) (e :: es) [] pos) (lift C Wx (dCall ps.length f t)) :=
  (pe_callG F hr hgd tk hg hm hk hb .nil ha hdb he hpl).imD fun σ H Q q => by
    obtain ⟨R, ds, h, P, Z, e, p, k, z⟩ := q
    refine ⟨R, ds, h, _, Z, e, p, fun R1 H1 h1 xs vs ⟨hl, p1⟩ x1 e1 r1 => ?_, z⟩
    refine ⟨R1, xs, h1, _, Z, e1.ok, by rw [List.append_nil]; exact r1, hl, p1, fun R2 H2 h2 d v p2 x2 ok2 r2 => ?_, fun R2 H2 h2 y cls dd p2 x2 ok2 r2 => ?_⟩
    · exact k R2 H2 h2 (.d d) v p2 (x1.trans x2) (e1.step x2 ok2) r2
    · exact z R2 H2 h2 y cls dd p2 (x1.trans x2) (e1.step x2 ok2) r2
end
/-- a body's start -/
def startD (n : Nat) (xs : List D) : DSt := xs.map (fun d => some (.d d)) ++ List.replicate (n - xs.length) none
theorem relDs_slot {K : Fg} {R : Rg} {H : Hp} {xs : List D} {vs : List V} (r : RelDs K R H xs vs) {i : Nat} {w : W} {n : Nat} (e : (startD n xs)[i]? = some (some w)) : ∃ d v, w = .d d ∧ vs[i]? = some v ∧ RelD K R H d v := by
  unfold startD at e
  by_cases hl : i < xs.length
  · rw [List.getElem?_append_left (by simpa using hl), List.getElem?_map, List.getElem?_eq_getElem hl] at e
    cases e
    obtain ⟨v, hv, rv⟩ := relDs_get r (List.getElem?_eq_getElem hl)
    exact ⟨_, v, rfl, hv, rv⟩
  · rw [List.getElem?_append_right (by simpa using hl), List.getElem?_replicate] at e
    split at e
    · cases e
    · cases e
theorem env_start {K : Fg} {Cl : Cm} {R : Rg} {H : Hp} {h : Hs} {xs : List D} {vs : List V} {N : List Str} (ok : HOk' K Cl R H h) (r : RelDs K R H xs vs) : Env ⟨K, Cl, R, H⟩ R (startD N.length xs) (start N vs) H h where
  ok := ok
  ex := Ex.refl _ _
  len := by unfold startD L2.start; simp [relDs_len r]
  slot := fun i w q => by
    obtain ⟨d, v, rfl, hv, rv⟩ := relDs_slot r q
    refine ⟨v, ?_, rv⟩
    have hl : i < vs.length := (List.getElem?_eq_some_iff.mp hv).1
    unfold L2.start
    rw [List.getElem?_append_left (by simpa using hl), List.getElem?_map, hv]
    rfl
  nnew := fun i xs q => by obtain ⟨d, v, z, _⟩ := relDs_slot r q; cases z
  own := fun i j xs ys a q => by obtain ⟨d, v, z, _⟩ := relDs_slot r q; cases z
  own0 := fun i xs a q => by obtain ⟨d, v, z, _⟩ := relDs_slot r q; cases z
section
variable {P : Program} {w : World} {K : Fg} {mg : Str → Option Value} {base : Heap} {gd : Bool} {Cl : Cm}
/-- a def keeps its promise over trees, by its body's reading -/
theorem fnG_body {x qual : Str} {st : Stmt} {f : Addr} {fd : FuncData} {N ps : List Str} {k : Nat} {sp : FnD} {t : TDS} (F : Fun K x qual st f fd) (S : FnScope N ps (defScope st))
    (hpt : ∀ (C : Cn) (cdv : Value) (A : Around) (outer : List PySem.Env) (s : Shared) (H : Hp) (E : XK), (∃ oc od osl fd0, K.lookup f = some ⟨oc, od, .func fd0, osl⟩ ∧ fd0.code = cdv ∧ PySem.W.codeIn K cdv qual = true) → C.K = K → C.Cl = Cl → Room k (A.deeper (envOfC qual (defScope st) s.heap.objs.size f cdv)) → Gd gd A →
      PSs (cxOf (CX K P w) P w K mg base N qual (defScope st) f cdv A outer s H E) (defBody st) (liftS C (fun cls d _ H' => E cls d H') t))
    (hsp : ∀ xs h Q Z, xs.length = ps.length → sp xs h Q Z → t (startD N.length xs) h ⟨fun _ h' => Q .non h', Q, fun y _ h' => Z y h', fun _ _ => False, fun _ _ => False⟩) :
    FnG P w K mg base gd (k + 1) f fd ps (liftF K Cl ps.length sp) := by
  obtain ⟨oc, od, kV, doc, pm, an, cdv, ct, osl, rfl, lk, hcd⟩ := F.ex
  refine fnG_of lk hcd S (fun vs H Q E z => ?_) fun A outer s H vs Q E hr hg z => ?_
  · obtain ⟨R, xs, h, Pd, Z, ok, r, hl, _⟩ := z
    rw [← relDs_len r]; exact hl
  obtain ⟨R, xs, h, Pd, Z, ok, r, hl, q, k1, k2⟩ := z
  refine ⟨_, hpt ⟨K, Cl, R, H⟩ cdv A outer s H E ⟨_, _, _, _, lk, rfl, hcd⟩ rfl rfl hr hg, R, _, h, _, env_start ok r, hsp xs h _ _ hl q, ?_⟩
  exact ⟨fun R' ds σ H' h' e _ p => k1 R' H' h' .non .non p e.ex e.ok m_non, fun _ _ _ _ _ _ _ p => p.elim, fun _ _ _ _ _ _ _ p => p.elim, fun R' H' h' d v ok' x' r' p => k1 R' H' h' d v p x' ok' r',
    fun R' ds σ H' h' y cls dd e _ r' p => k2 R' H' h' y cls dd p e.ex e.ok r'⟩
end
end DL
set_option maxHeartbeats 4000000
namespace DL
open PySem PySem.Spec PyProof.Rows L2
section
variable {X : Cx} {C : Cn} {Wx : WX}
/-- x.append(e), x an own list -/
def dApp (i : Nat) (t : TDE) : TDS := fun ds h P => ∃ xs, ds[i]? = some (some (.own xs)) ∧ xs.length < sizeLine ∧ dD t ds h (fun d h' => P.nx (ds.set i (some (.own (xs ++ [d])))) h') (fun x h' => P.ex x ds h')
theorem relDs_one {K : Fg} {R : Rg} {H : Hp} {d : D} {v : V} (r : RelD K R H d v) : RelDs K R H [d] [v] := m_cons r m_nil
theorem ds_app {i : Nat} {x : Str} {e : Expr} {t : TDE} {p1 apos cpos pos : Pos} (hK : C.K = X.K) (hN : X.N[i]? = some x) (hv : Vis X.env.scope x) (hd : (x == ("__debug__" : Str)) = false) (hcd : (x == ("__classdict__" : Str)) = false) (he : PE X e (lift C Wx t))
    (hs : starEach [e] X.env = (false, eval e X.env) :: starEach [] X.env) (hline : (apos.endLine == cpos.line) = true) (hpl : (((backTo cpos (starEach [e] X.env)).all (fun x => !x.1) && (backToKw cpos (keywordEach [] X.env)).all fun x => x.1.isSome) && decide (([e].length + ([] : List Keyword).length + if ([] : List Keyword).isEmpty = true then 0 else 1) < 30)) = true) (hb : attributeBase (.Name x p1) "append" X.env (eval (.Name x p1) X.env) = eval (.Name x p1) X.env)
    (hsw : swapsWith (.Call (.Attribute (.Name x p1) "append" apos) [e] [] cpos) none pos.line X.env = pure false) :
    PS X (.Expr (.Call (.Attribute (.Name x p1) "append" apos) [e] [] cpos) pos) (liftS C Wx (dApp i t)) :=
  (ps_expr (pe_bm PySem.F.plainAttrs_list PySem.F.slot_list_append PySem.F.type_list_append mt_append (pe_var hN hv hd hcd) (pa_cons (pe_D he) pa_nil hs) hb hpl hline hs) hsw).imD fun D σ H q => by
    obtain ⟨R, ds, h, P, e, ⟨xs, hi, hl, p⟩, k⟩ := q
    obtain ⟨v, hv, a, vs, rfl, q, nf, o, tt⟩ := e.slot i _ hi
    refine ⟨.ref a, hv, .inl ⟨rfl, vs, .inl (.inl q)⟩, R, ds, h, _, _, e, p, fun R' H' h' d u p' x e' r => ?_, k.exE e⟩
    have rs := e'.relW hi hv
    obtain ⟨a', vs', ea, q', nf', o', tt'⟩ := rs
    cases ea
    obtain ⟨e2, m2⟩ := e'.wr hi hv (relDs_append tt' (relDs_one r))
    exact ⟨a, vs', u, rfl, rfl, q', by rw [← relDs_len tt']; exact hl, k.nx R' _ σ _ h' e2 ((x.mo e.ok).trans m2) p'⟩
/-- a shared list is made -/
def dNewL (t : TDA) : TDE := fun ds h P Z => t ds h (fun xs h1 => xs.length ≤ sizeLine ∧ P (.d (.ref h1.length)) (h1 ++ [.lst xs])) Z
theorem de_newL {es : List Expr} {t : TDA} {pos : Pos} (ha : PA X es (liftA C Wx t)) : PE X (.List es pos) (lift C Wx (dNewL t)) :=
  (pe_lst ha).imD fun σ H Q q => by
    obtain ⟨R, ds, h, P, Z, e, p, k, z⟩ := q
    refine ⟨R, ds, h, _, Z, e, p, fun R1 H1 h1 w1 v1 ⟨l, p1⟩ x1 e1 r1 => ⟨by rw [← relDs_len r1]; exact l, fun pp np => ?_⟩, z⟩
    obtain ⟨R2, e2, x2, ha2, hn2⟩ := e1.ha (o := .lst w1) (u := .lst v1) np ⟨v1, rfl, r1⟩
    refine k R2 _ _ _ _ p1 (x1.trans x2) e2 ?_
    unfold RelW RelD
    exact ⟨by rw [hn2]; exact Nat.lt_succ_self _, by rw [ha2]⟩
/-- o[j] = e, o a shared list -/
def dHset (to tj t : TDE) : TDS := fun ds h P => dD t ds h (fun d h1 => to ds h1 (fun o h2 => tj ds h2 (fun w h3 => ∃ n xs k j, o = .d (.ref n) ∧ w = .d (.int k) ∧ h3[n]? = some (.lst xs) ∧ ixN xs.length k = some j ∧ P.nx ds (h3.set n (.lst (xs.set j d)))) (fun x h' => P.ex x ds h')) (fun x h' => P.ex x ds h')) (fun x h' => P.ex x ds h')
theorem ds_hset {e o j : Expr} {t to tj : TDE} {tpos pos : Pos} (he : PE X e (lift C Wx t)) (ho : PE X o (lift C Wx to)) (hj : PE X j (lift C Wx tj))
    (ha : ∀ v, assign (.Subscript o j tpos) X.env v = (do
      let ov ← holding [v] (eval o X.env)
      let iv ← holding [v, ov] (eval j X.env)
      standAt tpos
      holding [v, ov, iv] (setItem ov iv v)
      release [v, ov, iv] []))
    (hs : swapsWithSole [.Subscript o j tpos] e pos.line X.env = pure false) (hw : swappedStores [.Subscript o j tpos] e X.env = pure none) (h1 : (assignEach [.Subscript o j tpos] X.env).map (·.2) = [assign (.Subscript o j tpos) X.env]) :
    PS X (.Assign [.Subscript o j tpos] e pos) (liftS C Wx (dHset to tj t)) :=
  (ps_asg (pe_D he) (pg_sub ho hj set_list ha) hs hw h1).imD fun D σ H q => by
    obtain ⟨R, ds, h, P, e, p, k⟩ := q
    refine ⟨R, ds, h, _, _, e, p, fun R1 H1 h1 d u p1 x1 e1 r1 => ?_, k.exE e⟩
    refine ⟨R1, ds, h1, _, _, e1, p1, fun R2 H2 h2 w2 v2 p2 x2 e2 r2 => ?_, (k.later (x1.mo e.ok)).exE e1⟩
    have x12 := x1.trans x2
    refine ⟨R2, ds, h2, _, _, e2, p2, fun R3 H3 h3 w3 v3 ⟨n, xs, kk, jj, ho, hw, hn, hj, p3⟩ x3 e3 r3 => ?_, (k.later (x12.mo e.ok)).exE e2⟩
    subst ho hw
    have x13 := x12.trans x3
    have rr : RelD C.K R3 H3 (.ref n) v2 := relW_ex e2.ok x3 r2
    obtain ⟨_, rfl⟩ := r_ref rr
    cases rw_int r3
    obtain ⟨uo, hu, vs, rfl, tt⟩ := e3.ok.obj n _ hn
    have rd : RelD C.K R3 H3 d u := relD_ex e1.ok (x2.trans x3) r1
    obtain ⟨e4, m4⟩ := e3.hw (o2 := .lst (xs.set jj d)) (u2 := .lst (vs.set jj u)) hn ⟨_, rfl, relDs_set jj tt rd⟩
    exact ⟨_, vs, kk, jj, rfl, rfl, hu, by rw [← relDs_len tt]; exact hj, k.nx R3 ds σ _ _ e4 ((x13.mo e.ok).trans m4) p3⟩
/-- y = x.pop(e), x an own list -/
def dPop (i j : Nat) (t : TDE) : TDS := fun ds h P => ∃ xs, ds[i]? = some (some (.own xs)) ∧ dD t ds h (fun w h1 => ∃ k q d, w = .int k ∧ -(2 ^ 63) ≤ k ∧ k < 2 ^ 63 ∧ seqIndex? k xs.length = some q ∧ xs[q]? = some d ∧
  P.nx ((ds.set i (some (.own (xs.eraseIdx q)))).set j (some (.d d))) h1) (fun x h' => P.ex x ds h')
theorem relDs_erase {K : Fg} {R : Rg} {H : Hp} : ∀ {ds : List D} {vs : List V} (i : Nat), RelDs K R H ds vs → RelDs K R H (ds.eraseIdx i) (vs.eraseIdx i)
  | [], vs, i, r => by cases r_nil r; exact m_nil
  | d :: ds, vs, i, r => by
    obtain ⟨v, q, rfl, r1, r2⟩ := r_cons r
    cases i with
    | zero => exact r2
    | succ i => exact m_cons r1 (relDs_erase i r2)
theorem ds_pop {i j : Nat} {x y : Str} {e : Expr} {t : TDE} {p1 apos cpos pos pos' : Pos} (hN : X.N[i]? = some x) (hv : Vis X.env.scope x) (hd : (x == ("__debug__" : Str)) = false) (hcd : (x == ("__classdict__" : Str)) = false)
    (hnd : X.N.Nodup) (hj : X.N[j]? = some y) (hy : Loc X.env.scope y) (hf : X.fn y = true ∨ X.env.scope.names.lookup y = some .local) (he : PE X e (lift C Wx t))
    (hs : starEach [e] X.env = (false, eval e X.env) :: starEach [] X.env) (hline : (apos.endLine == cpos.line) = true) (hpl : (((backTo cpos (starEach [e] X.env)).all (fun x => !x.1) && (backToKw cpos (keywordEach [] X.env)).all fun x => x.1.isSome) && decide (([e].length + ([] : List Keyword).length + if ([] : List Keyword).isEmpty = true then 0 else 1) < 30)) = true) (hb : attributeBase (.Name x p1) "pop" X.env (eval (.Name x p1) X.env) = eval (.Name x p1) X.env)
    (hsw : swapsWith (.Call (.Attribute (.Name x p1) "pop" apos) [e] [] cpos) (some (.Name y pos')) pos.line X.env = pure false) :
    PS X (.Assign [.Name y pos'] (.Call (.Attribute (.Name x p1) "pop" apos) [e] [] cpos) pos) (liftS C Wx (dPop i j t)) :=
  (ps_set (i := j) hnd hj hy (pe_bm PySem.F.plainAttrs_list PySem.F.slot_list_pop PySem.F.type_list_pop mt_popAt (pe_var hN hv hd hcd) (pa_cons (pe_D he) pa_nil hs) hb hpl hline hs) hsw hf).imD fun D σ H q => by
    obtain ⟨R, ds, h, P, e, ⟨xs, hi, p⟩, k⟩ := q
    obtain ⟨v, hv, a, vs, rfl, q, nf, o, tt⟩ := e.slot i _ hi
    refine ⟨.ref a, hv, .inl ⟨rfl, vs, .inl (.inl q)⟩, R, ds, h, _, _, e, p, fun R' H' h' w u ⟨kk, q, d, hw, l1, l2, sq, hx, p'⟩ x e' r => ?_, k.exE e⟩
    subst hw
    cases r_int r
    have rs := e'.relW hi hv
    obtain ⟨a', vs', ea, q', nf', o', tt'⟩ := rs
    cases ea
    obtain ⟨u2, hu2, ru2⟩ := relDs_get tt' hx
    obtain ⟨e2, m2⟩ := e'.wr hi hv (relDs_erase q tt')
    exact ⟨a, vs', kk, q, u2, rfl, rfl, q', l1, l2, by rw [← relDs_len tt']; exact sq, hu2, k.nx R' _ _ _ h' (e2.set j (relD_mo m2 ru2)) ((x.mo e.ok).trans m2) p'⟩
/-- a list that no slot and no tree holds is written -/
theorem Env.wrP {R : Rg} {ds : DSt} {σ : Sl} {H : Hp} {h : Hs} {vs us : List V} {a : Addr} (e : Env C R ds σ H h) (q : H a = some (.lst vs)) (nf : ¬ R.fz a) (o : Out R a) (h0 : C.H₀ a = none)
    (hn : ∀ (j : Nat) ys, ds[j]? = some (some (.own ys)) → σ[j]? ≠ some (some (.ref a))) : Env C R ds σ (upd H a (.lst us)) h ∧ Mo C.K R H R (upd H a (.lst us)) := by
  have m : Mo C.K R H R (upd H a (.lst us)) := Mo.wr q nf
  refine ⟨⟨⟨e.ok.len, fun j o' hj => ?_, e.ok.inj, e.ok.nfz, fun b z => ?_, tabs_wr q (fun _ => HO.noConfusion) (fun _ => HO.noConfusion) e.ok.tab⟩, ⟨e.ex.le, e.ex.at_, e.ex.fz, e.ex.nat, e.ex.nfz, fun b u q1 o1 n1 => ?_, fun b q1 => ?_, fun b o' u' q1 => by rw [upd_ne (fun y => by subst y; rw [h0] at q1; cases q1)]; exact e.ex.lk b o' u' q1⟩, e.len, fun j w q1 => ?_, e.nnew, e.own, e.own0⟩, m⟩
  · obtain ⟨u, e2, r2⟩ := e.ok.obj j o' hj
    have hjn : j < R.n := by rw [← e.ok.len]; exact (List.getElem?_eq_some_iff.mp hj).1
    exact ⟨u, by rw [upd_ne (o j hjn)]; exact e2, relO_mo m r2⟩
  · obtain ⟨ws, e2⟩ := e.ok.fzd b z
    exact ⟨ws, by rw [upd_ne (show b ≠ a from fun y => nf (by rw [← y]; exact z))]; exact e2⟩
  · rw [upd_ne (fun y => by subst y; rw [h0] at q1; cases q1)]
    exact e.ex.frm b u q1 o1 n1
  · by_cases y : b = a
    · subst y; exact h0
    · rw [upd_ne y] at q1; exact e.ex.dom b q1
  · obtain ⟨v2, s2, r2⟩ := e.slot j w q1
    refine ⟨v2, s2, ?_⟩
    cases w with
    | d y => exact relD_mo m r2
    | new zs => exact absurd q1 (e.nnew j zs)
    | fn _ => exact r2
    | own zs =>
      obtain ⟨b, ws, ev2, q2, nf2, o2, t2⟩ := r2
      subst ev2
      exact ⟨b, ws, rfl, by rw [upd_ne (fun y => hn j zs q1 (by rw [s2, y]))]; exact q2, nf2, o2, relDs_mo m t2⟩
/-- slots forgotten -/
def wipeD (ds : DSt) : List Nat → DSt
  | [] => ds
  | v :: vs => (wipeD ds vs).set v none
theorem wipeD_len (ds : DSt) : ∀ vs : List Nat, (wipeD ds vs).length = ds.length
  | [] => rfl
  | v :: vs => by unfold wipeD; rw [List.length_set, wipeD_len ds vs]
theorem wipeD_some {ds : DSt} {i : Nat} {w : W} : ∀ {vs : List Nat}, (wipeD ds vs)[i]? = some (some w) → ds[i]? = some (some w) ∧ i ∉ vs
  | [], e => ⟨e, by simp⟩
  | v :: vs, e => by
    unfold wipeD at e
    by_cases hi : v = i
    · subst hi
      by_cases hv : v < (wipeD ds vs).length
      · rw [List.getElem?_set_self hv] at e; cases e
      · rw [List.getElem?_eq_none (by simpa using hv)] at e; cases e
    · rw [List.getElem?_set_ne hi] at e
      obtain ⟨h1, h2⟩ := wipeD_some e
      exact ⟨h1, by simp only [List.mem_cons, not_or]; exact ⟨fun z => hi z.symm, h2⟩⟩
theorem wipe_keep {σ : Sl} {i : Nat} : ∀ {vs : List Nat}, i ∉ vs → (wipe σ vs)[i]? = σ[i]?
  | [], _ => rfl
  | v :: vs, h => by
    unfold wipe
    rw [List.getElem?_set_ne (fun z => h (by simp [z]))]
    exact wipe_keep fun z => h (List.mem_cons_of_mem _ z)
theorem Env.wiped {R : Rg} {ds : DSt} {σ : Sl} {H : Hp} {h : Hs} (e : Env C R ds σ H h) (vs : List Nat) : Env C R (wipeD ds vs) (wipe σ vs) H h where
  ok := e.ok
  ex := e.ex
  len := by rw [wipeD_len, wipe_length]; exact e.len
  slot := fun i w q => by
    obtain ⟨q1, q2⟩ := wipeD_some q
    rw [wipe_keep q2]
    exact e.slot i w q1
  nnew := fun i xs q => e.nnew i xs (wipeD_some q).1
  own := fun i j xs ys a q1 s1 q2 s2 => by
    obtain ⟨a1, a2⟩ := wipeD_some q1
    obtain ⟨b1, b2⟩ := wipeD_some q2
    rw [wipe_keep a2] at s1
    rw [wipe_keep b2] at s2
    exact e.own i j xs ys a a1 s1 b1 s2
  own0 := fun i xs a q1 s1 => by
    obtain ⟨a1, a2⟩ := wipeD_some q1
    rw [wipe_keep a2] at s1
    exact e.own0 i xs a a1 s1
theorem wipe_none {σ : Sl} {i : Nat} : ∀ {vs : List Nat}, i ∈ vs → i < σ.length → (wipe σ vs)[i]? = some none
  | [], h, _ => by simp at h
  | v :: vs, h, hl => by
    unfold wipe
    by_cases hi : v = i
    · subst hi; rw [List.getElem?_set_self (by rw [wipe_length]; exact hl)]
    · rw [List.getElem?_set_ne hi]
      exact wipe_none (by rcases List.mem_cons.mp h with z | z; exact absurd z.symm hi; exact z) hl
theorem wipe_kept {σ σ' : Sl} {vs l : List Nat} (k : Kept l (wipe σ vs) σ') (hl : ∀ i ∈ l, i ∈ vs) : wipe σ' vs = wipe σ vs := by
  apply List.ext_getElem?
  intro i
  have len : σ'.length = σ.length := by rw [k.1, wipe_length]
  by_cases hi : i ∈ vs
  · by_cases hb : i < σ.length
    · rw [wipe_none hi (by rw [len]; exact hb), wipe_none hi hb]
    · rw [List.getElem?_eq_none (by rw [wipe_length]; omega), List.getElem?_eq_none (by rw [wipe_length]; omega)]
  · rw [wipe_keep hi, k.2 i (fun z => hi (hl i z)), wipe_keep hi]
def noX : XD := fun _ _ => False
def noW : WX := fun _ _ _ _ => False
/-- the items in turn; what is kept -/
def lcD (ds : DSt) (vs : List Nat) (g : Tg) (tt : TDT) (te : TDE) (P : List D → Hs → Prop) : List D → List D → Hs → Prop
  | [], acc, h => P acc h
  | x :: xs, acc, h => g.put x (wipeD ds vs) fun ds2 => tt ds2 h (fun b h2 => if b = true then dD te ds2 h2 (fun y h3 => acc.length < sizeLine ∧ lcD ds vs g tt te P xs (acc ++ [y]) h3) noX else lcD ds vs g tt te P xs acc h2) noX
def dLc (ti : TDI) (g : Tg) (tt : TDT) (te : TDE) (vs : List Nat) : TDE := fun ds h P Z => ti ds h (fun xs h1 => lcD ds vs g tt te (fun acc h2 => P (.new acc) h2) xs [] h1) Z
def dYes : TDT := fun _ h P _ => P true h
theorem dts_nil {X' : Cx} : PTs X' [] (liftT C noW dYes) := ⟨fun pins s σ H Q I q => pts_nil.run pins s σ H Q I (by
  obtain ⟨R, ds, h, P, Z, e, p, k, z⟩ := q
  exact k R H h true p (Ex.refl _ _) e)⟩
theorem lift_lc {ti : TDI} {g : Tg} {tt : TDT} {te : TDE} {vs : List Nat} (hv : ∀ i ∈ g.slots, i ∈ vs) {σ : Sl} {H : Hp} {Q : VK} (q : lift C Wx (dLc ti g tt te vs) σ H Q) :
    tLc (liftI C Wx ti) (liftG C g) (liftT C noW tt) (liftV C noW (dD te)) vs σ H Q := by
  obtain ⟨R, ds, h, P, Z, e, p, k, z⟩ := q
  refine ⟨R, ds, h, _, Z, e, p, fun R1 H1 h1 xs J p1 x1 e1 src => ?_, z⟩
  intro A nA
  have nf := e1.ok.nfresh nA
  have hA0 : H A = none := x1.dom A nA
  have own0 : ∀ (j : Nat) ys, ds[j]? = some (some (.own ys)) → σ[j]? ≠ some (some (.ref A)) := fun j ys hj hs => by
    obtain ⟨v0, s0, a0, vs0, ev0, q0, _⟩ := e.slot j _ hj
    rw [hs] at s0; cases s0; cases ev0; rw [hA0] at q0; cases q0
  have h0A : C.H₀ A = none := e.ex.dom A hA0
  refine ⟨fun i m H' => m = xs.length - i ∧ i ≤ xs.length ∧ ∃ R' h' acc us, Env C R' ds σ H' h' ∧ Mo C.K R1 H1 R' H' ∧ Ex R H R' H' ∧ H' A = some (.lst us) ∧ ¬ R'.fz A ∧ Out R' A ∧ RelDs C.K R' H' acc us ∧ lcD ds vs g tt te (fun acc h2 => P (.new acc) h2) (xs.drop i) acc h',
    ⟨xs.length, by simp, Nat.zero_le _, R1, h1, [], [], e1.fresh nA, (Ex.fresh nA).mo e1.ok, x1.trans (Ex.fresh nA), upd_same, nf.1, nf.2, m_nil, by simpa using p1⟩, ?_⟩
  rintro i m H2 ⟨rfl, hle, R2, h2, acc, us, e2, m2, x2, hA, nfA, oA, rA, p2⟩
  by_cases hlt : i < xs.length
  · right
    rw [List.drop_eq_getElem_cons hlt] at p2
    refine ⟨src.go i R2 H2 m2 hlt, fun H' => ∃ R' h' acc us, Env C R' ds σ H' h' ∧ Mo C.K R1 H1 R' H' ∧ Ex R H R' H' ∧ H' A = some (.lst us) ∧ ¬ R'.fz A ∧ Out R' A ∧ RelDs C.K R' H' acc us ∧ lcD ds vs g tt te (fun acc h2 => P (.new acc) h2) (xs.drop (i + 1)) acc h',
      fun H' z => ⟨xs.length - (i + 1), by omega, rfl, hlt, z⟩, fun v H3 y => ?_⟩
    obtain ⟨x3, e3, r3⟩ := src.yld i R2 H2 v H3 xs[i] ds σ h2 m2 e2 (List.getElem?_eq_getElem hlt) y
    unfold lcD at p2
    refine ⟨R2, wipeD ds vs, h2, xs[i], _, e3.wiped vs, r3, p2, fun ds4 σ4 e4 kp p4 => ⟨wipe_kept kp hv, ?_⟩⟩
    have stay : ∀ R' H', Ex R2 H3 R' H' → H' A = some (.lst us) ∧ ¬ R'.fz A ∧ Out R' A ∧ RelDs C.K R' H' acc us := fun R' H' x => by
      have hA3 : H3 A = some (.lst us) := x3.frm A _ hA oA fun _ => HO.noConfusion
      refine ⟨x.frm A _ hA3 oA fun _ => HO.noConfusion, fun z => ?_, x.out hA3 oA, relDs_ex e3.ok x (relDs_ex e2.ok x3 rA)⟩
      rcases x.nfz A z with z | z
      · exact nfA z
      · rw [hA3] at z; cases z
    refine ⟨R2, ds4, h2, _, noX, e4, p4, fun R5 H5 h5 b p5 x5 e5 => ?_, fun _ _ _ _ _ _ z => z.elim⟩
    have e5o : Env C R5 ds σ H5 h5 := e3.step x5 e5.ok
    obtain ⟨hA5, nfA5, oA5, rA5⟩ := stay R5 H5 x5
    have m5 : Mo C.K R1 H1 R5 H5 := (m2.trans (x3.mo e2.ok)).trans (x5.mo e3.ok)
    have x05 : Ex R H R5 H5 := (x2.trans x3).trans x5
    cases b with
    | false => exact ⟨R5, h5, acc, us, e5o, m5, x05, hA5, nfA5, oA5, rA5, p5⟩
    | true =>
      refine ⟨R5, ds4, h5, _, noX, e5, p5, fun R6 H6 h6 d u ⟨hl, p6⟩ x6 e6 r6 => ?_, fun _ _ _ _ _ _ z => z.elim⟩
      have e6o : Env C R6 ds σ H6 h6 := e5o.step x6 e6.ok
      have hA6 : H6 A = some (.lst us) := x6.frm A _ hA5 oA5 fun _ => HO.noConfusion
      have nfA6 : ¬ R6.fz A := fun z => by
        rcases x6.nfz A z with z | z
        · exact nfA5 z
        · rw [hA5] at z; cases z
      have oA6 := x6.out hA5 oA5
      have rA6 : RelDs C.K R6 H6 acc us := relDs_ex e5.ok x6 rA5
      obtain ⟨e7, m7⟩ := e6o.wrP (us := us ++ [u]) hA6 nfA6 oA6 h0A own0
      refine ⟨us, hA6, by rw [← relDs_len rA6]; exact hl, R6, h6, acc ++ [d], us ++ [u], e7, (m5.trans (x6.mo e5.ok)).trans m7, ?_, upd_same, nfA6, oA6, relDs_mo m7 (relDs_append rA6 (relDs_one r6)), p6⟩
      have x06 := x05.trans x6
      exact ⟨x06.le, x06.at_, x06.fz, x06.nat, x06.nfz, fun b u q1 o1 n1 => by rw [upd_ne (ne_of_none q1 hA0)]; exact x06.frm b u q1 o1 n1, fun b q1 => by
        by_cases y : b = A
        · subst y; exact hA0
        · rw [upd_ne y] at q1; exact x06.dom b q1, fun b o' u' q1 => by rw [upd_ne (ne_of_none q1 hA0)]; exact x06.lk b o' u' q1⟩
  · left
    have ei : i = xs.length := by omega
    subst ei
    rw [List.drop_length] at p2
    unfold lcD at p2
    exact ⟨src.stop R2 H2 m2, k R2 H2 h2 (.new acc) (.ref A) p2 x2 e2 ⟨A, us, rfl, hA0, hA, nfA, oA, rA⟩⟩
theorem de_lc {elt tg iter : Expr} {ifs : List Expr} {scope : Scope} {own : List (Str × Nat)} {pos : Pos} {ti : TDI} {g : Tg} {tt : TDT} {te : TDE} (hc : X.calm = true) (hN : X.N.Nodup) (hi : PI X tg iter (liftI C Wx ti)) (ok : BlkOk X.N X.env.scope scope own)
    (hg : ∀ (s : Shared) (H : Hp) (A : Addr) (cl : List (Str × Addr)) (fp : List Addr), PG (X.blk s H scope (compEnvC scope cl A X.env) fp) tg (liftG C g)) (ht : ∀ (s : Shared) (H : Hp) (A : Addr) (cl : List (Str × Addr)) (fp : List Addr), PTs (X.blk s H scope (compEnvC scope cl A X.env) fp) ifs (liftT C noW tt))
    (he : ∀ (s : Shared) (H : Hp) (A : Addr) (cl : List (Str × Addr)) (fp : List Addr), PE (X.blk s H scope (compEnvC scope cl A X.env) fp) elt (lift C noW te)) (hv : ∀ i ∈ g.slots, i ∈ own.map (·.2)) (hs : ∀ x, foldedSetIterable iter X.env x = pure x) :
    PE X (.ListComp elt [⟨tg, iter, ifs, 0⟩] scope pos) (lift C Wx (dLc ti g tt te (own.map (·.2)))) :=
  (pe_lc hc hN hi ok hg ht (fun s H A cl fp => pe_D (he s H A cl fp)) hs).imD fun σ H Q q => lift_lc hv q
/-- name = [..] on one line: a tree, or an own list -/
theorem ds_setLc {own? : Bool} {i : Nat} {y : Str} {py : Pos} {elt tg iter : Expr} {ifs : List Expr} {scope : Scope} {own : List (Str × Nat)} {pos spos : Pos} {ti : TDI} {g : Tg} {tt : TDT} {te : TDE} (hc : X.calm = true) (hN : X.N.Nodup) (hy : X.N[i]? = some y) (hyl : X.env.scope.names.lookup y = some .local)
    (hsw : swapsWith (.ListComp elt [⟨tg, iter, ifs, 0⟩] scope pos) (some (.Name y py)) spos.line X.env = pure true) (hi : PI X tg iter (liftI C Wx ti)) (ok : BlkOk X.N X.env.scope scope own)
    (hg : ∀ (s : Shared) (H : Hp) (A : Addr) (cl : List (Str × Addr)) (fp : List Addr), PG (X.blk s H scope (compEnvC scope cl A X.env) fp) tg (liftG C g)) (ht : ∀ (s : Shared) (H : Hp) (A : Addr) (cl : List (Str × Addr)) (fp : List Addr), PTs (X.blk s H scope (compEnvC scope cl A X.env) fp) ifs (liftT C noW tt))
    (he : ∀ (s : Shared) (H : Hp) (A : Addr) (cl : List (Str × Addr)) (fp : List Addr), PE (X.blk s H scope (compEnvC scope cl A X.env) fp) elt (lift C noW te)) (hv : ∀ i ∈ g.slots, i ∈ own.map (·.2)) (hs : ∀ x, foldedSetIterable iter X.env x = pure x) :
    PS X (.Assign [.Name y py] (.ListComp elt [⟨tg, iter, ifs, 0⟩] scope pos) spos) (liftS C Wx (if own? = true then dOwn i (dLc ti g tt te (own.map (·.2))) else dSet i (dLc ti g tt te (own.map (·.2))))) := by
  refine (ps_setLc (i := i) hc hN hy hyl hsw hi ok hg ht (fun s H A cl fp => pe_D (he s H A cl fp)) hs).imD fun D σ H q => ?_
  cases own? with
  | true =>
    obtain ⟨R, ds, h, P, e, p, k⟩ := q
    rw [if_pos rfl] at p
    refine lift_lc hv ⟨R, ds, h, _, _, e, p, fun R' H' h' w v ⟨xs, hw, p'⟩ x e' r => ?_, k.exE e⟩
    subst hw
    exact k.nx R' _ _ H' h' (Env.ownNew i e e' r) (x.mo e.ok) p'
  | false =>
    obtain ⟨R, ds, h, P, e, p, k⟩ := q
    rw [if_neg Bool.false_ne_true] at p
    unfold dSet dD at p
    refine lift_lc hv ⟨R, ds, h, _, _, e, p, fun R' H' h' w v ⟨d, hd, p'⟩ x e' r => ?_, k.exE e⟩
    obtain ⟨R'', x', e'', r', _⟩ := frzW e x e' r hd
    exact k.nx R'' _ _ H' h' (e''.set i r') (x'.mo e.ok) p'
end
end DL
set_option maxHeartbeats 8000000
namespace DL
open PySem PySem.Spec PyProof.Rows L2
/-- enumerate(v), one argument -/
theorem enumNew1 {v : Value} {o : Obj} {H : Heap → Prop} (B : Begins v o H) : Meets (Builtin.«enumerate.__new__» ⟨[.type "enumerate", v], []⟩) (fun _ R s => H s.heap ∧
      R (.ok (.ret (.ref (s.heap.push o).objs.size))) { s with heap := (s.heap.push o).push { cls := .type "enumerate", data := .fields #[.none, .bool false, .ref s.heap.objs.size, rawInt 0, .none, .none] } }) :=
  .of_wp fun prog w A R s z => by
    obtain ⟨hp, g, d, tk, os⟩ := s
    obtain ⟨h1, z⟩ := z
    have hsub := sub_enumerate
    have walkIt : ∀ {A' : Around} {E : Value → Shared → Prop} {Q : Value → Shared → Prop}, Q (.ref hp.objs.size) ⟨hp.push o, g, d, tk, os⟩ → wpAny (model prog w) A' (pyIter v) Q E ⟨hp, g, d, tk, os⟩ := fun y => B.iter prog w _ _ ⟨hp, g, d, tk, os⟩ _ h1 y
    wp_walk using walkIt
    refine wpAny_stack_any fun stk => wpAny_pure ?_
    split
    · rename_i c _ _ _ _ _
      cases (c == Value.type "enumerate") <;> (wp_walk using walkIt; exact ⟨_, rfl, z⟩)
    · wp_walk using walkIt
      exact ⟨_, rfl, z⟩
theorem enumCall1 {prog : Program} {w : World} {A : Around} {E : Value → Shared → Prop} {s : Shared} {v : Value} {o : Obj} {H : Heap → Prop} {Q : Value → Shared → Prop} (B : Begins v o H) (h1 : H s.heap)
    (k : ∀ h', IsEnum h' (s.heap.objs.size + 1) s.heap.objs.size 0 .none → h'.get? s.heap.objs.size = some o → h'.objs.size = s.heap.objs.size + 2 → (∀ b o, s.heap.get? b = some o → h'.get? b = some o) → Q (.ref (s.heap.objs.size + 1)) { s with heap := h' }) :
    wpAny (model prog w) A (call (.type "enumerate") [v]) Q E s := by
  refine callType_new F.called_enumerate (by decide) (F.typeCall_enumerate_1 _) (F.newCall_enumerate_1 _) (fun obj => F.args_object_init_2 obj _) F.entry_enumerate_new (enumNew1 B) ⟨h1, ?_⟩
  have sz : (s.heap.push o).objs.size = s.heap.objs.size + 1 := Heap.size_push ..
  show _ ∧ _
  rw [sz]
  have en : IsEnum ((s.heap.push o).push { cls := .type "enumerate", data := .fields #[.none, .bool false, .ref s.heap.objs.size, rawInt 0, .none, .none] }) (s.heap.objs.size + 1) s.heap.objs.size 0 .none := by
    have := Heap.get?_push_size (s.heap.push o) (o := { cls := .type "enumerate", data := .fields #[.none, .bool false, .ref s.heap.objs.size, rawInt 0, .none, .none] }) rfl
    rw [sz] at this
    exact this
  exact ⟨⟨_, en, rfl⟩, k _ en (Heap.get?_push_of_some _ (Heap.get?_push_size _ B.free)) (by rw [Heap.size_push, sz]) fun b o x => Heap.get?_push_of_some _ (Heap.get?_push_of_some _ x)⟩
/-- the tuple at a, each item in a new pair -/
def ItEt (K : Fg) (a : Addr) : It :=
  ⟨fun i H => ∃ (xs : List V) (x : V), SqT K H a xs ∧ xs[i]? = some x, fun i H v H' => ∃ T x, v = .ref T ∧ H T = none ∧ H' = upd H T (.tup [.int (i : Nat), x]) ∧ ∀ xs, SqT K H a xs → xs[i]? = some x, fun i H => ∃ xs : List V, SqT K H a xs ∧ xs.length = i⟩
theorem two_mem {b e it : Addr} (h : b ∈ [e, it]) : b = e ∨ b = it := by simpa using h
theorem turn_enumT {P : Program} {w : World} {K : Fg} {elts : List Expr} {kk : Nat} {tpos : Pos} (a e it : Addr) :
    Turn P w K (.Tuple elts kk tpos) (ItEt K a) [e, it] e (fun i h => (∃ old, IsEnum h e it ((i : Nat) : Int) old) ∧ h.IsTupleIter it a i ∧ e ≠ it ∧ a ≠ it ∧ e ≠ a) where
  mem := by simp
  obj := fun i h st b hb => by
    obtain ⟨⟨old, he⟩, ⟨o, ho, hc, hd⟩, _⟩ := st
    rcases two_mem hb with z | z
    · exact ⟨_, by rw [z]; exact he, fun v q => by cases q⟩
    · exact ⟨o, by rw [z]; exact ho, fun v q => by rw [hd] at q; cases q⟩
  keep := fun i h h' st k => by
    obtain ⟨⟨old, he⟩, hi, hn⟩ := st
    exact ⟨⟨old, k e (by simp) _ he⟩, hi.at fun o q => k it (by simp) o q, hn⟩
  item := by
    intro X hP hw hK hc i pins s σ H E I hf st hg
    subst hP hw hK
    obtain ⟨⟨old, he⟩, hit, hne, hai, hea⟩ := st
    obtain ⟨xs, x, hq, hx⟩ := hg
    obtain ⟨its, rv, p, hz⟩ := I.tuple hq
    obtain ⟨u, hu, ru⟩ := rv.get hx
    have hel : e < s.heap.objs.size := Heap.lt_size he
    have hil : it < s.heap.objs.size := by
      obtain ⟨_, q, _⟩ := hit
      exact Heap.lt_size q
    have D := Draws.tuple (prog := X.prog) (w := X.w) (A := X.A.in1) (I.ok.hd hc) it a hai its.toArray
    have hlt : i < its.toArray.size := by
      have := (List.getElem?_eq_some_iff.mp hu).1
      simpa using this
    refine wpAny_pyNext_enum_itemD D he ⟨hit, p⟩ hlt hne (by simp [hne, hea]) fun y h' tk hy ho hst' hT hsz hk => ?_
    have ey : y = u := by
      have h1 : its.toArray[i]? = some u := by simpa using hu
      have h2 : its.toArray[i]? = some y := hy
      rw [h1] at h2
      exact (Option.some.inj h2).symm
    subst ey
    refine ⟨_, rfl, wpAny_letOwnedTupleGo_enum (s := { s with heap := h', toks := tk + 1 }) ho fun h'' he' sb => ?_⟩
    have hT2 : h''.get? s.heap.objs.size = some { cls := .type "tuple", data := .seq #[.int i tk, y] } := (sb.2 _ (Nat.ne_of_gt hel)).trans hT
    have nw : ObjOk X.prog X.w (upd H s.heap.objs.size (.tup [.int (i : Nat), x])) h'' s.heap.objs.size (.tup [.int (i : Nat), x]) :=
      ⟨by show 2 ≤ sizeLine; decide, [.int i tk, y], .cons ⟨_, rfl⟩ (.cons ru .nil), ⟨_, hT2, rfl, _, rfl⟩⟩
    have J : Inv X pins σ (upd H s.heap.objs.size (.tup [.int (i : Nat), x])) { s with heap := h'', toks := tk + 1 } :=
      I.turnedNew (ch := [e, it]) (fun b ob hb q => (sb.2 b (fun z => hb (by simp [z]))).trans (hk b ob (fun z => hb (by simp [z])) (fun z => hb (by simp [z])) q)) hf (Nat.le_refl _) nw
    refine ⟨.ref s.heap.objs.size, _, J, rfl, ⟨_, x, rfl, I.hok.fresh (Nat.le_refl _), rfl, fun ys hy => by rw [I.tuple_inj hy hq]; exact hx⟩, ⟨⟨y, ?_⟩, hst'.1.at fun o q => (sb.2 it (Ne.symm hne)).trans q, hne, hai, hea⟩, fun b hb => ?_⟩
    · rw [show ((i + 1 : Nat) : Int) = (i : Int) + 1 by omega]
      exact he'
    · have lt : b < s.heap.objs.size := by
        rcases two_mem hb with z | z
        · rw [z]; exact hel
        · rw [z]; exact hil
      rw [upd_ne (Nat.ne_of_lt lt)]
      exact (hf b hb).1
  done := by
    intro X hP hw hK hc i pins s σ H E I hf st hg
    subst hP hw hK
    obtain ⟨⟨old, he⟩, hit, hne, hai, hea⟩ := st
    obtain ⟨xs, hq, hx⟩ := hg
    obtain ⟨its, rv, p, hz⟩ := I.tuple hq
    obtain ⟨f0, f1, f2, f3, f4, f5⟩ := hf it (by simp)
    have D := Draws.tuple (prog := X.prog) (w := X.w) (A := X.A.in1) (I.ok.hd hc) it a hai its.toArray
    have hsz : its.toArray.size = i := by
      have := rv.length
      rw [List.size_toArray, ← this]
      exact hx
    exact wpAny_pyNext_enum_endD D he ⟨by rw [hsz]; exact hit, p⟩ fun h' eb => ⟨rfl, I.turned (t' := s.toks) (fun b o hb q => eb b o hb q) f0 f1 f3 f4 f5⟩
  self := fun A i s Q E st h => by
    obtain ⟨⟨_, he⟩, _⟩ := st
    exact wpAny_pyIter_enum he h
/-- enumerate(e), e a tuple -/
def iEnumT (K : Fg) (ta : TA) : TI := fun σ H R => ta σ H fun vs H1 => ∃ a xs, vs = [.ref a] ∧ SqT K H1 a xs ∧ R (ItEt K a) H1
theorem pi_enumT {X : Cx} {e : Expr} {ta : TA} {p pos tpos : Pos} {elts : List Expr} {kk : Nat} (hg : Gl X "enumerate") (hm : X.mg "enumerate" = none) (ha : PA X [e] ta) (hs : starEach [e] X.env = [(false, eval e X.env)]) :
    PI X (.Tuple elts kk tpos) (.Call (.Name "enumerate" p) [e] [] pos) (iEnumT X.K ta) := by
  refine ⟨fun pins s σ H R I z => ?_⟩
  refine Call_ (ld_blt I hg hm boot_enumerate (PyProof.Rows.callWith_type1 (thn (ha.run pos pins s σ H _ I z) fun us s1 ⟨vs, H1, I1, r1, q1⟩ => ?_) hs rfl))
  obtain ⟨a, xs, rfl, hq, q⟩ := q1
  cases r1 with
  | cons r rr =>
    cases rr
    cases r
    obtain ⟨its, rv, p', hz⟩ := I1.tuple hq
    refine enumCall1 (begins_tuple a its.toArray) p' fun h' he hit hsz hk => wpAny_pyIter_enum he ?_
    have I2 : Inv X pins σ H1 { s1 with heap := h' } := I1.kept (t' := s1.toks) hk
    have al : a < s1.heap.objs.size := by
      obtain ⟨o, e1, _⟩ := p'
      exact Heap.lt_size e1
    refine ⟨s1.heap.objs.size + 1, [s1.heap.objs.size + 1, s1.heap.objs.size], _, _, H1, rfl, I2, turn_enumT a (s1.heap.objs.size + 1) s1.heap.objs.size, ⟨⟨.none, he⟩, ⟨_, hit, rfl, rfl⟩, Nat.succ_ne_self _, Nat.ne_of_lt al, ?_⟩, fun b hb => ?_, q⟩
    · intro z
      have : s1.heap.objs.size + 1 < s1.heap.objs.size := by rw [z]; exact al
      exact absurd this (Nat.not_lt.mpr (Nat.le_succ _))
    · have ge : s1.heap.objs.size ≤ b := by
        rcases two_mem hb with z | z
        · rw [z]; exact Nat.le_succ _
        · rw [z]; exact Nat.le_refl _
      exact I1.fpOk ge (I1.hok.fresh ge)
theorem vals_signs {α : Type} (f : α → Str) : ∀ (cs : List α) (vs : List Value), vs.length = cs.length → (∀ (j : Nat) (v : Value), vs[j]? = some v → ∃ c u, cs[j]? = some c ∧ v = .str (f c) u) → Vals (cs.map fun c => V.str (f c)) vs
  | [], [], _, _ => .nil
  | [], _ :: _, hl, _ => by simp at hl
  | _ :: _, [], hl, _ => by simp at hl
  | c :: cs, v :: vs, hl, h => by
    obtain ⟨c', u, h1, h2⟩ := h 0 v rfl
    cases h1
    exact .cons ⟨u, h2⟩ (vals_signs f cs vs (by simpa using hl) fun j w hj => by simpa using h (j + 1) w (by simpa using hj))
/-- list(x), x a text -/
theorem call_listS {X : Cx} (hc : X.calm = true) : CallR X (.type "list") (fun xs H Q => ∃ x : Str, xs = [.str x] ∧ x.cps.size ≤ sizeLine ∧ ∀ l, H l = none → Q (.ref l) (upd H l (.lst (x.cps.toList.map fun c => V.str ⟨#[c]⟩)))) := by
  intro pins s σ H xs us Q I r z
  obtain ⟨x, rfl, hz, q⟩ := z
  obtain ⟨u, rfl, ru⟩ := vals1 r
  obtain ⟨t, rfl⟩ := ru
  refine call_list_str (I.ok.hd hc) x t (fun h' tk acc' c' kp e hacc => ?_) hz
  have rv : Vals (x.cps.toList.map fun c => V.str ⟨#[c]⟩) acc'.toList := vals_signs (fun c => ⟨#[c]⟩) x.cps.toList acc'.toList (by simp [hacc.1]) fun j v hj => by
    obtain ⟨c, u, h1, h2⟩ := hacc.2 j v (by simpa using hj)
    exact ⟨c, u, by simpa using h1, h2⟩
  exact ⟨.ref s.heap.objs.size, _, I.laid (t' := tk) kp (Nat.le_refl _) (show ObjOk X.prog X.w _ h' _ (.lst _) from ⟨by simpa using hz, acc'.toList, c', rv, by simpa using e⟩), rfl, q _ (I.hok.fresh (Nat.le_refl _))⟩
def wListS (x : W) (Q : W → Prop) : Prop := match x with
  | .d (.str s) => s.cps.size ≤ sizeLine ∧ Q (.new (s.cps.toList.map fun c => .str ⟨#[c]⟩))
  | _ => False
def enD (xs : List D) : List D := xs.zipIdx.map fun p => .tup [.int (p.2 : Nat), p.1]
def dItE (t : TDE) : TDI := fun ds h P Z => dD t ds h (fun d h' => ∃ xs, d = .tup xs ∧ P (enD xs) h') Z
section
variable {X : Cx} {C : Cn} {Wx : WX}
theorem relDs_mkstrs {K : Fg} {R : Rg} {H : Hp} {α : Type} (f : α → Str) : ∀ (ns : List α), RelDs K R H (ns.map fun c => D.str (f c)) (ns.map fun c => V.str (f c))
  | [] => m_nil
  | n :: ns => m_cons m_str (relDs_mkstrs f ns)
theorem relDs_rev {K : Fg} {R : Rg} {H : Hp} : ∀ {ds : List D} {vs : List V}, RelDs K R H ds vs → RelDs K R H ds.reverse vs.reverse
  | [], vs, r => by cases r_nil r; exact m_nil
  | d :: ds, vs, r => by
    obtain ⟨v, q, rfl, r1, r2⟩ := r_cons r
    rw [List.reverse_cons, List.reverse_cons]
    exact relDs_append (relDs_rev r2) (relDs_one r1)
theorem de_listS {a : Expr} {ta : TDE} {p pos : Pos} (hc : X.calm = true) (hg : Gl X "list") (hm : X.mg "list" = none) (ha : PE X a (lift C Wx ta)) (he : starEach [a] X.env = (false, eval a X.env) :: starEach [] X.env) : PE X (.Call (.Name "list" p) [a] [] pos) (lift C Wx (dOp1 wListS ta)) :=
  (pe_callTy (call_listS hc) hg hm (by decide +kernel) (pa_cons ha pa_nil he) (he := he)).imD fun σ H Q q => by
    obtain ⟨R, ds, h, P, Z, e, p, k, z⟩ := q
    refine ⟨R, ds, h, _, Z, e, p, fun R1 H1 h1 w1 v1 p1 x1 e1 r1 => ?_, z⟩
    unfold wListS at p1
    split at p1
    · cases rw_str r1
      exact ⟨_, rfl, p1.1, fun l nl => k R1 _ h1 _ _ p1.2 (x1.trans (Ex.fresh nl)) (e1.fresh nl) (m_new e1 x1 nl (relDs_mkstrs _ _))⟩
    · exact p1.elim
theorem di_en {elts : List Expr} {kk : Nat} {tp : Pos} {e : Expr} {t : TDE} {p pos : Pos} (hK : C.K = X.K) (hg : Gl X "enumerate") (hm : X.mg "enumerate" = none) (ha : PE X e (lift C Wx t)) (hs : starEach [e] X.env = [(false, eval e X.env)]) : PI X (.Tuple elts kk tp) (.Call (.Name "enumerate" p) [e] [] pos) (liftI C Wx (dItE t)) :=
  (pi_enumT hg hm (pa_cons (pe_D ha) pa_nil hs) hs).imD fun σ H Q q => by
    obtain ⟨R, ds, h, P, Z, e, p, k, z⟩ := q
    refine ⟨R, ds, h, _, Z, e, p, fun R' H' h' d v ⟨xs, hd, p'⟩ x e' r => ?_, z⟩
    subst hd
    obtain ⟨a, vs, rfl, sq, t⟩ := r_tup r
    refine ⟨a, vs, rfl, sq.sq, k R' H' h' _ _ p' x e' ?_⟩
    rw [← hK]
    have hl : (enD xs).length = xs.length := by unfold enD; simp
    refine ⟨fun i R2 H2 m hi => ⟨vs, vs[i]'(by rw [← relDs_len t, ← hl]; exact hi), (m.tup _ _ sq).sq, by simp⟩, fun R2 H2 m => ⟨vs, (m.tup _ _ sq).sq, by rw [hl, relDs_len t]⟩, fun i R2 H2 v H3 d ds σ h m e2 hd y => ?_⟩
    obtain ⟨T, y, rfl, nT, rfl, hy⟩ := y
    have hi : i < xs.length := by rw [← hl]; exact (List.getElem?_eq_some_iff.mp hd).1
    have ed : d = .tup [.int (i : Nat), xs[i]] := by
      unfold enD at hd
      rw [List.getElem?_map, List.getElem?_zipIdx, List.getElem?_eq_getElem hi] at hd
      simp at hd
      exact hd.symm
    subst ed
    obtain ⟨u, hu, ru⟩ := relDs_get t (List.getElem?_eq_getElem hi)
    have := hy vs (m.tup _ _ sq).sq
    rw [hu] at this
    cases this
    refine ⟨Ex.fresh nT, e2.fresh nT, m_tup upd_same (m_cons m_int (m_cons (relD_ex e2.ok (Ex.fresh nT) (relD_mo m ru)) m_nil))⟩
end
end DL
set_option maxHeartbeats 8000000
namespace DL
open PySem PySem.Spec PyProof.Rows L2
section
variable {X : Cx} {C : Cn} {Wx : WX}
end
end DL
set_option maxHeartbeats 8000000
namespace DL
open PySem PySem.Spec PyProof.Rows L2
abbrev TDW := DSt → Hs → (List W → Hs → Prop) → XD → Prop
def dNilW : TDW := fun _ h P _ => P [] h
def dConsW (t : TDE) (u : TDW) : TDW := fun ds h P Z => t ds h (fun x h1 => u ds h1 (fun xs h2 => P (x :: xs) h2) Z) Z
section
variable {K : Fg} {R R' : Rg} {H H' H₁ : Hp}
end
section
variable {X : Cx} {C : Cn} {Wx : WX}
end
end DL
set_option maxHeartbeats 4000000
namespace DL
open PySem PySem.Spec PyProof.Rows L2
/-- a call of the lambda's function at f, at any later state -/
def ActOk (P : Program) (w : World) (K : Fg) (mg : Str → Option Value) (base : Heap) (gd : Bool) (k : Nat) (fr : List Addr) (H : Hp) (s : Shared) (f : Addr) (tl : XK → Hp → VK → Prop) : Prop :=
  ∀ (A : Around) (outer : List PySem.Env) (t : Shared) (G : Hp) (Q : VK) (E : XK), Room k A → Gd gd A → Env0 P w K mg base A outer t G → Un fr [] H G s.heap t.heap → tl E G Q →
    codeAny (model P w) A (.call (.ref f) ⟨[], []⟩) (CR (CX K P w) outer P w G t Q E) t
/-- the context of a lambda's body -/
abbrev lamCxh (X : Cx) (A : Around) (outer : List PySem.Env) (s : Shared) (H : Hp) (E : XK) (scope : Scope) (f c' : Addr) : Cx := (LamX.lamCx X A outer s H E scope f c').wish fun e s' => wpAny (model X.prog X.w) (A.deeper (LamX.lamEnv X scope s.heap.objs.size f c')) (leaving (LamX.lamEnv X scope s.heap.objs.size f c') e) (fun _ s'' => CX X.K X.prog X.w outer H s E e s'') (fun e' s'' => CX X.K X.prog X.w outer H s E e' s'') s'
section
variable {X : Cx} {pins : List (Addr × Obj)} {σ : Sl} {H : Hp} {s : Shared}
theorem act_ok {f c : Addr} {pm ctv : Value} {params : Arguments} {body : Expr} {scope : Scope} {k : Nat} {gd : Bool} {tb : XK → TE} (I : Inv X pins σ H s) (L : LamX.LamS X.env.scope scope)
    (hf : s.heap.get? f = some (PySem.W.kla_obj "<lambda>" (X.env.qual ++ "<lambda>") params body scope (cloFrom X.env.cells scope.names []) pm c ctv)) (hn : H f = none) (hfr : f ∉ frs X.stack)
    (hbd : bindArgs (PySem.W.kla_fn "<lambda>" (X.env.qual ++ "<lambda>") params body scope (cloFrom X.env.cells scope.names []) pm (.ref c) ctv) ⟨[], []⟩ = pure [])
    (hb : ∀ (A : Around) (outer : List PySem.Env) (t : Shared) (G : Hp) (E : XK), Room k (A.deeper (LamX.lamEnv X scope t.heap.objs.size f c)) → Gd gd A → PE (lamCxh X A outer t G E scope f c) body (tb E)) :
    ActOk X.prog X.w X.K X.mg X.base gd (k + 1) (frs X.stack) H s f (fun E G Q => G c = some (LamX.CodeO c (X.env.qual ++ "<lambda>")) ∧ tb E σ G Q) := by
  intro A outer t G Q E hr hg e0 un ⟨hc, ht⟩
  have ft := un.keep f _ hf hn hfr (fun z => nomatch z)
  obtain ⟨⟨oc, us, tk, oc1, oc2, oc3⟩, _⟩ := e0.hok c _ hc
  have nol : t.heap.NoLimit := e0.mod.nolimit.keeps fun b o z => (e0.bs b o z).1
  refine PySem.W.kla_callFunE hr.depth ft rfl L.co L.gen rfl ⟨c, oc, us, tk, rfl, oc1, oc2, oc3⟩ ?_
  rw [hbd]
  refine wpAny_pure (wpAny_newFunctionEnv (fun y hy => (L.own y hy).2) (fun y hy => nomatch hy) (fun g1 n1 n2 => ⟨nol.fresh _ n2, ?_⟩) L.kind)
  have kp : ∀ b o, t.heap.get? b = some o → g1.get? b = some o := fun b o z => n2.extBut b o (Nat.ne_of_lt (Heap.lt_size z)) (Heap.get?_push_of_some _ z)
  have J := LamX.lam_start2 (tk := t.toks + ([] : List (Str × Value)).length) (E := E) (f := f) (c' := c) I L e0 hr.hd un n1 kp |>.wish (fun e s' => wpAny (model X.prog X.w) (A.deeper (LamX.lamEnv X scope t.heap.objs.size f c)) (leaving (LamX.lamEnv X scope t.heap.objs.size f c) e) (fun _ s'' => CX X.K X.prog X.w outer G t E e s'') (fun e' s'' => CX X.K X.prog X.w outer G t E e' s'') s')
  refine PySem.W.kla_codeExpr (wpAny_mono ((hb A outer t G E (hr.deeper _) hg).run [] _ _ G Q J ht) (fun v s' z => ?_) fun _ _ z => z)
  obtain ⟨u, G', J', ru, zq⟩ := z
  exact ⟨u, G', J'.os, J'.bare, J'.base, J'.hok, ru, zq⟩
/-- the lambda is made: as the library's, and what was told of stays told of -/
theorem lam_mk {T : List (Addr × Str)} {cd Pt : Addr} {params : Arguments} {body : Expr} {scope : Scope} {pos : Pos} {E Q : Value → Shared → Prop} (I : Inv X pins σ H s) (TB : LamX.TabB X.base X.mg cd Pt) (hcd : X.env.code = .ref cd) (hin : (Pt, X.env.qual ++ "<lambda>") ∈ T) (hone : ∀ y ∈ T, y.1 = Pt → y.2 = X.env.qual ++ "<lambda>")
    (hT : LamX.Tabs T H) (hdf : defaultsOf params X.env = ([], [])) (hfr : ∀ y ∈ scope.names, y.2 = .free → ∃ c, X.env.cells.lookup y.1 = some c)
    (fin : ∀ (f c : Addr) (pm ctv : Value) (G : Hp) (t : Shared), Inv X pins σ G t → LamX.ExtN H G → (∀ b, G b = none → H b = none) → LamX.Tabs T G → t.heap.get? f = some (PySem.W.kla_obj "<lambda>" (X.env.qual ++ "<lambda>") params body scope (cloFrom X.env.cells scope.names []) pm c ctv) → G f = none → f ∉ frs X.stack → G c = some (LamX.CodeO c (X.env.qual ++ "<lambda>")) → Q (.ref f) t) :
    wpAny (model X.prog X.w) X.A (eval (.Lambda params body scope pos) X.env) Q E s := by
  obtain ⟨row, h1, h2, h3⟩ := hT _ hin
  refine PySem.W.kla_eval hdf ?_
  have tabAt := I.hok Pt _ h1
  have bAt : s.heap.BuiltinsAt X.mg Pt := TB.bm.keeps I.bk
  have gAt := I.mod.glob.keeps I.bk
  have cAt := TB.code.keeps I.bk
  have out : ∀ f, s.heap.objs.size ≤ f → f ∉ frs X.stack := fun f hf z => by
    rcases List.mem_cons.mp (I.stkSub _ z) with y | y
    · exact absurd (y ▸ I.lt) (Nat.not_lt.mpr hf)
    · exact I.nofs hf y
  cases look : codeAmong pos row.toList with
  | some cv =>
    obtain ⟨c, rfl, hc⟩ := h3 pos cv look
    refine PySem.W.kla_makeFunctionHit (mg := X.mg) (c := cd) (P := Pt) (ps := row) (closure_ok hfr) I.ok.glob gAt hcd cAt tabAt h2 look bAt fun ctv g tk gx gsz => ?_
    refine fin g.objs.size c ((X.mg "__name__").getD .none) ctv H _ (I.kept fun b o z => Heap.get?_push_of_some _ (gx b o z)) (LamX.ExtN.refl H) (fun _ z => z) hT (Heap.get?_push_size _ rfl) (I.hok.fresh gsz) (out _ gsz) hc
  | none =>
    refine PySem.W.kla_makeFunction (mg := X.mg) (c := cd) (P := Pt) (ps := row) (closure_ok hfr) I.ok.glob gAt hcd cAt tabAt h2 look TB.gP bAt fun c ctv g tk gx ge gl gr gt => ?_
    obtain ⟨c2, oc, us, tq, ec, g1, g2, g3⟩ := gr
    cases ec
    have sz : s.heap.objs.size ≤ g.objs.size := Nat.le_trans ge (Nat.le_of_lt gl)
    have nc : H c = none := I.hok.fresh ge
    have J := LamX.inv_table (t' := tk) (more := #[rawInt pos.line, rawInt pos.col, .ref c]) (h' := g.push (PySem.W.kla_obj "<lambda>" (X.env.qual ++ "<lambda>") params body scope (cloFrom X.env.cells scope.names []) ((X.mg "__name__").getD .none) c ctv)) I h1
      (fun b o hb z => Heap.get?_push_of_some _ (gx b o hb z)) (Heap.get?_push_of_some _ gt) ge ⟨oc, us, tq, Heap.get?_push_of_some _ g1, g2, g3⟩
    have neP : ∀ b o, H b = some o → (∀ ps, o ≠ .tbl ps) → b ≠ Pt := fun b o z n y => n row (Option.some.inj (z.symm.trans (by rw [y]; exact h1)))
    have ext : LamX.ExtN H (upd (upd H Pt (.tbl (row ++ #[rawInt pos.line, rawInt pos.col, .ref c]))) c (LamX.CodeO c (X.env.qual ++ "<lambda>"))) := fun b o z n => by
      rw [upd_ne (ne_of_none z nc), upd_ne (neP b o z n)]; exact z
    have lst : (row ++ #[rawInt pos.line, rawInt pos.col, .ref c]).toList = row.toList ++ [rawInt pos.line, rawInt pos.col, .ref c] := by simp
    have nPc : Pt ≠ c := ne_of_none h1 nc
    have nfP : g.objs.size ≠ Pt := Nat.ne_of_gt (Nat.lt_of_lt_of_le (Heap.lt_size (show s.heap.get? Pt = some _ from tabAt)) sz)
    refine fin g.objs.size c ((X.mg "__name__").getD .none) ctv _ _ J ext (fun b z => ?_) (fun y hy => ?_) (Heap.get?_push_size _ rfl) ?_ (out _ sz) upd_same
    · by_cases y1 : b = c
      · rw [y1]; exact nc
      · rw [upd_ne y1] at z
        by_cases y2 : b = Pt
        · rw [y2, upd_same] at z; cases z
        · rw [upd_ne y2] at z; exact z
    · by_cases yb : y.1 = Pt
      · rw [hone y hy yb, yb]
        refine ⟨_, by rw [upd_ne nPc, upd_same], by rw [lst]; exact PySem.TriplesOk_snoc _ _ _ _ h2, fun p cv z => ?_⟩
        rw [lst] at z
        rcases LamX.among_app _ h2 z with u | u
        · obtain ⟨c0, e1, e2⟩ := h3 p cv u
          exact ⟨c0, e1, ext _ _ e2 LamX.codeO_ne⟩
        · exact ⟨c, u, upd_same⟩
      · obtain ⟨r2, a1, a2, a3⟩ := hT y hy
        refine ⟨r2, by rw [upd_ne (ne_of_none a1 nc), upd_ne yb]; exact a1, a2, fun p cv z => ?_⟩
        obtain ⟨c0, e1, e2⟩ := a3 p cv z
        exact ⟨c0, e1, ext _ _ e2 LamX.codeO_ne⟩
    · rw [upd_ne (Nat.ne_of_gt gl), upd_ne nfP]; exact I.hok.fresh sz
abbrev ActD := Hs → (D → Hs → Prop) → XD → Prop
abbrev HFn := ActD → Hs → (D → Hs → Prop) → XD → Prop
/-- the lambda's reading over trees, at any later state: R, H: where it was made -/
def tlD (K : Fg) (Cl : Cm) (R : Rg) (H : Hp) (act : ActD) : XK → Hp → VK → Prop := fun E G Q => ∃ R' h' Pd Zd, HOk' K Cl R' G h' ∧ Ex R H R' G ∧ act h' Pd Zd ∧
  (∀ R2 G2 h2 d v, Pd d h2 → Ex R' G R2 G2 → HOk' K Cl R2 G2 h2 → RelD K R2 G2 d v → Q v G2) ∧ (∀ R2 G2 h2 x cls dd, Zd x h2 → Ex R' G R2 G2 → HOk' K Cl R2 G2 h2 → RelX ⟨K, Cl, R', G⟩ R2 G2 x cls dd → E cls dd G2)
theorem ActOk.imp {P : Program} {w : World} {K : Fg} {mg : Str → Option Value} {base : Heap} {gd : Bool} {k : Nat} {fr : List Addr} {f : Addr} {tl tl' : XK → Hp → VK → Prop} (a : ActOk P w K mg base gd k fr H s f tl) (h : ∀ E G Q, tl' E G Q → tl E G Q) : ActOk P w K mg base gd k fr H s f tl' :=
  fun A outer t G Q E hr hg e0 un z => a A outer t G Q E hr hg e0 un (h E G Q z)
def dAct (i : Nat) (a : Addr → ActD) : TDE := fun ds h P Z => ∃ f, ds[i]? = some (some (.fn f)) ∧ a f h (fun d h' => P (.d d) h') Z
def noA : Addr → ActD := fun _ _ _ _ => False
theorem de_noact {Z : Cx} {C : Cn} {Wx : WX} {e : Expr} {i : Nat} : PE Z e (lift C Wx (dAct i noA)) := ⟨fun pins s σ H Q I q => by
  obtain ⟨R, ds, h, P, Zd, e, ⟨f', hf', p⟩, k, z⟩ := q
  exact p.elim⟩
/-- a def that calls what it is handed -/
structure HoG (P : Program) (w : World) (K : Fg) (mg : Str → Option Value) (base : Heap) (gd : Bool) (k : Nat) (g : Addr) (fd : FuncData) (a : Str) (Cl : Cm) (sp : HFn) : Prop where
  run : ∀ (A : Around) (outer : List PySem.Env) (s : Shared) (H : Hp) (R : Rg) (h : Hs) (f : Addr) (o : Obj) (act : ActD) (Pd : D → Hs → Prop) (Zd : XD) (Q : VK) (E : XK), Room (k + 1) A → Gd gd A → Env0 P w K mg base A outer s H → BindsTo s fd ⟨[.ref f], []⟩ [(a, .ref f)] →
    s.heap.get? f = some o → (∃ fd', o.data = .func fd') → H f = none → f ∉ frs outer → ActOk P w K mg base gd k (frs outer) H s f (tlD K Cl R H act) → HOk' K Cl R H h → sp act h Pd Zd →
    (∀ R' H' h' d v, Pd d h' → Ex R H R' H' → HOk' K Cl R' H' h' → RelD K R' H' d v → Q v H') → (∀ R' H' h' x cls dd, Zd x h' → Ex R H R' H' → HOk' K Cl R' H' h' → RelX ⟨K, Cl, R, H⟩ R' H' x cls dd → E cls dd H') →
    codeAny (model P w) A (.call (.ref g) ⟨[.ref f], []⟩) (CR (CX K P w) outer P w H s Q E) s
section
variable {C : Cn} {Wx : WX}
def dLam (sp : HFn) (tb : TDE) : TDE := fun ds h P Z => sp (fun h' P' Z' => dD tb ds h' P' Z') h (fun d h' => P (.d d) h') Z
theorem de_lam {x a : Str} {g c Pt : Addr} {k : Nat} {gd : Bool} {fd : FuncData} {sp : HFn} {params : Arguments} {body : Expr} {scope : Scope} {tb : TDE} {p lpos pos : Pos} (hK : C.K = X.K) (F : HoG X.prog X.w C.K X.mg X.base gd (k + 1) g fd a C.Cl sp) (hr : Room (k + 2) X.A) (hgd : Gd gd X.A) (tk : Takes X Wx) (hg : Gl X x) (hm : X.mg x = some (.ref g)) (hk : PySem.W.keepIn X.K (.ref g) = true)
    (hb : Binds X.K fd [a] []) (TB : LamX.TabB X.base X.mg c Pt) (hcode : X.env.code = .ref c) (hT : (Pt, X.env.qual ++ "<lambda>") ∈ C.Cl.T) (hu : ∀ p ∈ C.Cl.T, p.1 = Pt → p.2 = X.env.qual ++ "<lambda>") (L : LamX.LamS X.env.scope scope) (hdf : defaultsOf params X.env = ([], []))
    (hbd : ∀ (q : Str) (cl : List (Str × Addr)) (pm cv ctv : Value), bindArgs (PySem.W.kla_fn "<lambda>" q params body scope cl pm cv ctv) ⟨[], []⟩ = pure [])
    (hbody : ∀ (A : Around) (outer : List PySem.Env) (t : Shared) (G : Hp) (E : XK) (f c' : Addr), Room k (A.deeper (LamX.lamEnv X scope t.heap.objs.size f c')) → Gd gd A → PE (lamCxh X A outer t G E scope f c') body (lift C (fun cls d _ G => E cls d G) tb))
    (hdb : (x == ("__debug__" : Str)) = false) : PE X (.Call (.Name x p) [.Lambda params body scope lpos] [] pos) (lift C Wx (dLam sp tb)) := by
  refine ⟨fun pins s σ H Q I q => ?_⟩
  obtain ⟨R, ds, h, Pd, Zd, e, p, kk, z⟩ := q
  refine wpAny_Call_Name_kw (ld_glob I hg hm ?_ hdb)
  refine PySem.W.callWith_K (h₀ := X.base) I.ok.mod.kin hk ?_ (by rfl) (by rfl)
  show wpAny _ _ (spliced ((false, eval (.Lambda params body scope lpos) X.env) :: backTo pos (starEach [] X.env))) _ _ s
  refine Calls.spliced_cons (lam_mk I TB hcode hT hu e.ok.tab hdf (L.has I.ok) fun f c' pm ctv H1 s1 I1 eN dm T1 hf hfn hff hco => Calls.spliced_nil ⟨I1.kIn, ?_⟩)
  have x1 : Ex R H R H1 := ⟨Nat.le_refl _, fun _ _ => rfl, fun _ y => y, fun i a b => absurd b (by omega), fun _ y => .inl y, fun b o y _ n => eN b o y n, dm, fun b o u y => eN b _ y (fun _ => HO.noConfusion)⟩
  have ok1 : HOk' C.K C.Cl R H1 h := e.ok.ex x1 (fun i hi => by
    have hl : i < h.length := by rw [e.ok.len]; exact hi
    obtain ⟨u, hu, ro⟩ := e.ok.obj i h[i] (List.getElem?_eq_getElem hl)
    rw [hu]
    refine eN _ _ hu fun ps y => ?_
    subst y
    exact shr_of ro) T1
  have e1 : Env C R ds σ H1 h := e.step x1 ok1
  have oc : ∀ R' G, HOk' C.K C.Cl R' G h → True := fun _ _ _ => trivial
  have act := act_ok (gd := gd) (k := k) (c := c') I1 L hf hfn hff (hbd _ _ _ _ _) (tb := fun E => liftV C (fun cls d _ G => E cls d G) (dD tb)) (fun A outer t G E hr hg => pe_D (hbody A outer t G E f c' hr hg))
  have act2 : ActOk X.prog X.w X.K X.mg X.base gd (k + 1) (frs X.stack) H1 s1 f (tlD C.K C.Cl R H1 (fun h' P' Z' => dD tb ds h' P' Z')) := act.imp fun E G Q' y => by
    obtain ⟨R', h', Pd', Zd', ok', x', a', k1, k2⟩ := y
    have co : Out R c' := ok1.outT hco ⟨fun _ => HO.noConfusion, fun _ => HO.noConfusion, fun _ => HO.noConfusion, fun _ _ _ => HO.noConfusion, fun _ _ => HO.noConfusion⟩
    refine ⟨x'.frm c' _ hco co LamX.codeO_ne, R', ds, h', Pd', Zd', e1.step x' ok', a', fun R2 G2 h2 d v p2 x2 e2 r2 => k1 R2 G2 h2 d v p2 x2 e2.ok r2, fun R2 G2 h2 y cls dd p2 x2 e2 r2 => k2 R2 G2 h2 y cls dd p2 x2 e2.ok r2⟩
  have e0 := I1.env0
  rw [← hK] at e0 act2
  refine wpAny_call (codeAny_mono (F.run X.A X.stack s1 H1 R h f _ _ _ Zd Q (atS Wx σ) hr hgd e0 (hb s1 [.ref f] I1.kIn rfl) hf ⟨_, rfl⟩ hfn hff act2 ok1 p (fun R' H' h' d v p2 x2 ok2 r2 => kk R' H' h' (.d d) v p2 (x1.trans x2) (e1.step x2 ok2) r2) (fun R' H' h' y cls dd p2 x2 ok2 r2 => z R' H' h' y cls dd p2 (x1.trans x2) (e1.step x2 ok2) r2)) fun r s2 y => ?_)
  cases r with
  | error er => exact tk er s2 (XE.of_call I1 (fun _ _ _ h => h) (hK ▸ y))
  | ok fl =>
    cases fl with
    | ret u => exact I1.after y
    | next => exact y.elim
    | brk => exact y.elim
    | cont => exact y.elim
end
end
end DL
set_option maxHeartbeats 4000000
namespace DL
open PySem PySem.Spec PyProof.Rows L2
section
variable {κ : Type} [DecidableEq κ]
def valD (kvs : List (κ × D)) (k : κ) : Option D := (kvs.find? fun kv => decide (kv.1 = k)).map (·.2)
def putD (kvs : List (κ × D)) (k : κ) (v : D) : List (κ × D) :=
  if (kvs.any fun kv => decide (kv.1 = k)) = true then kvs.map (fun kv => if kv.1 = k then (kv.1, v) else kv) else kvs ++ [(k, v)]
variable {K : Fg} {R : Rg} {H : Hp}
theorem relKd_val {k : κ} {d : D} : ∀ {kvs : List (κ × D)} {ks : List (κ × V)}, RelKd K R H kvs ks → valD kvs k = some d → ∃ v, valV ks k = some v ∧ RelD K R H d v
  | [], ks, r, e => by simp [valD] at e
  | (x, y) :: kvs, ks, r, e => by
    obtain ⟨v, q, rfl, r1, r2⟩ := r
    by_cases hx : x = k
    · have : some y = some d := by simpa [valD, List.find?_cons, hx] using e
      cases this
      exact ⟨v, valV_pos (p := (x, v)) hx, r1⟩
    · obtain ⟨u, e1, e2⟩ := relKd_val (k := k) (d := d) r2 (by simpa [valD, List.find?_cons, hx] using e)
      exact ⟨u, by rw [valV_neg (p := (x, v)) hx]; exact e1, e2⟩
theorem relKd_no {k : κ} : ∀ {kvs : List (κ × D)} {ks : List (κ × V)}, RelKd K R H kvs ks → valD kvs k = none → valV ks k = none
  | [], ks, r, e => by cases (show ks = [] from r); rfl
  | (x, y) :: kvs, ks, r, e => by
    obtain ⟨v, q, rfl, r1, r2⟩ := r
    by_cases hx : x = k
    · simp [valD, List.find?_cons, hx] at e
    · rw [valV_neg (p := (x, v)) hx]
      exact relKd_no r2 (by simpa [valD, List.find?_cons, hx] using e)
theorem relKd_any {k : κ} : ∀ {kvs : List (κ × D)} {ks : List (κ × V)}, RelKd K R H kvs ks → (kvs.any fun kv => decide (kv.1 = k)) = ks.any fun kv => decide (kv.1 = k)
  | [], ks, r => by cases (show ks = [] from r); rfl
  | (x, y) :: kvs, ks, r => by
    obtain ⟨v, q, rfl, r1, r2⟩ := r
    rw [List.any_cons, List.any_cons, relKd_any r2]
theorem relKd_map {k : κ} {d : D} {u : V} (rd : RelD K R H d u) : ∀ {kvs : List (κ × D)} {ks : List (κ × V)}, RelKd K R H kvs ks → RelKd K R H (kvs.map fun kv => if kv.1 = k then (kv.1, d) else kv) (ks.map fun kv => if kv.1 = k then (kv.1, u) else kv)
  | [], ks, r => by cases (show ks = [] from r); rfl
  | (x, y) :: kvs, ks, r => by
    obtain ⟨v, q, rfl, r1, r2⟩ := r
    rw [List.map_cons, List.map_cons]
    by_cases hx : x = k
    · simp only [hx, if_true]; exact ⟨u, _, rfl, rd, relKd_map rd r2⟩
    · simp only [hx, if_false]; exact ⟨v, _, rfl, r1, relKd_map rd r2⟩
theorem relKd_app {k : κ} {d : D} {u : V} (rd : RelD K R H d u) : ∀ {kvs : List (κ × D)} {ks : List (κ × V)}, RelKd K R H kvs ks → RelKd K R H (kvs ++ [(k, d)]) (ks ++ [(k, u)])
  | [], ks, r => by cases (show ks = [] from r); exact ⟨u, [], rfl, rd, rfl⟩
  | (x, y) :: kvs, ks, r => by
    obtain ⟨v, q, rfl, r1, r2⟩ := r
    exact ⟨v, _, rfl, r1, relKd_app rd r2⟩
theorem relKd_put {k : κ} {d : D} {u : V} {kvs : List (κ × D)} {ks : List (κ × V)} (r : RelKd K R H kvs ks) (rd : RelD K R H d u) : RelKd K R H (putD kvs k d) (putK ks k u) := by
  unfold putD putK
  rw [relKd_any r]
  split
  · exact relKd_map rd r
  · exact relKd_app rd r
theorem relKd_len : ∀ {kvs : List (κ × D)} {ks : List (κ × V)}, RelKd K R H kvs ks → kvs.length = ks.length
  | [], ks, r => by cases (show ks = [] from r); rfl
  | (x, y) :: kvs, ks, r => by
    obtain ⟨v, q, rfl, r1, r2⟩ := r
    simp [relKd_len r2]
theorem relKd_zip : ∀ {ks : List κ} {xs : List D} {vs : List V}, RelDs K R H xs vs → RelKd K R H (ks.zip xs) (ks.zip vs)
  | [], xs, vs, r => by simp; rfl
  | k :: ks, [], vs, r => by cases r_nil r; simp; rfl
  | k :: ks, x :: xs, vs, r => by
    obtain ⟨v, q, rfl, r1, r2⟩ := r_cons r
    exact ⟨v, _, rfl, r1, relKd_zip r2⟩
theorem merge_new : ∀ (more acc : List (Key × V)), ((acc ++ more).map (·.1)).Nodup → mergeK acc more = acc ++ more
  | [], acc, _ => by simp [mergeK]
  | (k, v) :: more, acc, h => by
    have e : putK acc k v = acc ++ [(k, v)] := by
      unfold putK
      rw [if_neg]
      intro z
      obtain ⟨p, hp, e⟩ := List.any_eq_true.mp z
      rw [List.map_append, List.nodup_append] at h
      exact h.2.2 p.1 (List.mem_map.mpr ⟨p, hp, rfl⟩) k (by simp) (of_decide_eq_true e)
    show mergeK (putK acc k v) more = _
    rw [e, merge_new more (acc ++ [(k, v)]) (by simpa using h)]
    simp
end
def keyW : W → Option Key
  | .d (.int i) => some (.inl i)
  | .d (.str x) => some (.inr x)
  | _ => none
theorem key_of {K : Fg} {R : Rg} {H H1 : Hp} {w : W} {v : V} {k : Key} (r : RelW K H1 R H w v) (e : keyW w = some k) : v = kV k := by
  unfold keyW at e
  split at e
  · cases e; exact rw_int r
  · cases e; exact rw_str r
  · cases e
section
variable {X : Cx} {C : Cn} {Wx : WX}
/-- a dict that stands apart becomes a shared one -/
theorem Env.haP {R : Rg} {ds : DSt} {σ : Sl} {H : Hp} {h : Hs} {p : Addr} {o : O} {u : HO} {k0 : List (Key × V)} (e : Env C R ds σ H h) (hp : H p = some (.dK k0)) (op : Out R p) (h0 : C.H₀ p = none) (r : RelO C.K C.Cl R H o u) :
    ∃ R', Env C R' ds σ (upd H p u) (h ++ [o]) ∧ (∀ R0 H0, Ex R0 H0 R H → H0 p = none → Ex R0 H0 R' (upd H p u)) ∧ R'.at_ h.length = p ∧ R'.n = h.length + 1 := by
  let R' : Rg := ⟨R.n + 1, fun i => if i = R.n then p else R.at_ i, R.fz⟩
  have hlt : ∀ i, i < R.n → R'.at_ i = R.at_ i := fun i hi => if_neg (Nat.ne_of_lt hi)
  have hat : R'.at_ R.n = p := if_pos rfl
  have ne : ∀ b v, H b = some v → (∀ k, v ≠ .dK k) → b ≠ p := fun b v q n z => by subst z; rw [hp] at q; cases q; exact n _ rfl
  have nfz : ¬ R.fz p := fun z => by obtain ⟨vs, q⟩ := e.ok.fzd p z; rw [hp] at q; cases q
  have x : ∀ R0 H0, Ex R0 H0 R H → H0 p = none → Ex R0 H0 R' (upd H p u) := fun R0 H0 x n0 => by
    refine ⟨Nat.le_succ_of_le x.le, fun i hi => by rw [hlt i (Nat.lt_of_lt_of_le hi x.le)]; exact x.at_ i hi, x.fz, fun i a b => ?_, x.nfz, fun b v q o1 n1 => ?_, fun b q => ?_, fun b o' u' q => by rw [upd_ne (fun y => by subst y; rw [n0] at q; cases q)]; exact x.lk b o' u' q⟩
    · have b' : i < R.n + 1 := b
      by_cases y : i = R.n
      · subst y; rw [hat]; exact n0
      · rw [hlt i (by omega)]; exact x.nat i a (by omega)
    · rw [upd_ne (fun y => by subst y; rw [n0] at q; cases q)]; exact x.frm b v q o1 n1
    · by_cases y : b = p
      · subst y; exact n0
      · rw [upd_ne y] at q; exact x.dom b q
  have m : Mo C.K R H R' (upd H p u) := by
    refine ⟨Nat.le_succ _, hlt, fun b us q => ?_, fun b us q => ⟨q.1, by rw [upd_ne (ne b _ q.2 fun _ => HO.noConfusion)]; exact q.2⟩, fun b us q => ?_, fun b o' u' q => by rw [upd_ne (ne b _ q fun _ => HO.noConfusion)]; exact q⟩
    · show upd H p u b = _
      rw [upd_ne (ne b _ q fun _ => HO.noConfusion)]; exact q
    · rcases q with ⟨o', q⟩ | q
      · exact .inl ⟨o', by rw [upd_ne (ne b _ q fun _ => HO.noConfusion)]; exact q⟩
      · exact .inr q
  refine ⟨R', ⟨⟨by show (h ++ [o]).length = R.n + 1; simp [e.ok.len], fun j o' hj => ?_, fun i j hi hj q => ?_, fun i hi z => ?_, fun b z => ?_, tabs_wr hp (fun _ => HO.noConfusion) (fun _ => HO.noConfusion) e.ok.tab⟩, x _ _ e.ex h0, e.len, fun j w q1 => ?_, e.nnew, e.own, e.own0⟩, x, by rw [e.ok.len]; exact hat, by rw [e.ok.len]⟩
  · by_cases hl : j < h.length
    · rw [List.getElem?_append_left hl] at hj
      obtain ⟨v, e2, r3⟩ := e.ok.obj j o' hj
      have hjl : j < R.n := by rw [← e.ok.len]; exact hl
      exact ⟨v, by rw [hlt j hjl, upd_ne (op j hjl)]; exact e2, relO_mo m r3⟩
    · have hb : j < (h ++ [o]).length := (List.getElem?_eq_some_iff.mp hj).1
      have ej : j = h.length := by simp at hb; omega
      subst ej
      simp at hj
      subst hj
      exact ⟨u, by rw [e.ok.len, hat]; exact upd_same, relO_mo m r⟩
  · have hi' : i < R.n + 1 := hi
    have hj' : j < R.n + 1 := hj
    by_cases a : i = R.n
    · by_cases b : j = R.n
      · omega
      · exfalso; rw [a, hat, hlt j (by omega)] at q; exact op j (by omega) q.symm
    · by_cases b : j = R.n
      · exfalso; rw [b, hat, hlt i (by omega)] at q; exact op i (by omega) q
      · rw [hlt i (by omega), hlt j (by omega)] at q; exact e.ok.inj i j (by omega) (by omega) q
  · have hi' : i < R.n + 1 := hi
    by_cases a : i = R.n
    · subst a; rw [hat] at z; exact nfz z
    · rw [hlt i (by omega)] at z; exact e.ok.nfz i (by omega) z
  · obtain ⟨vs, q⟩ := e.ok.fzd b z
    exact ⟨vs, by rw [upd_ne (ne b _ q fun _ => HO.noConfusion)]; exact q⟩
  · obtain ⟨v2, s2, r3⟩ := e.slot j w q1
    refine ⟨v2, s2, ?_⟩
    cases w with
    | d y => exact relD_mo m r3
    | new zs => exact absurd q1 (e.nnew j zs)
    | fn _ => exact r3
    | own zs =>
      obtain ⟨b, ws, ev2, q2, nf2, o2, t2⟩ := r3
      have hbp := ne b _ q2 fun _ => HO.noConfusion
      refine ⟨b, ws, ev2, by rw [upd_ne hbp]; exact q2, nf2, fun i hi z => ?_, relDs_mo m t2⟩
      have hi' : i < R.n + 1 := hi
      by_cases a : i = R.n
      · subst a; rw [hat] at z; exact hbp z.symm
      · rw [hlt i (by omega)] at z; exact o2 i (by omega) z
/-- {'a': x, ..}: a new shared dict -/
def dDic (ks : List Str) (ta : TDA) : TDE := fun ds h P Z => ta ds h (fun xs h1 => xs.length = ks.length ∧ P (.d (.ref h1.length)) (h1 ++ [.dic ((ks.map Sum.inr).zip xs)])) Z
theorem zip_fst {α β : Type} : ∀ {as : List α} {bs : List β}, bs.length = as.length → (as.zip bs).map (·.1) = as
  | [], bs, h => by simp
  | a :: as, [], h => by simp at h
  | a :: as, b :: bs, h => by simp at h; simp [zip_fst h]
theorem zip_key : ∀ {ks : List Str} {vs : List V}, (ks.map V.str).zip vs = (((ks.map Sum.inr : List Key)).zip vs).map fun kv => (kV kv.1, kv.2)
  | [], vs => by simp
  | k :: ks, [] => by simp
  | k :: ks, v :: vs => by simp [zip_key (ks := ks) (vs := vs), kV]
theorem de_dic {keys : List (Option Expr)} {values : List Expr} {trs : List (TE × TE)} {ks : List Str} {ta : TDA} {pos : Pos} (pp : PPs X pos keys values trs) (ht : ∀ σ H Q, liftA C Wx ta σ H (fun vs H' => Q ((ks.map V.str).zip vs) H') → tPairs trs σ H Q) (hall : keys.all (·.isSome) = true) (hl : keys.length = values.length) (h0 : keys ≠ []) (h15 : keys.length ≤ 15) (hk : ks.length ≤ 15) (nd : ks.Nodup) :
    PE X (.Dict keys values pos) (lift C Wx (dDic ks ta)) :=
  (pe_disp pp hall hl h0 h15).imD fun σ H Q q => by
    obtain ⟨R, ds, h, P, Z, e, p, k, z⟩ := q
    intro pp np
    have nf := e.ok.nfresh np
    refine ht σ (upd H pp (.dK [])) _ ⟨R, ds, h, _, Z, e.fresh (o := .dK []) np, p, fun R1 H1 h1 xs vs ⟨hx, p1⟩ x1 e1 r1 => ?_, fun R' H' h' x cls dd a b c d => z R' H' h' x cls dd a ((Ex.fresh (o := .dK []) np).trans b) c d⟩
    have hp1 : H1 pp = some (.dK []) := x1.frm pp _ upd_same nf.2 fun _ => HO.noConfusion
    have o1 : Out R1 pp := x1.out (o := .dK []) upd_same nf.2
    have hlen : vs.length = ks.length := by rw [← relDs_len r1]; exact hx
    refine ⟨hp1, (ks.map Sum.inr).zip vs, zip_key, by simp; omega, ?_⟩
    have nd2 : ((ks.map Sum.inr : List Key)).Nodup := by
      refine List.Pairwise.map _ (fun a b h z => h (Sum.inr.inj z)) nd
    show Q (.ref pp) (upd H1 pp (.dK (mergeK [] ((ks.map Sum.inr).zip vs))))
    rw [merge_new _ [] (by rw [List.nil_append, zip_fst (by simpa using hlen)]; exact nd2), List.nil_append]
    obtain ⟨R2, e2, x2, a2, n2⟩ := e1.haP (o := .dic ((ks.map Sum.inr).zip xs)) hp1 o1 (e.ex.dom pp np) ⟨_, rfl, relKd_zip r1⟩
    have x02 := x2 R H ((Ex.fresh (o := .dK []) np).trans x1) np
    have rr : ∀ G, RelD C.K R2 G (.ref h1.length) (.ref pp) := fun G => by
      unfold RelD
      exact ⟨by rw [n2]; omega, by rw [a2]⟩
    exact k R2 (upd H1 pp (.dK ((ks.map Sum.inr).zip vs))) _ (.d (.ref h1.length)) (.ref pp) p1 x02 e2 (rr (upd H1 pp (.dK ((ks.map Sum.inr).zip vs))))
end
end DL
set_option maxHeartbeats 4000000
namespace DL
open PySem PySem.Spec PyProof.Rows L2
theorem nostand : notAStandIn Value.none = pure () := by rfl
/-- parameters by place, no defaults -/
def posA : Arguments → Option (List Str)
  | ⟨[], as, none, [], [], none, []⟩ => if (as.map (·.arg)).Nodup then some (as.map (·.arg)) else none
  | _ => none
theorem posA_ok {p : Arguments} {ps : List Str} (h : posA p = some ps) : ∃ as : List Arg, p = ⟨[], as, none, [], [], none, []⟩ ∧ as.map (·.arg) = ps ∧ ps.Nodup := by
  unfold posA at h
  split at h
  · split at h
    · rename_i hn
      cases h
      exact ⟨_, rfl, rfl, hn⟩
    · cases h
  · cases h
theorem kwLoop {f : Str × Value → List (Str × Value) × List (Str × Value) → Sem (ForInStep (List (Str × Value) × List (Str × Value)))} : ∀ (kw sl : List (Str × Value)), (∀ kv ∈ kw, ∀ sl, (List.lookup kv.1 sl).isSome = false → f kv (sl, []) = pure (.yield (sl ++ [kv], []))) →
    ((sl ++ kw).map (·.1)).Nodup → forIn kw (sl, []) f = pure (sl ++ kw, [])
  | [], sl, _, _ => by simp
  | kv :: kw, sl, hf, hn => by
    have nl : (List.lookup kv.1 sl).isSome = false := by
      cases h : List.lookup kv.1 sl with
      | none => rfl
      | some u =>
        exfalso
        rw [List.map_append, List.nodup_append] at hn
        exact hn.2.2 kv.1 (List.mem_map.mpr ⟨_, PySem.mem_of_lookup h, rfl⟩) kv.1 (by simp) rfl
    rw [List.forIn_cons, hf kv (by simp) sl nl, pure_bind]
    show forIn kw (sl ++ [kv], []) f = _
    rw [kwLoop kw (sl ++ [kv]) (fun y hy => hf y (List.mem_cons_of_mem _ hy)) (by simpa using hn)]
    simp
theorem look_zip {α : Type} : ∀ {ns : List Str} {us : List α} {i : Nat} {n : Str} {u : α}, ns.Nodup → ns[i]? = some n → us[i]? = some u → (ns.zip us).lookup n = some u
  | [], us, i, n, u, _, h, _ => by simp at h
  | m :: ns, [], i, n, u, _, _, h => by simp at h
  | m :: ns, v :: us, 0, n, u, _, h1, h2 => by
    simp at h1 h2
    subst h1 h2
    simp [List.lookup]
  | m :: ns, v :: us, i + 1, n, u, hn, h1, h2 => by
    have hm : n ≠ m := fun z => by
      subst z
      rw [List.nodup_cons] at hn
      exact hn.1 (List.mem_of_getElem? (by simpa using h1))
    have hb : (n == m) = false := by simpa using hm
    rw [List.zip_cons_cons, List.lookup_cons, hb]
    exact look_zip (List.nodup_cons.mp hn).2 (by simpa using h1) (by simpa using h2)
/-- by place and by name: names as written, where each parameter's value stands -/
def kwB (ps : List Str) (np : Nat) (ks : List Str) (pi : List Nat) : Bool := decide (np + ks.length = ps.length) && decide ((ps.take np ++ ks).Nodup) && decide (pi.map (fun i => (ps.take np ++ ks)[i]?) = ps.map some) && (ks.all fun k => ps.contains k)
def pick {α : Type} (pi : List Nat) (xs : List α) : List α := pi.filterMap fun i => xs[i]?
theorem pick_zip {ns : List Str} {vs : List Value} (hn : ns.Nodup) (hl : ns.length = vs.length) : ∀ {pi : List Nat} {ps : List Str}, pi.map (fun i => ns[i]?) = ps.map some → (ps.filterMap fun n => ((ns.zip vs).lookup n).map (n, ·)) = ps.zip (pick pi vs) ∧ (∀ n ∈ ps, ((ns.zip vs).lookup n).isSome = true) ∧ (pick pi vs).length = ps.length
  | [], [], _ => ⟨rfl, fun _ h => (by simp at h), rfl⟩
  | [], _ :: _, h => by simp at h
  | _ :: _, [], h => by simp at h
  | i :: pi, p :: ps, h => by
    simp only [List.map_cons, List.cons.injEq] at h
    have hi : i < ns.length := (List.getElem?_eq_some_iff.mp h.1).1
    have hv : vs[i]? = some (vs[i]'(by omega)) := List.getElem?_eq_getElem (by omega)
    have lk := look_zip hn h.1 hv
    obtain ⟨a, b, c⟩ := pick_zip hn hl h.2
    refine ⟨?_, ?_, ?_⟩
    · rw [List.filterMap_cons, lk]
      simp only [Option.map_some, pick, List.filterMap_cons, hv]
      rw [a]; rfl
    · intro n hn'
      rcases List.mem_cons.mp hn' with rfl | hn'
      · rw [lk]; rfl
      · exact b n hn'
    · simp only [pick, List.filterMap_cons, hv, List.length_cons]
      rw [show (List.filterMap (fun i => vs[i]?) pi).length = ps.length from c]
theorem zip_take {α β : Type} : ∀ {ps : List α} {us : List β}, ps.zip us = (ps.take us.length).zip us
  | [], us => by simp
  | p :: ps, [] => by simp
  | p :: ps, u :: us => by simp [zip_take (ps := ps) (us := us)]
theorem bind_kw {fd : FuncData} {ps ks : List Str} {pi : List Nat} {us ws : List Value} (h : posA fd.params = some ps) (hd : fd.defaults = .none) (hk : kwB ps us.length ks pi = true) (hw : ws.length = ks.length) : bindArgs fd ⟨us, ks.zip ws⟩ = pure (ps.zip (pick pi (us ++ ws))) := by
  obtain ⟨as, hp, rfl, hnd⟩ := posA_ok h
  unfold kwB at hk
  simp only [Bool.and_eq_true, decide_eq_true_eq, List.all_eq_true] at hk
  obtain ⟨⟨⟨k1, k2⟩, k3⟩, k4⟩ := hk
  generalize hns : as.map (·.arg) = ns at *
  have eL : ns.zip us ++ ks.zip ws = (ns.take us.length ++ ks).zip (us ++ ws) := by
    rw [zip_take, List.zip_append (by rw [List.length_take]; omega)]
  have fsts : ((ns.zip us ++ ks.zip ws).map (·.1)) = ns.take us.length ++ ks := by
    rw [eL, zip_fst (by simp; omega)]
  obtain ⟨q1, q2, q3⟩ := pick_zip (ns := ns.take us.length ++ ks) (vs := us ++ ws) k2 (by simp; omega) k3
  rw [← eL] at q1 q2
  have miss : ns.filter (fun n => ((ns.zip us ++ ks.zip ws).lookup n).isNone) = [] := by
    rw [List.filter_eq_nil_iff]
    intro n hn
    have := q2 n hn
    cases hh : (ns.zip us ++ ks.zip ws).lookup n with
    | none => rw [hh] at this; cases this
    | some _ => simp
  unfold bindArgs
  simp only [hp, hd, hns]
  have hgt : ¬ us.length > ns.length := by omega
  simp only [List.map_nil, List.nil_append, List.append_nil, seqItems?, pure_bind, nostand, Option.getD, List.length_nil, List.drop_nil, Nat.sub_zero, List.take_length,  List.drop_length, List.zip_nil_right, List.isEmpty_nil, Nat.zero_sub, List.forIn_nil]
  rw [kwLoop (ks.zip ws) (ns.zip us) (fun kv hkv sl hsl => ?_) (by rw [fsts]; exact k2)]
  · simp only [pure_bind, miss]
    simp [hgt, q1]
  · have : kv.1 ∈ ns := by simpa using k4 kv.1 (List.of_mem_zip hkv).1
    simp [this, hsl]
/-- how a call by place and by name binds -/
def BK (fd : FuncData) (ps : List Str) : Prop := ∀ (ks : List Str) (pi : List Nat) (us ws : List Value), kwB ps us.length ks pi = true → ws.length = ks.length → bindArgs fd ⟨us, ks.zip ws⟩ = pure (ps.zip (pick pi (us ++ ws)))
theorem relDs_pick {K : Fg} {R : Rg} {H : Hp} {xs : List D} {vs : List V} (r : RelDs K R H xs vs) : ∀ (pi : List Nat), RelDs K R H (pick pi xs) (pick pi vs)
  | [] => m_nil
  | i :: pi => by
    unfold pick
    rw [List.filterMap_cons, List.filterMap_cons]
    by_cases hi : i < xs.length
    · obtain ⟨v, e, rv⟩ := relDs_get r (List.getElem?_eq_getElem hi)
      rw [e, List.getElem?_eq_getElem hi]
      exact m_cons rv (relDs_pick r pi)
    · rw [List.getElem?_eq_none (by omega), List.getElem?_eq_none (by rw [← relDs_len r]; omega)]
      exact relDs_pick r pi
theorem vals_get : ∀ {vs : List V} {us : List Value} {i : Nat}, Vals vs us → (∀ v, vs[i]? = some v → ∃ u, us[i]? = some u ∧ RelV v u) ∧ (vs[i]? = none → us[i]? = none)
  | [], _, i, .nil => ⟨fun v h => by simp at h, fun _ => by simp⟩
  | v :: vs, u :: us, 0, .cons r t => ⟨fun w h => by simp at h; subst h; exact ⟨u, by simp, r⟩, fun h => by simp at h⟩
  | v :: vs, u :: us, i + 1, .cons r t => by
    obtain ⟨a, b⟩ := vals_get (i := i) t
    exact ⟨fun w h => by obtain ⟨x, e1, e2⟩ := a w (by simpa using h); exact ⟨x, by simpa using e1, e2⟩, fun h => by simpa using b (by simpa using h)⟩
theorem vals_pick {vs : List V} {us : List Value} (r : Vals vs us) : ∀ (pi : List Nat), Vals (pick pi vs) (pick pi us)
  | [] => .nil
  | i :: pi => by
    unfold pick
    rw [List.filterMap_cons, List.filterMap_cons]
    cases h : vs[i]? with
    | some v =>
      obtain ⟨u, e, ru⟩ := (vals_get r).1 v h
      rw [e]
      exact .cons ru (vals_pick r pi)
    | none =>
      rw [(vals_get r).2 h]
      exact vals_pick r pi
section
variable {X : Cx} {C : Cn} {Wx : WX}
theorem pk_consD {nm : Option Str} {kpos : Pos} {e : Expr} {kws : List Keyword} {t : TDE} {u : TDA} (he : PE X e (lift C Wx t)) (hr : PK X kws (liftA C Wx u)) : PK X (⟨nm, e, kpos⟩ :: kws) (liftA C Wx (dCons t u)) := by
  refine ⟨fun pos pins s σ H Q I q => (pk_cons (pe_D he) hr).run pos pins s σ H Q I ?_⟩
  obtain ⟨R, ds, h, P, Z, e, p, k, z⟩ := q
  refine ⟨R, ds, h, _, Z, e, p, fun R1 H1 h1 d v p1 x1 e1 r1 => ?_, z⟩
  exact ⟨R1, ds, h1, _, Z, e1, p1, fun R2 H2 h2 xs vs p2 x2 e2 r2 => k R2 H2 h2 (d :: xs) (v :: vs) p2 (x1.trans x2) e2 (m_cons (relD_ex e1.ok x2 r1) r2), fun R' H' h' x cls dd a b c d => z R' H' h' x cls dd a (x1.trans b) c d⟩
theorem pk_nilD : PK X [] (liftA C Wx dNil) := ⟨fun pos pins s σ H Q I q => pk_nil.run pos pins s σ H Q I (by
  obtain ⟨R, ds, h, P, Z, e, p, k, z⟩ := q
  exact k R H h _ _ p (Ex.refl _ _) e m_nil)⟩
theorem kw_all {kws : List Keyword} {ks : List Str} {env : PySem.Env} {pos : Pos} : kws.map (·.arg) = ks.map some → (backToKw pos (keywordEach kws env)).all (·.1.isSome) = true ∧ (backToKw pos (keywordEach kws env)).filterMap (·.1) = ks ∧ (backToKw pos (keywordEach kws env)).any (·.1.isNone) = false := by
  induction kws generalizing ks with
  | nil => intro h; cases ks with
    | nil => exact ⟨rfl, rfl, rfl⟩
    | cons k ks => simp at h
  | cons kw kws ih =>
    intro h
    cases ks with
    | nil => simp at h
    | cons k ks =>
      obtain ⟨nm, e, kp⟩ := kw
      simp only [List.map_cons, List.cons.injEq] at h
      obtain ⟨h1, h2⟩ := h
      subst h1
      obtain ⟨a, b, c⟩ := ih h2
      unfold backToKw at a b c ⊢
      simp only [keywordEach, List.map_cons, List.all_cons, List.any_cons, List.filterMap_cons, a, b, c]
      exact ⟨by first | trivial | rfl, by first | trivial | rfl, by first | trivial | rfl⟩
end
end DL
set_option maxHeartbeats 4000000
namespace DL
open PySem PySem.Spec PySem.W PyProof.Rows L2
/-- parameters by place, then such by name alone -/
def koA : Arguments → Option (List Str × Nat)
  | ⟨[], as, none, kas, _, none, []⟩ => if (as.map (·.arg) ++ kas.map (·.arg)).Nodup then some (as.map (·.arg) ++ kas.map (·.arg), as.length) else none
  | _ => none
theorem koA_ok {p : Arguments} {ps : List Str} {np : Nat} (h : koA p = some (ps, np)) : ∃ (as kas : List Arg) (kd : List (Option Expr)), p = ⟨[], as, none, kas, kd, none, []⟩ ∧ as.map (·.arg) ++ kas.map (·.arg) = ps ∧ as.length = np ∧ ps.Nodup := by
  unfold koA at h
  split at h
  · split at h
    · rename_i hn
      cases h
      exact ⟨_, _, _, rfl, rfl, rfl, hn⟩
    · cases h
  · cases h
theorem zip_map_self {dv : Str → Value} : ∀ l : List Str, l.map (fun n => (n, dv n)) = l.zip (l.map dv)
  | [] => rfl
  | a :: l => by simp [zip_map_self l]
theorem koLoop {M : Model} {h : Heap} {σ : Type} (mk : List (Str × Value) → σ) (dv : Str → Value) {f : Str → σ → Sem (ForInStep σ)} : ∀ (kwn : List Str) (sl : List (Str × Value)), (∀ n ∈ kwn, ∀ sl, (List.lookup n sl).isSome = true → f n (mk sl) = pure (.yield (mk sl))) →
    (∀ n ∈ kwn, (List.lookup n sl).isSome = false → ∀ sl', (List.lookup n sl').isSome = false → Looks M h (f n (mk sl')) (.yield (mk (sl' ++ [(n, dv n)])))) → kwn.Nodup →
    Looks M h (forIn kwn (mk sl) f) (mk (sl ++ (kwn.filter fun n => (List.lookup n sl).isNone).map fun n => (n, dv n)))
  | [], sl, _, _, _ => by simpa using Looks.of_pure rfl
  | n :: kwn, sl, h1, h2, nd => by
    rw [List.nodup_cons] at nd
    rw [List.forIn_cons]
    cases hl : List.lookup n sl with
    | some v =>
      have e := h1 n (by simp) sl (by rw [hl] <;> rfl)
      rw [e, pure_bind]
      have := koLoop mk dv kwn sl (fun m hm => h1 m (by simp [hm])) (fun m hm => h2 m (by simp [hm])) nd.2
      simpa [hl] using this
    | none =>
      have e := h2 n (by simp) (by rw [hl] <;> rfl) sl (by rw [hl] <;> rfl)
      refine e.andThen ?_
      show Looks M h (forIn kwn (mk (sl ++ [(n, dv n)])) f) _
      have lk : ∀ m ∈ kwn, List.lookup m (sl ++ [(n, dv n)]) = List.lookup m sl := fun m hm => by
        have ne : ¬ m = n := fun z => nd.1 (by rw [← z]; exact hm)
        rw [List.lookup_append]
        have hb : (m == n) = false := by simpa using ne
        cases hz : List.lookup m sl <;> simp [List.lookup, hb]
      have := koLoop mk dv kwn (sl ++ [(n, dv n)]) (fun m hm => h1 m (by simp [hm])) (fun m hm hz => h2 m (by simp [hm]) (by rw [← lk m hm]; exact hz)) nd.2
      have ef : (kwn.filter fun m => (List.lookup m (sl ++ [(n, dv n)])).isNone) = kwn.filter fun m => (List.lookup m sl).isNone := List.filter_congr fun m hm => by rw [lk m hm]
      rw [ef] at this
      simpa [hl, List.append_assoc] using this
/-- by place and by name; dk: the names whose defaults stand in -/
def koB (ps : List Str) (np : Nat) (ks dk : List Str) (pi : List Nat) : Bool := decide (np ≤ ps.length) && decide ((ps.take np ++ ks ++ dk).Nodup) && decide (pi.map (fun i => (ps.take np ++ ks ++ dk)[i]?) = ps.map some) && (ks.all fun k => ps.contains k) && decide (dk = (ps.drop np).filter fun n => !ks.contains n)
theorem bind_ko {M : Model} {h : Heap} {fd : FuncData} {ps ks dk : List Str} {np : Nat} {pi : List Nat} {us ws : List Value} {D : Addr} (dv : Str → Value) (hp : koA fd.params = some (ps, np)) (hd : fd.defaults = .none) (hkd : dk ≠ [] → fd.kwdefaults = .ref D) (hu : us.length = np) (hw : ws.length = ks.length)
    (hns : ∀ n ∈ dk, Looks M h (nsGet D n) (some (dv n))) (hk : koB ps np ks dk pi = true) : Looks M h (bindArgs fd ⟨us, ks.zip ws⟩) (ps.zip (pick pi (us ++ ws ++ dk.map dv))) := by
  obtain ⟨as, kas, kd, ep, rfl, hl, hnd⟩ := koA_ok hp
  clear hp
  unfold koB at hk
  simp only [Bool.and_eq_true, decide_eq_true_eq, List.all_eq_true] at hk
  obtain ⟨⟨⟨⟨k0, k1⟩, k2⟩, k3⟩, k4⟩ := hk
  have tk : (as.map (·.arg) ++ kas.map (·.arg)).take np = as.map (·.arg) := by rw [List.take_append_of_le_length (by simp [hl]), List.take_of_length_le (by simp [hl])]
  have dr : (as.map (·.arg) ++ kas.map (·.arg)).drop np = kas.map (·.arg) := by rw [List.drop_append_of_le_length (by simp [hl]), List.drop_of_length_le (by simp [hl]), List.nil_append]
  rw [tk] at k1 k2
  rw [dr] at k4
  have la : (as.map (·.arg)).length = us.length := by simp [hl, hu]
  generalize hns1 : as.map (·.arg) = ns at *
  generalize hns2 : kas.map (·.arg) = kn at *
  have eL : ns.zip us ++ ks.zip ws = (ns ++ ks).zip (us ++ ws) := by rw [List.zip_append la]
  have ll : (ns ++ ks).length = (us ++ ws).length := by rw [List.length_append, List.length_append]; omega
  have fsts : ((ns.zip us ++ ks.zip ws).map (·.1)) = ns ++ ks := by rw [eL, zip_fst (by rw [ll] <;> exact Nat.le_refl _)]
  have k1' : (ns ++ ks).Nodup := (List.nodup_append.mp k1).1
  have eA : ns.zip us ++ ks.zip ws ++ dk.map (fun n => (n, dv n)) = (ns ++ ks ++ dk).zip (us ++ ws ++ dk.map dv) := by
    rw [eL, List.zip_append ll, zip_map_self]
  obtain ⟨q1, q2, q3⟩ := pick_zip (ns := ns ++ ks ++ dk) (vs := us ++ ws ++ dk.map dv) k1 (by rw [List.length_append, ll, List.length_append (as := us ++ ws), List.length_map]) k2
  rw [← eA] at q1 q2
  -- which of the names by name alone have no value yet
  have lookN : ∀ n ∈ kn, ((ns.zip us ++ ks.zip ws).lookup n).isNone = !ks.contains n := fun n hn => by
    have n1 : n ∉ ns := fun z => (List.nodup_append.mp hnd).2.2 n z n hn rfl
    by_cases hk : n ∈ ks
    · have : ((ns.zip us ++ ks.zip ws).lookup n).isSome = true := by
        rw [eL]
        have hm : n ∈ ns ++ ks := List.mem_append_right _ hk
        obtain ⟨i, hi, e⟩ := List.getElem_of_mem hm
        have hv : (us ++ ws)[i]? = some ((us ++ ws)[i]'(by simp at hi ⊢; omega)) := List.getElem?_eq_getElem _
        rw [look_zip k1' (List.getElem?_eq_some_iff.mpr ⟨hi, e⟩) hv] <;> rfl
      have c : ks.contains n = true := by simpa using hk
      rw [c]
      cases hh : (ns.zip us ++ ks.zip ws).lookup n with
      | none => rw [hh] at this; cases this
      | some _ => rfl
    · have c : ks.contains n = false := by simpa using hk
      rw [c]
      cases hh : (ns.zip us ++ ks.zip ws).lookup n with
      | none => rfl
      | some v =>
        exfalso
        have : n ∈ (ns.zip us ++ ks.zip ws).map (·.1) := List.mem_map.mpr ⟨_, PySem.mem_of_lookup hh, rfl⟩
        rw [fsts] at this
        rcases List.mem_append.mp this with z | z
        · exact n1 z
        · exact hk z
  have filt : (kn.filter fun n => (List.lookup n (ns.zip us ++ ks.zip ws)).isNone) = dk := by
    rw [k4]
    exact List.filter_congr fun n hn => lookN n hn
  have miss : ns.filter (fun n => ((ns.zip us ++ ks.zip ws).lookup n).isNone) = [] := by
    rw [List.filter_eq_nil_iff]
    intro n hn
    obtain ⟨i, hi, e⟩ := List.getElem_of_mem hn
    have hv : us[i]? = some (us[i]'(by omega)) := List.getElem?_eq_getElem _
    have := look_zip (List.nodup_append.mp k1').1 (List.getElem?_eq_some_iff.mpr ⟨hi, e⟩) hv
    have h2 : (ns.zip us ++ ks.zip ws).lookup n = some (us[i]'(by omega)) := by rw [List.lookup_append, this] <;> rfl
    rw [h2]
    simp
  have hgt : ¬ us.length > ns.length := by omega
  unfold bindArgs
  simp only [ep, hd, hns1, hns2]
  simp only [List.map_nil, List.nil_append, List.append_nil, seqItems?, pure_bind, nostand, Option.getD, List.length_nil, List.drop_nil, Nat.sub_zero, List.take_length, List.drop_length, List.zip_nil_right, List.isEmpty_nil, Nat.zero_sub, List.forIn_nil]
  rw [kwLoop (ks.zip ws) (ns.zip us) (fun kv hkv sl hsl => ?_) (by rw [fsts]; exact k1')]
  · simp only [pure_bind, miss]
    simp only [hgt, decide_false, Bool.false_and, Bool.false_eq_true, if_false, List.isEmpty_nil, Bool.not_true, pure_bind]
    have hv : ∀ n ∈ dk, fd.kwdefaults = .ref D := fun n hn => hkd (fun z => by rw [z] at hn; cases hn)
    refine Looks.andThen (koLoop (fun sl => (sl, ([] : List Str))) dv kn (ns.zip us ++ ks.zip ws) (fun n hn sl hz => ?_) (fun n hn hz sl hz2 => ?_) (List.nodup_append.mp hnd).2.1) ?_
    · cases hh : List.lookup n sl with
      | none => rw [hh] at hz; cases hz
      | some v => simp [hh]
    · have nd : n ∈ dk := by
        rw [← filt]
        refine List.mem_filter.mpr ⟨hn, ?_⟩
        cases hh : List.lookup n (ns.zip us ++ ks.zip ws) with
        | none => rfl
        | some v => rw [hh] at hz; cases hz
      have hno : List.lookup n sl = none := by
        cases hh : List.lookup n sl with
        | none => rfl
        | some v => rw [hh] at hz2; cases hz2
      simp only [hno, hv n nd, Option.isNone_none, if_true]
      exact (hns n nd).andThen (Looks.of_pure rfl)
    · rw [filt]
      refine Looks.of_pure ?_
      simp only [List.isEmpty_nil, Bool.not_true, Bool.false_eq_true, if_false]
      rw [q1]
  · have : kv.1 ∈ ns ++ kn := by simpa using k3 kv.1 (List.of_mem_zip hkv).1
    rcases List.mem_append.mp this with z | z <;> simp [z, hsl]
inductive Kq where
  | non
  | bl (b : Bool)
  | int (i : Int)
  | str (x : Str)
def Kq.d : Kq → D
  | .non => .non
  | .bl b => .bl b
  | .int i => .int i
  | .str x => .str x
def Kq.v : Kq → V
  | .non => .non
  | .bl b => .bl b
  | .int i => .int i
  | .str x => .str x
def Kq.dv : Kq → He.Dv
  | .non => .non
  | .bl b => .bl b
  | .int i => .int i
  | .str x => .str x
def Kq.same : Kq → Kq → Bool
  | .non, .non => true
  | .bl a, .bl b => a == b
  | .int a, .int b => decide (a = b)
  | .str a, .str b => decide (a = b)
  | _, _ => false
theorem Kq.same_eq {a b : Kq} (h : a.same b = true) : a = b := by
  cases a <;> cases b <;> simp [Kq.same] at h <;> first | rfl | (subst h; rfl)
theorem Kq.dv_v (K : Fg) (k : Kq) : k.dv.v K = k.v := by cases k <;> rfl
theorem Kq.rel {C : Fg} {R : Rg} {H : Hp} (k : Kq) : RelD C R H k.d k.v := by
  cases k
  · exact m_non
  · exact m_bl
  · exact m_int
  · exact m_str
/-- how a call binds where parameters stand by name alone -/
def KoB (K : Fg) (fd : FuncData) (ps : List Str) (np : Nat) (dfl : List (Str × Kq)) : Prop :=
  ∃ dv : Str → Value, (∀ p ∈ dfl, RelV p.2.v (dv p.1)) ∧ ∀ (ks : List Str) (pi : List Nat) (s : Shared) (us ws : List Value), K.In s.heap → us.length = np → ws.length = ks.length →
    koB ps np ks ((dfl.filter fun p => !ks.contains p.1).map (·.1)) pi = true → BindsTo s fd ⟨us, ks.zip ws⟩ (ps.zip (pick pi (us ++ ws ++ ((dfl.filter fun p => !ks.contains p.1).map (·.1)).map dv)))
theorem koB_of {K : Fg} {x qual : Str} {params : Arguments} {body : List Stmt} {scope : Scope} {kws : List (Str × V)} {f : Addr} {fd : FuncData} {ps : List Str} {np : Nat} {dfl : List (Str × Kq)} (Fu : FunD K x qual params body scope [] kws f fd) (hp : koA params = some (ps, np)) (hn : (dfl.map (·.1)).Nodup) (hk : ∀ p ∈ dfl, (p.1, p.2.v) ∈ kws) : KoB K fd ps np dfl := by
  obtain ⟨oc, od, dV, kV, doc, pm, an, cdv, ct, osl, rfl, lk, hcd, hdv, hkw⟩ := Fu.ex
  have hd : dV = .none := by
    rcases hdv with ⟨_, z⟩ | ⟨z, _⟩
    · exact z
    · exact absurd rfl z
  subst hd
  by_cases h0 : dfl = []
  · subst h0
    refine ⟨fun _ => .none, fun p h => by simp at h, fun ks pi s us ws X hu hw hb => ?_⟩
    exact BindsTo.of_looks fun M => bind_ko (fd := PySem.W.fnOf x qual params body scope .none kV doc pm an cdv ct) (D := 0) (fun _ => .none) hp rfl (fun z => absurd rfl z) hu hw (fun n h => by simp at h) hb
  · have hkne : kws ≠ [] := fun z => by
      obtain ⟨p, l, e⟩ := List.exists_cons_of_ne_nil h0
      have := hk p (by rw [e]; exact List.mem_cons_self)
      rw [z] at this; cases this
    rcases hkw with e | ⟨D, rfl, hq⟩
    · exact absurd e hkne
    · have ex : ∀ p ∈ dfl, ∃ u, PySem.W.nsIn K D p.1 = some (some u) ∧ RelV p.2.v u := fun p hpm => hq (p.1, p.2.v) (hk p hpm)
      let dv : Str → Value := fun n => match PySem.W.nsIn K D n with
        | some (some u) => u
        | _ => .none
      have dvp : ∀ p ∈ dfl, PySem.W.nsIn K D p.1 = some (some (dv p.1)) ∧ RelV p.2.v (dv p.1) := fun p hpm => by
        obtain ⟨u, e, r⟩ := ex p hpm
        have : dv p.1 = u := by show (match PySem.W.nsIn K D p.1 with | some (some u) => u | _ => .none) = u; rw [e]
        rw [this]; exact ⟨e, r⟩
      refine ⟨dv, fun p hpm => (dvp p hpm).2, fun ks pi s us ws X hu hw hb => ?_⟩
      refine BindsTo.of_looks fun M => bind_ko (fd := PySem.W.fnOf x qual params body scope .none (.ref D) doc pm an cdv ct) (D := D) dv hp rfl (fun _ => rfl) hu hw (fun n h => ?_) hb
      obtain ⟨p, hpf, rfl⟩ := List.mem_map.mp h
      exact PySem.W.looks_nsIn X (dvp p (List.mem_filter.mp hpf).1).1
theorem kq_rels {C : Fg} {R : Rg} {H : Hp} : ∀ {l : List (Str × Kq)}, RelDs C R H (l.map fun p => p.2.d) (l.map fun p => p.2.v)
  | [] => m_nil
  | p :: l => m_cons p.2.rel kq_rels
theorem kq_vals {dv : Str → Value} : ∀ {l : List (Str × Kq)}, (∀ p ∈ l, RelV p.2.v (dv p.1)) → Vals (l.map fun p => p.2.v) ((l.map (·.1)).map dv)
  | [], _ => .nil
  | p :: l, h => .cons (h p (List.mem_cons_self)) (kq_vals fun q hq => h q (List.mem_cons_of_mem _ hq))
section
variable {X : Cx} {C : Cn} {Wx : WX}
def dCallO (n np nk : Nat) (pi : List Nat) (dfs : List D) (f : FnD) (t u : TDA) : TDE := fun ds h P Z => t ds h (fun xs h1 => xs.length = np ∧ u ds h1 (fun ys h2 => ys.length = nk ∧ (pick pi (xs ++ ys ++ dfs)).length = n ∧ f (pick pi (xs ++ ys ++ dfs)) h2 (fun d h3 => P (.d d) h3) Z) Z) Z
theorem run_callO {gd : Bool} {k : Nat} {fa : Addr} {fd : FuncData} {ps ks : List Str} {pi : List Nat} {f : FnD} {pins : List (Addr × Obj)} {s2 : Shared} {σ : Sl} {H2 : Hp} {Q : VK} {us ws zv : List Value} {vs zs : List V} (F : FnG X.prog X.w X.K X.mg X.base gd k fa fd ps (liftF C.K C.Cl ps.length f)) (hr : Room k X.A) (hgd : Gd gd X.A) (tk : Takes X Wx)
    (I : Inv X pins σ H2 s2) (hb : BindsTo s2 fd ⟨us, ks.zip ws⟩ (ps.zip (pick pi (us ++ ws ++ zv)))) {dz : List V} (r : Vals vs us) (rz : Vals zs ws) (rd : Vals dz zv) (q : liftF C.K C.Cl ps.length f (pick pi (vs ++ zs ++ dz)) H2 Q (atS Wx σ)) :
    wpAny (model X.prog X.w) X.A (call (.ref fa) us (ks.zip ws)) (EP X pins σ Q) X.xe s2 := by
  refine wpAny_call (codeAny_mono (run_fnG F hr hgd tk I hb (vals_pick ((r.append rz).append rd) pi) q) fun res s' z => ?_)
  cases res with
  | error e => exact z
  | ok fl =>
    cases fl with
    | ret u => exact z
    | next => exact z.elim
    | brk => exact z.elim
    | cont => exact z.elim
theorem de_callO {x : Str} {p pos : Pos} {ls : List Expr} {kws : List Keyword} {t u : TDA} {f : FnD} {gd : Bool} {k : Nat} {fa : Addr} {fd : FuncData} {ps ks : List Str} {pi : List Nat} {dfl : List (Str × Kq)} (hK : C.K = X.K) (F : FnG X.prog X.w X.K X.mg X.base gd k fa fd ps (liftF C.K C.Cl ps.length f)) (hr : Room k X.A) (hgd : Gd gd X.A) (tk : Takes X Wx) (hg : Gl X x) (hm : X.mg x = some (.ref fa)) (hk : PySem.W.keepIn X.K (.ref fa) = true)
    (bk : KoB X.K fd ps ls.length dfl) (ha : PA X ls (liftA C Wx t)) (hkw : PK X kws (liftA C Wx u)) (hb : koB ps ls.length ks ((dfl.filter fun p => !ks.contains p.1).map (·.1)) pi = true) (hks : kws.map (·.arg) = ks.map some) (hdb : (x == ("__debug__" : Str)) = false) (hst : ls = [] ∨ ∃ e es, ls = e :: es ∧ starEach (e :: es) X.env = (false, eval e X.env) :: starEach es X.env) (hpl : (backTo pos (starEach ls X.env)).any (·.1) = false) (h0 : ls = [] → ∀ ds h Z (P : List D → Hs → Prop), t ds h P Z → P [] h) :
    PE X (.Call (.Name x p) ls kws pos) (lift C Wx (dCallO ps.length ls.length ks.length pi ((dfl.filter fun p => !ks.contains p.1).map fun p => p.2.d) f t u)) := by
  obtain ⟨dv, hdv, bk⟩ := bk
  generalize hfl : (dfl.filter fun p => !ks.contains p.1) = fl at hb
  have hdv' : ∀ p ∈ fl, RelV p.2.v (dv p.1) := fun p hp => hdv p (by rw [← hfl] at hp; exact (List.mem_filter.mp hp).1)
  refine ⟨fun pins s σ H Q I q => ?_⟩
  obtain ⟨R, ds, h, P, Z, e, pd, kk, z⟩ := q
  obtain ⟨a1, a2, a3⟩ := kw_all (env := X.env) (pos := pos) hks
  refine wpAny_Call_Name_kw (ld_glob I hg hm ?_ hdb)
  have go : ∀ {s1 : Shared} {R1 : Rg} {H1 : Hp} {h1 : Hs} {xs : List D} {vs : List V} {us : List Value}, Inv X pins σ H1 s1 → Ex R H R1 H1 → Env C R1 ds σ H1 h1 → RelDs C.K R1 H1 xs vs → Vals vs us → xs.length = ls.length ∧ u ds h1 (fun ys h2 => ys.length = ks.length ∧ (pick pi (xs ++ ys ++ fl.map fun p => p.2.d)).length = ps.length ∧ f (pick pi (xs ++ ys ++ fl.map fun p => p.2.d)) h2 (fun d h3 => P (.d d) h3) Z) Z →
      wpAny (model X.prog X.w) X.A (evalAll ((backToKw pos (keywordEach kws X.env)).map (·.2))) (fun ws s2 => X.K.In s2.heap ∧ wpAny (model X.prog X.w) X.A (call (.ref fa) ([] ++ us) (((backToKw pos (keywordEach kws X.env)).filterMap (·.1)).zip ws)) (EP X pins σ Q) X.xe s2) X.xe s1 := by
    intro s1 R1 H1 h1 xs vs us I1 x1 e1 r1 rv ⟨hl, p1⟩
    refine thn (hkw.run pos pins s1 σ H1 (fun zs H2 => ∃ R2 h2 ys, RelDs C.K R2 H2 ys zs ∧ Ex R1 H1 R2 H2 ∧ Env C R2 ds σ H2 h2 ∧ ys.length = ks.length ∧ (pick pi (xs ++ ys ++ fl.map fun p => p.2.d)).length = ps.length ∧ f (pick pi (xs ++ ys ++ fl.map fun p => p.2.d)) h2 (fun d h3 => P (.d d) h3) Z) I1 ⟨R1, ds, h1, _, Z, e1, p1, fun R2 H2 h2 ys zs p2 x2 e2 r2 => ⟨R2, h2, ys, r2, x2, e2, p2⟩, fun R' H' h' y cls dd a b c d => z R' H' h' y cls dd a (x1.trans b) c d⟩) fun ws s2 ⟨zs, H2, I2, rz, R2, h2, ys, r2, x2, e2, hl2, hl3, p2⟩ => ⟨I2.kIn, ?_⟩
    rw [a2, List.nil_append]
    have lu : us.length = ls.length := by rw [← rv.length, ← relDs_len r1]; exact hl
    have bb := bk ks pi s2 us ws I2.kIn lu (by rw [← rz.length, ← relDs_len r2]; exact hl2) (by rw [hfl]; exact hb)
    rw [hfl] at bb
    refine run_callO (C := C) F hr hgd tk I2 bb rv rz (kq_vals hdv') ?_
    refine ⟨R2, pick pi (xs ++ ys ++ fl.map fun p => p.2.d), h2, _, Z, e2.ok, relDs_pick (relDs_append (relDs_append (relDs_ex e1.ok x2 r1) r2) kq_rels) pi, hl3, p2, fun R3 H3 h3 d v p3 x3 ok3 r3 => ?_, fun R3 H3 h3 y cls dd p3 x3 ok3 r3 => ?_⟩
    · exact kk R3 H3 h3 (.d d) v p3 ((x1.trans x2).trans x3) (e2.step x3 ok3) r3
    · exact z R3 H3 h3 y cls dd p3 ((x1.trans x2).trans x3) (e2.step x3 ok3) r3
  rcases hst with rfl | ⟨e0, es, rfl, he⟩
  · refine PySem.W.callWith_KW0 (h₀ := X.base) I.ok.mod.kin hk a1 ?_ (by rw [a3] <;> rfl)
    exact go (xs := []) (vs := []) (us := []) I (Ex.refl _ _) e m_nil .nil (h0 rfl ds h Z _ pd)
  · refine PySem.W.callWith_KW (h₀ := X.base) I.ok.mod.kin hk a1 (thn (ha.run pos pins s σ H (fun vs H1 => ∃ R1 h1 xs, Ex R H R1 H1 ∧ Env C R1 ds σ H1 h1 ∧ RelDs C.K R1 H1 xs vs ∧ (xs.length = (e0 :: es).length ∧ u ds h1 (fun ys h2 => ys.length = ks.length ∧ (pick pi (xs ++ ys ++ fl.map fun p => p.2.d)).length = ps.length ∧ f (pick pi (xs ++ ys ++ fl.map fun p => p.2.d)) h2 (fun d h3 => P (.d d) h3) Z) Z)) I ⟨R, ds, h, _, Z, e, pd, fun R1 H1 h1 xs vs p1 x1 e1 r1 => ⟨R1, h1, xs, x1, e1, r1, p1⟩, z⟩) fun us s1 ⟨vs, H1, I1, rv, R1, h1, xs, x1, e1, r1, p1⟩ => go I1 x1 e1 r1 rv p1) (by rw [hpl, a3] <;> rfl) he
end
end DL
set_option maxHeartbeats 4000000
namespace DL
open PySem PySem.Spec PyProof.Rows L2
section
variable {X : Cx} {C : Cn} {Wx : WX}
def noC0 : Expr → Bool
  | .Call _ [] [] _ => false
  | _ => true
theorem base_ok {o : Expr} {at_ : Str} {env : PySem.Env} {w : Sem Value} (h : noC0 o = true) : attributeBase o at_ env w = w := by
  cases o with
  | Call f as kws p =>
    cases as with
    | cons a as => cases f <;> rfl
    | nil =>
      cases kws with
      | nil => cases h
      | cons k kws => cases f <;> rfl
  | _ => rfl
def mmI (mx : Bool) (i j : Int) : Int := if mx = true then max i j else min i j
def mmN (mx : Bool) : Str := if mx = true then "max" else "min"
def dMM (mx : Bool) (ta tb : TDE) : TDE := fun ds h P Z => dCons ta (dCons tb dNil) ds h (fun xs h' => ∃ i j, xs = [.int i, .int j] ∧ P (.d (.int (mmI mx i j))) h') Z
theorem de_mm {mx : Bool} {a b : Expr} {ta tb : TDE} {p pos : Pos} (hc : X.calm = true) (hg : Gl X (mmN mx)) (hm : X.mg (mmN mx) = none) (ha : PE X a (lift C Wx ta)) (hb : PE X b (lift C Wx tb)) (he : starEach [a, b] X.env = (false, eval a X.env) :: starEach [b] X.env) (hs2 : starEach [b] X.env = (false, eval b X.env) :: starEach [] X.env) :
    PE X (.Call (.Name (mmN mx) p) [a, b] [] pos) (lift C Wx (dMM mx ta tb)) := by
  have hpl : (backTo pos (starEach [b] X.env)).any (·.1) = false := by rw [hs2]; rfl
  have arg : PA X [a, b] (liftA C Wx (dCons ta (dCons tb dNil))) := da_cons ha (da_cons hb da_nil hs2) he
  have fin : ∀ {r : List V → Hp → VK → Prop}, (∀ i j H Q, Q (.int (mmI mx i j)) H → r [.int i, .int j] H Q) → PE X (.Call (.Name (mmN mx) p) [a, b] [] pos) (tCB r (liftA C Wx (dCons ta (dCons tb dNil)))) → PE X (.Call (.Name (mmN mx) p) [a, b] [] pos) (lift C Wx (dMM mx ta tb)) := fun hr pe => pe.imD fun σ H Q q => by
    obtain ⟨R, ds, h, P, Z, e, p, k, z⟩ := q
    refine ⟨R, ds, h, _, Z, e, p, fun R' H' h' xs vs ⟨i, j, hx, p'⟩ x e' r => ?_, z⟩
    subst hx
    obtain ⟨v1, q1, rfl, r1, r2⟩ := r_cons r
    obtain ⟨v2, q2, rfl, r3, r4⟩ := r_cons r2
    cases r_nil r4
    cases r_int r1
    cases r_int r3
    exact hr i j H' Q (k R' H' h' _ _ p' x e' mw_int)
  cases mx with
  | true => exact fin (fun i j H Q q => ⟨i, j, rfl, by
      have e : mmI true i j = if j > i then j else i := by unfold mmI; simp only [if_true]; split <;> omega
      rw [← e]; exact q⟩) (pe_callB (call_max2 hc) hg hm (by decide +kernel) arg (he := he) (hpl := hpl))
  | false => exact fin (fun i j H Q q => ⟨i, j, rfl, by
      have e : mmI false i j = if j < i then j else i := by unfold mmI; simp; split <;> omega
      rw [← e]; exact q⟩) (pe_callB (call_min2 hc) hg hm (by decide +kernel) arg (he := he) (hpl := hpl))
/-- the best of a sequence of ints -/
def Best (mx : Bool) (ns : List Int) (m : Int) : Prop := m ∈ ns ∧ ∀ y ∈ ns, if mx = true then y ≤ m else m ≤ y
theorem old2 {s : Shared} {o1 : Obj} {h' : Heap} (hk : ∀ b o, b ∉ [s.heap.objs.size] → (s.heap.push o1).get? b = some o → h'.get? b = some o) : ∀ b o, s.heap.get? b = some o → h'.get? b = some o := fun b o e => hk b o (fun hm => by
  rcases List.mem_cons.mp hm with e1 | hm
  · exact absurd (e1 ▸ Heap.lt_size e) (Nat.lt_irrefl _)
  · cases hm) (Heap.get?_push_of_some _ e)
theorem best_tup {mx : Bool} {prog : Program} {w : World} {A : Around} {E : Value → Shared → Prop} {s : Shared} {l : Addr} {its : List Value} {ns : List Int} {Q : Value → Shared → Prop} (hh : A.handled = none) (hl : s.heap.IsTuple l its.toArray) (hi : IntsAre its ns) (hne : 0 < ns.length)
    (h : ∀ h' tk m t', (∀ b o, s.heap.get? b = some o → h'.get? b = some o) → Best mx ns m → Q (.int m t') { s with heap := h', toks := tk }) : wpAny (model prog w) A (call (.builtin (if mx = true then "max" else "min")) [.ref l]) Q E s := by
  obtain ⟨xs, e⟩ := hi.allInts.items
  have hn : numsOf (intItems xs).toList = ns := by rw [← e]; exact hi.numsOf
  rw [nums_intItems] at hn
  subst hn
  rw [e] at hl
  have hsz : 0 < (intItems xs).size := by simpa [intItems] using hne
  have hlt : l < s.heap.objs.size := by obtain ⟨_, z, _⟩ := hl; exact Heap.lt_size z
  have fp : ∀ (o1 : Obj), ∀ b ∈ [s.heap.objs.size, l], b < (s.heap.push o1).objs.size := fun o1 b hb => by
    rw [Heap.size_push]
    rcases List.mem_cons.mp hb with rfl | hb
    · exact Nat.lt_succ_self _
    · rcases List.mem_cons.mp hb with rfl | hb
      · exact Nat.lt_succ_of_lt hlt
      · cases hb
  have at_ : ∀ {bt : Nat → Nat → Bool} {v : Value}, (intItems xs)[argBest bt ((intItems xs).size - 1)]? = some v → ∃ t, v = .int (numAt xs (argBest bt (xs.size - 1))) t := fun {bt v} hv => by
    have : (intItems xs).size = xs.size := by simp [intItems]
    rw [this] at hv
    exact intItems_at hv
  have mem : ∀ i, i ≤ xs.size - 1 → numAt xs i ∈ xs.toList.map (·.1) := fun i hi => by
    rw [numAt_eq]; exact PySem.getD_mem (by rw [List.length_map, Array.length_toList]; have : (intItems xs).size = xs.size := (by simp [intItems]); omega)
  cases mx with
  | true =>
    refine call_max_walk (wpAny_pyIter_tuple hl ?_)
    refine ⟨_, [_, l], [_], _, _, _, _, rfl, Walks.tuple (A := A.in1) hh _ l (Nat.ne_of_lt hlt) (intItems xs), ⟨⟨_, Heap.get?_push_size _ rfl, rfl, rfl⟩, hl.push _⟩, fp _, hsz, CmpOf.ints_gt (numAt xs) (fun _ _ => intItems_at), fun v h' tk hP hk => ?_⟩
    obtain ⟨t, rfl⟩ := at_ hP
    obtain ⟨h1, h2⟩ := argBest_gt (numAt xs) (xs.size - 1)
    refine h h' tk _ t (old2 hk) ⟨mem _ h1, fun a ha => ?_⟩
    obtain ⟨j, hj, rfl⟩ := mem_getD ha
    rw [List.length_map, Array.length_toList] at hj
    simp only [if_true]
    rw [← numAt_eq]; exact h2 j (by omega)
  | false =>
    refine call_min_walk (wpAny_pyIter_tuple hl ?_)
    refine ⟨_, [_, l], [_], _, _, _, _, rfl, Walks.tuple (A := A.in1) hh _ l (Nat.ne_of_lt hlt) (intItems xs), ⟨⟨_, Heap.get?_push_size _ rfl, rfl, rfl⟩, hl.push _⟩, fp _, hsz, CmpOf.ints_lt (numAt xs) (fun _ _ => intItems_at), fun v h' tk hP hk => ?_⟩
    obtain ⟨t, rfl⟩ := at_ hP
    obtain ⟨h1, h2⟩ := argBest_lt (numAt xs) (xs.size - 1)
    refine h h' tk _ t (old2 hk) ⟨mem _ h1, fun a ha => ?_⟩
    obtain ⟨j, hj, rfl⟩ := mem_getD ha
    rw [List.length_map, Array.length_toList] at hj
    simp only [Bool.false_eq_true, if_false]
    rw [← numAt_eq]; exact h2 j (by omega)
def rMx (K : Fg) (mx : Bool) : List V → Hp → VK → Prop := fun vs H Q => ∃ (a : Addr) (ns : List Int), vs = [V.ref a] ∧ (SqL K H a (ns.map V.int) ∨ SqT K H a (ns.map V.int)) ∧ 0 < ns.length ∧ ∀ m, Best mx ns m → Q (.int m) H
theorem cr_mx {mx : Bool} (hc : X.calm = true) : CallR X (.builtin (if mx = true then "max" else "min")) (rMx X.K mx) := by
  intro pins s σ H vs us Q I r h
  obtain ⟨a, ns, rfl, hs | hs, hne, q⟩ := h
  · cases mx with
    | true => exact cr_max hc pins s σ H _ us Q I r ⟨a, ns, rfl, hs, hne, fun m h1 h2 => q m ⟨h1, fun y hy => by simpa using h2 y hy⟩⟩
    | false => exact cr_min hc pins s σ H _ us Q I r ⟨a, ns, rfl, hs, hne, fun m h1 h2 => q m ⟨h1, fun y hy => by simpa using h2 y hy⟩⟩
  · obtain ⟨its, rv, hl, _⟩ := I.tuple hs
    rw [Vals.ref1 r]
    exact best_tup (I.ok.hd hc) hl rv.ints hne fun h' tk m t' hk hb => ⟨.int _, H, I.kept hk, ⟨_, rfl⟩, q m hb⟩
def wMx (mx : Bool) (x : W) (Q : W → Prop) : Prop := ∃ ns : List Int, seqW x = some (ns.map D.int) ∧ 0 < ns.length ∧ ∀ m, Best mx ns m → Q (.d (.int m))
theorem de_mx {mx : Bool} {a : Expr} {ta : TDE} {p pos : Pos} (hK : C.K = X.K) (hc : X.calm = true) (hg : Gl X (mmN mx)) (hm : X.mg (mmN mx) = none) (ha : PE X a (lift C Wx ta)) (he : starEach [a] X.env = (false, eval a X.env) :: starEach [] X.env) :
    PE X (.Call (.Name (mmN mx) p) [a] [] pos) (lift C Wx (dOp1 (wMx mx) ta)) := by
  have ar : PA X [a] (tCons (lift C Wx ta) tNil) := pa_cons ha pa_nil he
  have fin : PE X (.Call (.Name (mmN mx) p) [a] [] pos) (tCB (rMx X.K mx) (tCons (lift C Wx ta) tNil)) → PE X (.Call (.Name (mmN mx) p) [a] [] pos) (lift C Wx (dOp1 (wMx mx) ta)) := fun pe => pe.imD fun σ H Q q => by
    obtain ⟨R, ds, h, P, Z, e, p, k, z⟩ := q
    refine ⟨R, ds, h, _, Z, e, p, fun R1 H1 h1 w1 v1 ⟨ns, e1, hn, p1⟩ x1 e1' r1 => ?_, z⟩
    obtain ⟨a, vs, rfl, q, t⟩ := rel_seq r1 e1
    cases relDs_ints t
    exact ⟨a, ns, rfl, hK ▸ q, hn, fun m hb => k R1 H1 h1 _ _ (p1 m hb) x1 e1' mw_int⟩
  cases mx with
  | true => exact fin (pe_callB (cr_mx (mx := true) hc) hg hm (by decide +kernel) ar (he := he))
  | false => exact fin (pe_callB (cr_mx (mx := false) hc) hg hm (by decide +kernel) ar (he := he))
def wJoin (x y : W) (Q : W → Prop) : Prop := ∃ (a : Str) (ys : List Str), x = .d (.str a) ∧ seqW y = some (ys.map D.str) ∧ (ys.map (·.length)).sum + ys.length * a.length ≤ 16777216 ∧ Q (.d (.str (Txt.join a ys)))
def dJoin (ta tb : TDE) : TDE := fun ds h P Z => ta ds h (fun x h1 => (∃ a, x = .d (.str a)) ∧ tb ds h1 (fun y h2 => wJoin x y fun z => P z h2) Z) Z
theorem de_join {o b : Expr} {ta tb : TDE} {apos pos : Pos} (hK : C.K = X.K) (ha : PE X o (lift C Wx ta)) (hb : PE X b (lift C Wx tb)) (hs : starEach [b] X.env = [(false, eval b X.env)]) (hbase : attributeBase o "join" X.env (eval o X.env) = eval o X.env) (hline : (apos.endLine == pos.line) = true) :
    PE X (.Call (.Attribute o "join" apos) [b] [] pos) (lift C Wx (dJoin ta tb)) :=
  (pe_join ha hb hs hbase hline).imD fun σ H Q q => by
    obtain ⟨R, ds, h, P, Z, e, p, k, z⟩ := q
    refine ⟨R, ds, h, _, Z, e, p, fun R1 H1 h1 w1 v1 ⟨⟨a, ex⟩, p1⟩ x1 e1 r1 => ?_, z⟩
    subst ex
    cases rw_str r1
    refine ⟨⟨_, rfl⟩, R1, ds, h1, _, Z, e1, p1, fun R2 H2 h2 w2 v2 ⟨a', ys, ea, ey, hl, p2⟩ x2 e2 r2 => ?_, fun R' H' h' x cls dd a b c d => z R' H' h' x cls dd a (x1.trans b) c d⟩
    cases ea
    obtain ⟨b, vs, rfl, q, t⟩ := rel_seq r2 ey
    cases relDs_strs t
    exact ⟨_, b, ys, rfl, rfl, hK ▸ q, hl, k R2 H2 h2 _ _ p2 (x1.trans x2) e2 mw_str⟩
def dwnD (lo : Int) (n : Nat) : List D := (List.range n).map fun (i : Nat) => .int (lo - (i : Int))
def dItR3 (t u v : TDE) : TDI := fun ds h P Z => dCons t (dCons u (dCons v dNil)) ds h (fun xs h' => ∃ i j, xs = [.int i, .int j, .int (-1)] ∧ (-(2 ^ 62) ≤ i ∧ i < 2 ^ 62 ∧ -(2 ^ 62) ≤ j ∧ j < 2 ^ 62) ∧ P (dwnD i (i - j).toNat) h') Z
theorem src_dwn {R : Rg} {H : Hp} {lo : Int} {n : Nat} : Src C R H (dwnD lo n) (Itc lo (-1) n) := by
  have hl : (dwnD lo n).length = n := by unfold dwnD; simp
  refine ⟨fun i _ _ _ hi => by rw [hl] at hi; exact hi, fun _ _ _ => by rw [hl]; exact Nat.le_refl n, fun i R2 H2 v H3 d ds σ h m e2 hd y => ?_⟩
  obtain ⟨rfl, rfl⟩ := y
  have hi : i < n := by rw [← hl]; exact (List.getElem?_eq_some_iff.mp hd).1
  have : D.int (lo - (i : Int)) = d := by
    unfold dwnD at hd
    rw [List.getElem?_map, List.getElem?_range hi] at hd
    cases hd; rfl
  subst this
  have e : lo + (i : Int) * -1 = lo - (i : Int) := by omega
  rw [e]
  exact ⟨Ex.refl _ _, e2, m_int⟩
theorem di_r3 {tg a b c : Expr} {t u v : TDE} {p pos : Pos} (hg : Gl X "range") (hm : X.mg "range" = none) (ha : PE X a (lift C Wx t)) (hb : PE X b (lift C Wx u)) (hc : PE X c (lift C Wx v)) (h1 : starEach [a, b, c] X.env = (false, eval a X.env) :: starEach [b, c] X.env) (h2 : starEach [b, c] X.env = (false, eval b X.env) :: starEach [c] X.env) (h3 : starEach [c] X.env = (false, eval c X.env) :: starEach [] X.env) :
    PI X tg (.Call (.Name "range" p) [a, b, c] [] pos) (liftI C Wx (dItR3 t u v)) :=
  (pi_range3 hg hm (da_cons ha (da_cons hb (da_cons hc da_nil h3) h2) h1) h1 (by rw [h2, h3]; rfl)).imD fun σ H Q q => by
    obtain ⟨R, ds, h, P, Z, e, p, k, z⟩ := q
    refine ⟨R, ds, h, _, Z, e, p, fun R' H' h' d v ⟨i, j, hd, ⟨l1, l2, l3, l4⟩, p'⟩ x e' r => ?_, z⟩
    subst hd
    obtain ⟨v1, vr, rfl, r1, r2⟩ := r_cons r
    obtain ⟨v2, vr, rfl, rb, r3⟩ := r_cons r2
    obtain ⟨v3, vr, rfl, rc, r4⟩ := r_cons r3
    cases r_nil r4
    cases r_int r1
    cases r_int rb
    cases r_int rc
    exact ⟨i, j, -1, _, rfl, RgC.neg l1 l2 l3 l4, k R' H' h' _ _ p' x e' src_dwn⟩
def dExt (i : Nat) (t : TDE) : TDS := fun ds h P => ∃ xs, ds[i]? = some (some (.own xs)) ∧ t ds h (fun w h' => ∃ ys, (w = .new ys ∨ w = .d (.lst ys)) ∧ xs.length + ys.length ≤ sizeLine ∧ P.nx (ds.set i (some (.own (xs ++ ys)))) h') (fun x h' => P.ex x ds h')
theorem ds_ext {i : Nat} {x : Str} {e : Expr} {t : TDE} {p1 apos cpos pos : Pos} (hN : X.N[i]? = some x) (hv : Vis X.env.scope x) (hd : (x == ("__debug__" : Str)) = false) (hcd : (x == ("__classdict__" : Str)) = false) (he : PE X e (lift C Wx t))
    (hs : starEach [e] X.env = (false, eval e X.env) :: starEach [] X.env) (hline : (apos.endLine == cpos.line) = true) (hpl : (((backTo cpos (starEach [e] X.env)).all (fun x => !x.1) && (backToKw cpos (keywordEach [] X.env)).all fun x => x.1.isSome) && decide (([e].length + ([] : List Keyword).length + if ([] : List Keyword).isEmpty = true then 0 else 1) < 30)) = true) (hb : attributeBase (.Name x p1) "extend" X.env (eval (.Name x p1) X.env) = eval (.Name x p1) X.env)
    (hsw : swapsWith (.Call (.Attribute (.Name x p1) "extend" apos) [e] [] cpos) none pos.line X.env = pure false) :
    PS X (.Expr (.Call (.Attribute (.Name x p1) "extend" apos) [e] [] cpos) pos) (liftS C Wx (dExt i t)) :=
  (ps_expr (pe_bm PySem.F.plainAttrs_list PySem.F.slot_list_extend PySem.F.type_list_extend mt_extend (pe_var hN hv hd hcd) (pa_cons he pa_nil hs) hb hpl hline hs) hsw).imD fun D σ H q => by
    obtain ⟨R, ds, h, P, e, ⟨xs, hi, p⟩, k⟩ := q
    obtain ⟨v, hv, a, vs, rfl, q, nf, o, tt⟩ := e.slot i _ hi
    refine ⟨.ref a, hv, .inl ⟨rfl, vs, .inl (.inl q)⟩, R, ds, h, _, _, e, p, fun R' H' h' w u ⟨ys, hw, hl, p'⟩ x e' r => ?_, k.exE e⟩
    have rs := e'.relW hi hv
    obtain ⟨a', vs', ea, q', nf', o', tt'⟩ := rs
    cases ea
    have hw' : lsjW w = some ys := by rcases hw with rfl | rfl <;> rfl
    obtain ⟨b, us, rfl, qb, tb⟩ := rel_lsj r hw'
    obtain ⟨e2, m2⟩ := e'.wr hi hv (relDs_append tt' tb)
    exact ⟨a, b, vs', us, rfl, rfl, q', qb, by rw [← relDs_len tt', ← relDs_len tb]; exact hl, k.nx R' _ _ _ h' e2 ((x.mo e.ok).trans m2) p'⟩
end
end DL
set_option maxHeartbeats 4000000
namespace DL
open PySem PySem.Spec PyProof.Rows L2
section
variable {X : Cx} {C : Cn} {Wx : WX}
/-- how many numbers range(a, b, c) has -/
def rszN (a b c : Int) : Nat := (Builtin.Range.rangeSize a b c).toNat
theorem rsz_bd {a b c : Int} (ha : 0 ≤ a) (hb : 0 ≤ b) (hc : 1 ≤ c) : 0 ≤ Builtin.Range.rangeSize a b c ∧ Builtin.Range.rangeSize a b c ≤ b := by
  unfold Builtin.Range.rangeSize
  rw [if_pos (by omega)]
  split
  · have h1 := Int.ediv_nonneg (a := b - a - 1) (b := c) (by omega) (by omega)
    have h2 := Int.ediv_le_self c (show (0 : Int) ≤ b - a - 1 by omega)
    omega
  · omega
theorem RgC.pos {a b c : Int} (ha : 0 ≤ a) (ha' : a < 2 ^ 40) (hb : 0 ≤ b) (hb' : b < 2 ^ 40) (hc : 1 ≤ c) (hc' : c < 1073741824) : RgC a b c (rszN a b c) := by
  obtain ⟨h1, h2⟩ := rsz_bd ha hb hc
  refine ⟨by omega, by omega, ?_, ?_⟩
  · unfold Builtin.Range.small
    simp only [Builtin.Range.rangeFitsLong, Bool.and_eq_true, Bool.or_eq_true, decide_eq_true_eq, beq_iff_eq]
    rw [if_pos (by omega)]
    simp only [Bool.and_eq_true, decide_eq_true_eq]
    omega
  · unfold rszN; omega
def stpD (lo c : Int) (n : Nat) : List D := (List.range n).map fun (i : Nat) => .int (lo + (i : Int) * c)
def dItR4 (t u v : TDE) : TDI := fun ds h P Z => dCons t (dCons u (dCons v dNil)) ds h (fun xs h' => ∃ i j c, xs = [.int i, .int j, .int c] ∧ (0 ≤ i ∧ i < 2 ^ 40 ∧ 0 ≤ j ∧ j < 2 ^ 40 ∧ 1 ≤ c ∧ c < 1073741824) ∧ P (stpD i c (rszN i j c)) h') Z
theorem src_stp {R : Rg} {H : Hp} {lo c : Int} {n : Nat} : Src C R H (stpD lo c n) (Itc lo c n) := by
  have hl : (stpD lo c n).length = n := by unfold stpD; simp
  refine ⟨fun i _ _ _ hi => by rw [hl] at hi; exact hi, fun _ _ _ => by rw [hl]; exact Nat.le_refl n, fun i R2 H2 v H3 d ds σ h m e2 hd y => ?_⟩
  obtain ⟨rfl, rfl⟩ := y
  have hi : i < n := by rw [← hl]; exact (List.getElem?_eq_some_iff.mp hd).1
  have : D.int (lo + (i : Int) * c) = d := by
    unfold stpD at hd
    rw [List.getElem?_map, List.getElem?_range hi] at hd
    cases hd; rfl
  subst this
  exact ⟨Ex.refl _ _, e2, m_int⟩
theorem di_r4 {tg a b c : Expr} {t u v : TDE} {p pos : Pos} (hg : Gl X "range") (hm : X.mg "range" = none) (ha : PE X a (lift C Wx t)) (hb : PE X b (lift C Wx u)) (hc : PE X c (lift C Wx v)) (h1 : starEach [a, b, c] X.env = (false, eval a X.env) :: starEach [b, c] X.env) (h2 : starEach [b, c] X.env = (false, eval b X.env) :: starEach [c] X.env) (h3 : starEach [c] X.env = (false, eval c X.env) :: starEach [] X.env) :
    PI X tg (.Call (.Name "range" p) [a, b, c] [] pos) (liftI C Wx (dItR4 t u v)) :=
  (pi_range3 hg hm (da_cons ha (da_cons hb (da_cons hc da_nil h3) h2) h1) h1 (by rw [h2, h3] <;> rfl)).imD fun σ H Q q => by
    obtain ⟨R, ds, h, P, Z, e, p, k, z⟩ := q
    refine ⟨R, ds, h, _, Z, e, p, fun R' H' h' d v ⟨i, j, cc, hd, ⟨l1, l2, l3, l4, l5, l6⟩, p'⟩ x e' r => ?_, z⟩
    subst hd
    obtain ⟨v1, vr, rfl, r1, r2⟩ := r_cons r
    obtain ⟨v2, vr, rfl, rb, r3⟩ := r_cons r2
    obtain ⟨v3, vr, rfl, rc, r4⟩ := r_cons r3
    cases r_nil r4
    cases r_int r1
    cases r_int rb
    cases r_int rc
    exact ⟨i, j, cc, _, rfl, RgC.pos l1 l2 l3 l4 l5 l6, k R' H' h' _ _ p' x e' src_stp⟩
end
end DL
set_option maxHeartbeats 4000000
namespace DL
open PySem PySem.Spec PyProof.Rows L2
section
variable {X : Cx} {C : Cn} {Wx : WX}
end
end DL
set_option maxHeartbeats 8000000
namespace DL
open PySem PySem.Spec PyProof.Rows L2
/-- the tuple at a beside the list at b, of one length: new pairs -/
def ItZm (K : Fg) (a b : Addr) : It :=
  ⟨fun i H => ∃ (xs ys : List V) (x y : V), SqT K H a xs ∧ SqL K H b ys ∧ xs[i]? = some x ∧ ys[i]? = some y,
    fun i H v H' => ∃ T x y, v = .ref T ∧ H T = none ∧ H' = upd H T (.tup [x, y]) ∧ (∀ l, SqT K H a l → l[i]? = some x) ∧ ∀ l, SqL K H b l → l[i]? = some y,
    fun i H => ∃ xs ys : List V, SqT K H a xs ∧ SqL K H b ys ∧ xs.length = i ∧ ys.length = i⟩
/-- the cells of such a zip -/
structure ZmA (z p q c d a b : Addr) : Prop where
  pz : p ≠ z
  qz : q ≠ z
  pq : p ≠ q
  pc : p ≠ c
  pd : p ≠ d
  zc : z ≠ c
  zd : z ≠ d
  qc : q ≠ c
  qd : q ≠ d
  cd : c ≠ d
  ac : a ≠ c
  ad : a ≠ d
  bc : b ≠ c
  bd : b ≠ d
  za : z ≠ a
  zb : z ≠ b
  qa : q ≠ a
  qb : q ≠ b
theorem ZmA.sep {z p q c d a b : Addr} (D : ZmA z p q c d a b) : ZipSep2 z p q c d [c, a] [d, b] where
  TIz := D.pz
  TOz := D.qz
  TITO := D.pq
  TIi1 := D.pc
  mem1 := by simp
  zf1 := by simp [D.zc, D.za]
  Tf1 := by simp [D.qc, D.qa]
  TIi2 := D.pd
  mem2 := by simp
  zf2 := by simp [D.zd, D.zb]
  Tf2 := by simp [D.qd, D.qb]
  sep1_2 := by simp [D.cd, Ne.symm D.bc]
  sep2_1 := by simp [Ne.symm D.cd, Ne.symm D.ad]
theorem mem5 {x z p q c d : Addr} (h : x ∈ [z, p, q, c, d]) : x = z ∨ x = p ∨ x = q ∨ x = c ∨ x = d := by simpa using h
theorem zmA_of (n a b : Nat) (ha : a < n) (hb : b < n) : ZmA (n + 4) (n + 2) (n + 3) n (n + 1) a b := by constructor <;> (intro g; have g : _ = (_ : Nat) := g; omega)
theorem mem5n {n x : Nat} (h : x ∈ [n + 4, n + 2, n + 3, n, n + 1]) : n ≤ x := by
  have : x = n + 4 ∨ x = n + 2 ∨ x = n + 3 ∨ x = n ∨ x = n + 1 := by simpa using h
  omega
def ZmS (z p q c d a b : Addr) (i : Nat) (h : Heap) : Prop := IsZip h z p q .none ∧ IsTupOf2 h p (.ref c) (.ref d) ∧ (∃ u v, IsTupOf2 h q u v) ∧ h.IsTupleIter c a i ∧ h.IsListIter d b i
theorem turn_zipM {P : Program} {w : World} {K : Fg} {elts : List Expr} {kk : Nat} {tpos : Pos} {z p q c d a b : Addr} (D : ZmA z p q c d a b) : Turn P w K (.Tuple elts kk tpos) (ItZm K a b) [z, p, q, c, d] z (ZmS z p q c d a b) where
  mem := List.mem_cons_self
  obj := fun i h st x hx => by
    obtain ⟨hz, hp, ⟨u, v, hq⟩, ⟨o1, e1, _, d1⟩, ⟨o2, e2, _, d2⟩⟩ := st
    rcases mem5 hx with g | g | g | g | g <;> subst g
    · exact ⟨_, hz, fun v g => by cases g⟩
    · exact ⟨_, hp, fun v g => by cases g⟩
    · exact ⟨_, hq, fun v g => by cases g⟩
    · exact ⟨o1, e1, fun v g => by rw [d1] at g; cases g⟩
    · exact ⟨o2, e2, fun v g => by rw [d2] at g; cases g⟩
  keep := fun i h h' st k => by
    obtain ⟨hz, hp, ⟨u, v, hq⟩, h1, h2⟩ := st
    exact ⟨k z (by simp) _ hz, k p (by simp) _ hp, ⟨u, v, k q (by simp) _ hq⟩, h1.at fun o g => k c (by simp) o g, h2.at fun o g => k d (by simp) o g⟩
  item := by
    intro X hP hw hK hc i pins s σ H E I hf st hg
    subst hP hw hK
    obtain ⟨hz, hp, ⟨u0, v0, hq⟩, h1, h2⟩ := st
    obtain ⟨xs, ys, x, y, sx, sy, gx, gy⟩ := hg
    obtain ⟨its, rv, pt, _⟩ := I.tuple sx
    obtain ⟨its2, rv2, pl, _⟩ := I.list sy
    obtain ⟨u, hu, ru⟩ := rv.get gx
    obtain ⟨v, hv, rv3⟩ := rv2.get gy
    have hu' : its.toArray[i]? = some u := by simpa using hu
    have hv' : its2.toArray[i]? = some v := by simpa using hv
    have D1 := Draws.tuple (prog := X.prog) (w := X.w) (A := X.A.in1) (I.ok.hd hc) c a D.ac its.toArray
    have D2 := Draws.list (prog := X.prog) (w := X.w) (A := X.A.in1) (I.ok.hd hc) d b D.bd its2.toArray
    have zl : z < s.heap.objs.size := Heap.lt_size hz
    have n1 : i < its.toArray.size := (Array.getElem?_eq_some_iff.mp hu').1
    have n2 : i < its2.toArray.size := (Array.getElem?_eq_some_iff.mp hv').1
    refine wpAny_pyNext_zipD2_item D.sep D1 D2 hz hp hq ⟨h1, pt⟩ ⟨h2, pl.isList⟩ n1 n2 fun x1 x2 h' tk g1 g2 z' q' c' d' t' _ kp => ?_
    have e1 : x1 = u := by rw [hu'] at g1; exact (Option.some.inj g1).symm
    have e2 : x2 = v := by rw [hv'] at g2; exact (Option.some.inj g2).symm
    subst e1 e2
    refine ⟨_, rfl, wpAny_letOwnedTupleGo_zip (s := { s with heap := h', toks := tk }) z' fun h'' z'' sb => ?_⟩
    have t2 : h''.get? s.heap.objs.size = some { cls := .type "tuple", data := .seq #[x1, x2] } := (sb.2 _ (Nat.ne_of_gt zl)).trans t'
    have nw : ObjOk X.prog X.w (upd H s.heap.objs.size (.tup [x, y])) h'' s.heap.objs.size (.tup [x, y]) := ⟨by show 2 ≤ sizeLine; decide, [x1, x2], .cons ru (.cons rv3 .nil), ⟨_, t2, rfl, _, rfl⟩⟩
    have old : ∀ e o, ¬ e ∈ [z, p, q, c, d] → s.heap.get? e = some o → h''.get? e = some o := fun e o ne g => by
      simp only [List.mem_cons, List.not_mem_nil, or_false, not_or] at ne
      exact (sb.2 e ne.1).trans (kp e o ne.1 ne.2.2.1 ne.2.2.2.1 ne.2.2.2.2 g)
    have J : Inv X pins σ (upd H s.heap.objs.size (.tup [x, y])) { s with heap := h'', toks := tk } := I.turnedNew (ch := [z, p, q, c, d]) (fun e o ne g => old e o ne g) hf (Nat.le_refl _) nw
    refine ⟨.ref s.heap.objs.size, _, J, rfl, ⟨_, x, y, rfl, I.hok.fresh (Nat.le_refl _), rfl, fun l hl => by rw [I.tuple_inj hl sx]; exact gx, fun l hl => by rw [I.list_inj hl sy]; exact gy⟩, ?_, fun e he => ?_⟩
    · refine ⟨z'', (sb.2 _ D.pz).trans (kp _ _ D.pz D.pq D.pc D.pd hp), ⟨x1, x2, (sb.2 _ D.qz).trans q'⟩, ?_, ?_⟩
      · exact c'.1.at fun o g => (sb.2 _ (Ne.symm D.zc)).trans g
      · exact d'.1.at fun o g => (sb.2 _ (Ne.symm D.zd)).trans g
    · have lt : e < s.heap.objs.size := by
        rcases mem5 he with g | g | g | g | g <;> subst g
        · exact zl
        · exact Heap.lt_size hp
        · exact Heap.lt_size hq
        · obtain ⟨_, g, _⟩ := h1; exact Heap.lt_size g
        · obtain ⟨_, g, _⟩ := h2; exact Heap.lt_size g
      rw [upd_ne (Nat.ne_of_lt lt)]
      exact (hf e he).1
  done := by
    intro X hP hw hK hc i pins s σ H E I hf st hg
    subst hP hw hK
    obtain ⟨hz, hp, ⟨u0, v0, hq⟩, h1, h2⟩ := st
    obtain ⟨xs, ys, sx, sy, gx, gy⟩ := hg
    obtain ⟨its, rv, pt, _⟩ := I.tuple sx
    obtain ⟨its2, rv2, pl, _⟩ := I.list sy
    have D1 := Draws.tuple (prog := X.prog) (w := X.w) (A := X.A.in1) (I.ok.hd hc) c a D.ac its.toArray
    have D2 := Draws.list (prog := X.prog) (w := X.w) (A := X.A.in1) (I.ok.hd hc) d b D.bd its2.toArray
    have l1 : its.toArray.size = i := by rw [List.size_toArray, ← rv.length]; exact gx
    have l2 : its2.toArray.size = i := by rw [List.size_toArray, ← rv2.length]; exact gy
    refine wpAny_pyNext_zipD2_end D.sep D1 D2 hz hp hq ⟨h1, pt⟩ ⟨h2, pl.isList⟩ (by omega) (by omega) (by omega) fun h' tk kp => ⟨rfl, ?_⟩
    refine I.turnedL (ch := [z, p, q, c, d]) (fun e o ne g => ?_) hf
    simp only [List.mem_cons, List.not_mem_nil, or_false, not_or] at ne
    exact kp e o ne.1 ne.2.2.1 ne.2.2.2.1 ne.2.2.2.2 g
  self := fun A i s Q E st k => wpAny_pyIter_zip st.1 k
def iZipM (K : Fg) (ta : TA) : TI := fun σ H R => ta σ H fun vs H1 => ∃ a b xs ys, vs = [.ref a, .ref b] ∧ SqT K H1 a xs ∧ SqL K H1 b ys ∧ R (ItZm K a b) H1
theorem pi_zipM {X : Cx} {e e2 : Expr} {ta : TA} {p pos tpos : Pos} {elts : List Expr} {kk : Nat} (hg : Gl X "zip") (hm : X.mg "zip" = none) (ha : PA X [e, e2] ta)
    (hs : starEach [e, e2] X.env = (false, eval e X.env) :: starEach [e2] X.env) (hpl : (backTo pos (starEach [e2] X.env)).any (·.1) = false) :
    PI X (.Tuple elts kk tpos) (.Call (.Name "zip" p) [e, e2] [] pos) (iZipM X.K ta) := by
  refine ⟨fun pins s σ H R I z => ?_⟩
  refine Call_ (ld_blt I hg hm PyProof.Rows.boot_zip (PyProof.Rows.callWith_type1 (thn (ha.run pos pins s σ H _ I z) fun us s1 ⟨vs, H1, I1, r1, q1⟩ => ?_) hs hpl))
  obtain ⟨a, b, xs, ys, rfl, sx, sy, q⟩ := q1
  cases r1 with
  | cons ra rr =>
    cases rr with
    | cons rb rr =>
      cases rr
      cases ra
      cases rb
      obtain ⟨its, rv, pt, _⟩ := I1.tuple sx
      obtain ⟨its2, rv2, pl, _⟩ := I1.list sy
      have al : a < s1.heap.objs.size := by obtain ⟨o, g, _⟩ := id pt; exact Heap.lt_size g
      have bl : b < s1.heap.objs.size := pl.lt
      refine zip_begins2 (begins_tuple a its.toArray) (begins_list b its2.toArray) pt pl.isList fun h' hz hp hq g1 g2 _ kp => wpAny_pyIter_zip hz ?_
      have I2 : Inv X pins σ H1 { s1 with heap := h' } := I1.kept (t' := s1.toks) kp
      refine ⟨s1.heap.objs.size + 4, [s1.heap.objs.size + 4, s1.heap.objs.size + 2, s1.heap.objs.size + 3, s1.heap.objs.size, s1.heap.objs.size + 1], _, _, H1, rfl, I2, turn_zipM (zmA_of _ a b al bl), ⟨hz, hp, ⟨_, _, hq⟩, ⟨_, g1, rfl, rfl⟩, ⟨_, g2, rfl, rfl⟩⟩, fun e he => ?_, q⟩
      have ge : s1.heap.objs.size ≤ e := mem5n he
      exact I1.fpOk ge (I1.hok.fresh ge)
end DL
set_option maxHeartbeats 8000000
namespace DL
open PySem PySem.Spec PyProof.Rows L2
section
variable {prog : Program} {w : World} {A : Around} {E : Value → Shared → Prop} {s : Shared}
abbrev shI : Nat → Bool := fun _ => false
def kI (h : Heap) (v : Value) : List (Int ⊕ List Nat) := (tupKey h shI v).getD []
/-- a tuple of the numbers ns, one at least -/
def IsTI (h : Heap) (v : Value) (ns : List Int) : Prop := ∃ a o us n, v = .ref a ∧ h.get? a = some o ∧ o.cls = .type "tuple" ∧ o.data = .seq us n ∧ Vals (ns.map V.int) us.toList ∧ ns ≠ []
theorem IsTI.keeps {h h' : Heap} {v : Value} {ns : List Int} (p : IsTI h v ns) (k : ∀ b o, h.get? b = some o → o.cls = .type "tuple" → h'.get? b = some o) : IsTI h' v ns := by
  obtain ⟨a, o, us, n, e, ho, hc, r⟩ := p
  exact ⟨a, o, us, n, e, k _ _ ho hc, hc, r⟩
end
end DL
set_option maxHeartbeats 8000000
namespace DL
open PySem PySem.Spec PyProof.Rows L2
def fI (h : Heap) (v : Value) : List Int := (kI h v).filterMap fun x => match x with
  | .inl i => some i
  | .inr _ => none
section
variable {X : Cx} {pins : List (Addr × Obj)} {σ : L2.St} {H : Hp} {s : Shared}
end
end DL
set_option maxHeartbeats 8000000
namespace DL
open PySem PySem.Spec PyProof.Rows L2
def keyD : Key → D
  | .inl i => .int i
  | .inr x => .str x
def keyTD (k : List Key) : D := .tup (k.map keyD)
def keysD : List D → Option (List Key)
  | [] => some []
  | .int i :: r => (keysD r).map (.inl i :: ·)
  | .str x :: r => (keysD r).map (.inr x :: ·)
  | _ => none
def keyT : W → Option (List Key)
  | .d (.tup xs) => keysD xs
  | _ => none
theorem keysD_map : ∀ k : List Key, keysD (k.map keyD) = some k
  | [] => rfl
  | .inl i :: k => by simp [keyD, keysD, keysD_map k]
  | .inr x :: k => by simp [keyD, keysD, keysD_map k]
@[simp] theorem keyT_k (k : List Key) : keyT (.d (keyTD k)) = some k := keysD_map k
section
variable {K : Fg} {R : Rg} {H H₁ : Hp}
theorem keysD_of : ∀ {xs : List D} {vs : List V} {k : List Key}, RelDs K R H xs vs → keysD xs = some k → vs = k.map kV
  | [], vs, k, r, e => by cases r_nil r; cases e; rfl
  | d :: xs, vs, k, r, e => by
    obtain ⟨v, q, rfl, r1, r2⟩ := r_cons r
    cases d <;> first | (simp [keysD] at e; done) | skip
    · simp only [keysD] at e
      obtain ⟨k', e1, rfl⟩ := Option.map_eq_some_iff.mp e
      cases r_int r1
      rw [keysD_of r2 e1]; rfl
    · simp only [keysD] at e
      obtain ⟨k', e1, rfl⟩ := Option.map_eq_some_iff.mp e
      cases r_str r1
      rw [keysD_of r2 e1]; rfl
theorem keyT_of {w : W} {v : V} {k : List Key} (r : RelW K H₁ R H w v) (e : keyT w = some k) : ∃ b, v = .ref b ∧ H b = some (.tup (k.map kV)) := by
  unfold keyT at e
  split at e
  · obtain ⟨a, vs, rfl, q, t⟩ := rw_tup r
    rw [keysD_of t e] at q
    exact ⟨a, rfl, q⟩
  · cases e
theorem key_rel : ∀ {k : List Key}, RelDs K R H (k.map keyD) (k.map kV)
  | [] => m_nil
  | .inl i :: k => m_cons m_int key_rel
  | .inr x :: k => m_cons m_str key_rel
end
section
variable {X : Cx} {C : Cn} {Wx : WX}
def rDin (ng : Bool) : R2 := fun y x H Q => ∃ a o, x = .ref a ∧ DGet H a y o ∧ Q (.bl (xor ng o.isSome)) H
def inP (ng : Bool) : CmpOp := if ng then .NotIn else .In
theorem op_din (ng : Bool) (hu : X.A.units + 1 < cLine) : OpR X (compareOp (inP ng)) (rDin ng) := by
  intro pins s σ H x y v u Q I rx ry h
  obtain ⟨a, o, rfl, g, q⟩ := h
  obtain rfl : u = Value.ref a := ry
  cases ng with
  | false => exact d_in hu I g rx fun s3 I3 => ⟨.bl o.isSome, H, I3, rfl, by simpa using q⟩
  | true => exact d_notIn hu I g rx fun s3 I3 => ⟨.bl (!o.isSome), H, I3, rfl, by simpa using q⟩
def dItZ (ta tb : TDE) : TDI := fun ds h P Z => dCons ta (dCons tb dNil) ds h (fun xs h' => ∃ as bs, xs = [.tup as, .lst bs] ∧ as.length = bs.length ∧ P ((as.zip bs).map fun p => .tup [p.1, p.2]) h') Z
theorem di_zip {elts : List Expr} {kk : Nat} {tp : Pos} {a b : Expr} {ta tb : TDE} {p pos : Pos} (hK : C.K = X.K) (hg : Gl X "zip") (hm : X.mg "zip" = none) (ha : PE X a (lift C Wx ta)) (hb : PE X b (lift C Wx tb)) (hs : starEach [a, b] X.env = (false, eval a X.env) :: starEach [b] X.env) (hs2 : starEach [b] X.env = (false, eval b X.env) :: starEach [] X.env) :
    PI X (.Tuple elts kk tp) (.Call (.Name "zip" p) [a, b] [] pos) (liftI C Wx (dItZ ta tb)) :=
  (pi_zipM hg hm (da_cons ha (da_cons hb da_nil hs2) hs) hs (by rw [hs2]; rfl)).imD fun σ H Q q => by
    obtain ⟨R, ds, h, P, Z, e, p, k, z⟩ := q
    refine ⟨R, ds, h, _, Z, e, p, fun R' H' h' xs vs ⟨as, bs, hx, hl, p'⟩ x e' r => ?_, z⟩
    subst hx
    obtain ⟨v1, q1, rfl, r1, r2⟩ := r_cons r
    obtain ⟨v2, q2, rfl, r3, r4⟩ := r_cons r2
    cases r_nil r4
    obtain ⟨x1, us, rfl, s1, t1⟩ := r_tup r1
    obtain ⟨x2, ws, rfl, s2, t2⟩ := r_lst r3
    refine ⟨x1, x2, us, ws, rfl, s1.sq, hK ▸ s2.sq, k R' H' h' _ _ p' x e' ?_⟩
    rw [← hK]
    have lz : ((as.zip bs).map fun p => D.tup [p.1, p.2]).length = as.length := by simp [hl]
    have l1 := relDs_len t1
    have l2 := relDs_len t2
    refine ⟨fun i R2 H2 m hi => ?_, fun R2 H2 m => ⟨us, ws, (m.tup _ _ s1).sq, (m.lst _ _ s2).sq, by omega, by omega⟩, fun i R2 H2 v H3 d ds σ h m e2 hd y => ?_⟩
    · have h1 : i < us.length := by omega
      have h2 : i < ws.length := by omega
      exact ⟨us, ws, us[i], ws[i], (m.tup _ _ s1).sq, (m.lst _ _ s2).sq, by simp [h1], by simp [h2]⟩
    · obtain ⟨T, y1, y2, rfl, nT, rfl, g1, g2⟩ := y
      have hi : i < as.length := by rw [← lz]; exact (List.getElem?_eq_some_iff.mp hd).1
      have hi2 : i < bs.length := by omega
      have ed : d = .tup [as[i], bs[i]] := by
        rw [List.getElem?_map, List.getElem?_eq_getElem (show i < (as.zip bs).length by rw [List.length_zip]; omega)] at hd
        simp at hd
        exact hd.symm
      subst ed
      obtain ⟨u, hu, ru⟩ := relDs_get t1 (List.getElem?_eq_getElem hi)
      obtain ⟨w, hw, rw_⟩ := relDs_get t2 (List.getElem?_eq_getElem hi2)
      have f1 := g1 us (m.tup _ _ s1).sq
      have f2 := g2 ws (m.lst _ _ s2).sq
      rw [hu] at f1; cases f1
      rw [hw] at f2; cases f2
      exact ⟨Ex.fresh nT, e2.fresh nT, m_tup upd_same (m_cons (relD_ex e2.ok (Ex.fresh nT) (relD_mo m ru)) (m_cons (relD_ex e2.ok (Ex.fresh nT) (relD_mo m rw_)) m_nil))⟩
end
end DL
set_option maxHeartbeats 8000000
namespace DL
open PySem PySem.Spec PyProof.Rows L2
inductive SM where
  | starts | ends
def SM.nm : SM → Str
  | .starts => "startswith" | .ends => "endswith"
def SM.f : SM → Str → Str → Bool
  | .starts => Txt.startswith | .ends => Txt.endswith
section
variable {X : Cx} {C : Cn} {Wx : WX}
end
end DL
set_option maxHeartbeats 8000000
namespace DL
open PySem PySem.Spec PyProof.Rows L2
section
variable {prog : Program} {w : World} {A : Around} {E : Value → Shared → Prop} {s : Shared}
/-- a tuple whose first item is the text y -/
def IsTX (h : Heap) (v : Value) (y : Str) : Prop := ∃ a o us n t r, v = .ref a ∧ h.get? a = some o ∧ o.cls = .type "tuple" ∧ o.data = .seq us n ∧ us.toList = Value.str y t :: r
theorem IsTX.keeps {h h' : Heap} {v : Value} {y : Str} (p : IsTX h v y) (k : ∀ b o, h.get? b = some o → o.cls = .type "tuple" → h'.get? b = some o) : IsTX h' v y := by
  obtain ⟨a, o, us, n, t, r, e, ho, hc, q⟩ := p
  exact ⟨a, o, us, n, t, r, e, k _ _ ho hc, hc, q⟩
end
section
variable {X : Cx} {pins : List (Addr × Obj)} {σ : L2.St} {H : Hp} {s : Shared}
end
end DL
set_option maxHeartbeats 8000000
namespace DL
open PySem PySem.Spec PyProof.Rows L2
section
variable {prog : Program} {w : World} {A : Around} {E : Value → Shared → Prop} {s : Shared} {l : Addr}
end
section
variable {X : Cx} {C : Cn} {Wx : WX}
end
end DL
set_option maxHeartbeats 8000000
namespace DL
open PySem PySem.Spec PyProof.Rows L2
section
variable {prog : Program} {w : World} {A : Around} {E : Value → Shared → Prop} {s : Shared} {h0 : Heap} {a kS : Addr} {vs : List Value} {ks : List Str} {keys : Array Value} {e e1 : Nat} {P : PySem.Fin → Shared → Prop}
end
end DL
set_option maxHeartbeats 8000000
namespace DL
open PySem PySem.Spec PyProof.Rows L2
section
variable {prog : Program} {w : World} {A : Around} {s : Shared}
end
section
variable {X : Cx} {pins : List (Addr × Obj)} {σ : L2.St} {H : Hp} {s : Shared}
end
section
variable {X : Cx} {C : Cn} {Wx : WX}
end
end DL
set_option maxHeartbeats 8000000
namespace L2
open PySem PySem.Spec PyProof.Rows
section
variable {X : Cx} {pins : List (Addr × Obj)} {σ : St} {H : Hp} {s : Shared} {d : Addr} {o : Obj}
end
/-- the thing at d is locked for good -/
def tLockF (t : TS) : TS := fun D σ H => ∃ d u, H d = some u ∧ Mut (some u) ∧ ∀ od, t D σ (upd H d (.frz od u))
theorem ps_lockF {X : Cx} {st : Stmt} {t : TS} (h : PS X st t) : PS X st (tLockF t) := by
  refine ⟨fun pins s σ H D I hw => ?_⟩
  obtain ⟨d, u, hd, mu, hw⟩ := hw
  obtain ⟨od, I1⟩ := I.lock hd mu
  exact h.run pins s σ _ _ I1 (hw od)
end L2
namespace DL
open PySem PySem.Spec PyProof.Rows L2
section
variable {K : Fg} {R : Rg} {H : Hp}
theorem relKd_get {κ : Type} : ∀ {kvs : List (κ × D)} {ks : List (κ × V)} {i : Nat} {k : κ} {v : V}, RelKd K R H kvs ks → ks[i]? = some (k, v) → ∃ d, kvs[i]? = some (k, d) ∧ RelD K R H d v
  | [], ks, i, k, v, r, e => by cases (show ks = [] from r); simp at e
  | (x, y) :: kvs, ks, i, k, v, r, e => by
    obtain ⟨u, q, rfl, r1, r2⟩ := r
    cases i with
    | zero => simp at e; obtain ⟨rfl, rfl⟩ := e; exact ⟨y, rfl, r1⟩
    | succ i => exact relKd_get (i := i) r2 (by simpa using e)
end
section
variable {X : Cx} {C : Cn} {Wx : WX}
theorem src_keysT {R : Rg} {H : Hp} {a : Addr} {o : Obj} {kvs : List (List Key × D)} {ks : List (List Key × V)} (e : H a = some (.frz o (.dT ks))) (t : RelKd C.K R H kvs ks) : Src C R H (kvs.map fun kv => keyTD kv.1) (Itkt a o ks) := by
  refine ⟨fun i R' H' m hi => ⟨m.lk _ _ _ e, by simpa [relKd_len t] using hi⟩, fun R' H' m => ⟨m.lk _ _ _ e, by simp [relKd_len t]⟩, fun i R' H' v H2 d ds σ h m e2 hd y => ?_⟩
  obtain ⟨rfl, k, u, q, hk, rfl, hq⟩ := y
  obtain ⟨d', hd', _⟩ := relKd_get t hk
  rw [List.getElem?_map, hd'] at hd
  cases hd
  refine ⟨Ex.refl _ _, e2, ?_⟩
  show RelD C.K R' _ (.tup (k.map keyD)) (.ref q)
  unfold RelD
  exact ⟨q, _, rfl, hq, key_rel⟩
theorem src_keysK {R : Rg} {H : Hp} {a : Addr} {o : Obj} {kvs : List (Key × D)} {ks : List (Key × V)} (e : H a = some (.frz o (.dK ks))) (t : RelKd C.K R H kvs ks) : Src C R H (kvs.map fun kv => keyD kv.1) (Itk a o ks) := by
  refine ⟨fun i R' H' m hi => ⟨m.lk _ _ _ e, by simpa [relKd_len t] using hi⟩, fun R' H' m => ⟨m.lk _ _ _ e, by simp [relKd_len t]⟩, fun i R' H' v H2 d ds σ h m e2 hd y => ?_⟩
  obtain ⟨rfl, k, u, hk, rfl⟩ := y
  obtain ⟨d', hd', _⟩ := relKd_get t hk
  rw [List.getElem?_map, hd'] at hd
  cases hd
  refine ⟨Ex.refl _ _, e2, ?_⟩
  cases k with
  | inl i => exact m_int
  | inr x => exact m_str
theorem src_itemsK {R : Rg} {H : Hp} {a : Addr} {o : Obj} {kvs : List (Key × D)} {ks : List (Key × V)} (e : H a = some (.frz o (.dK ks))) (t : RelKd C.K R H kvs ks) : Src C R H (kvs.map fun kv => .tup [keyD kv.1, kv.2]) (Iti a o ks) := by
  refine ⟨fun i R' H' m hi => ⟨m.lk _ _ _ e, by simpa [relKd_len t] using hi⟩, fun R' H' m => ⟨m.lk _ _ _ e, by simp [relKd_len t]⟩, fun i R' H' v H2 d ds σ h m e2 hd y => ?_⟩
  obtain ⟨T, k, u, hk, rfl, hT, rfl⟩ := y
  obtain ⟨d', hd', r⟩ := relKd_get t hk
  rw [List.getElem?_map, hd'] at hd
  cases hd
  have x1 : Ex R' H' R' (upd H' T (.tup [kV k, u])) := Ex.fresh hT
  refine ⟨x1, e2.fresh hT, ?_⟩
  unfold RelD
  refine ⟨T, [kV k, u], rfl, upd_same, m_cons ?_ (m_cons (relD_ex e2.ok x1 (relD_mo m r)) m_nil)⟩
  cases k with
  | inl i => exact m_int
  | inr x => exact m_str
/-- for k in d -/
def dItDk (t : TDE) : TDI := fun ds h P Z => dD t ds h (fun d h' => ∃ n, d = .ref n ∧ ((∃ kvs, h'[n]? = some (.fit kvs) ∧ P (kvs.map fun kv => keyTD kv.1) h') ∨ ∃ kvs, h'[n]? = some (.fic kvs) ∧ P (kvs.map fun kv => keyD kv.1) h')) Z
theorem di_dk {tg e : Expr} {t : TDE} (he : PE X e (lift C Wx t)) : PI X tg e (liftI C Wx (dItDk t)) := (pi_keys (pe_D he)).imD fun σ H Q q => by
  obtain ⟨R, ds, h, P, Z, e, p, k, z⟩ := q
  refine ⟨R, ds, h, _, Z, e, p, fun R' H' h' d v ⟨n, hd, p'⟩ x e' r => ?_, z⟩
  subst hd
  obtain ⟨_, rfl⟩ := r_ref r
  rcases p' with ⟨kvs, hn, p'⟩ | ⟨kvs, hn, p'⟩
  · obtain ⟨u, hu, o, ks, rfl, t⟩ := e'.ok.obj n _ hn
    exact ⟨_, o, rfl, .inr ⟨ks, hu, k R' H' h' _ _ p' x e' (src_keysT hu t)⟩⟩
  · obtain ⟨u, hu, o, ks, rfl, t⟩ := e'.ok.obj n _ hn
    exact ⟨_, o, rfl, .inl ⟨ks, hu, k R' H' h' _ _ p' x e' (src_keysK hu t)⟩⟩
def dItCi (t : TDE) : TDI := fun ds h P Z => dD t ds h (fun d h' => ∃ n, d = .ref n ∧ ∃ kvs, h'[n]? = some (.fic kvs) ∧ P (kvs.map fun kv => .tup [keyD kv.1, kv.2]) h') Z
theorem di_ci {elts : List Expr} {kk : Nat} {tpos apos cpos : Pos} {e : Expr} {t : TDE} (he : PE X e (lift C Wx t)) (hbase : attributeBase e "items" X.env (eval e X.env) = eval e X.env) (hline : (apos.endLine == cpos.line) = true) :
    PI X (.Tuple elts kk tpos) (.Call (.Attribute e "items" apos) [] [] cpos) (liftI C Wx (dItCi t)) := (pi_items (pe_D he) hbase hline).imD fun σ H Q q => by
  obtain ⟨R, ds, h, P, Z, e, p, k, z⟩ := q
  refine ⟨R, ds, h, _, Z, e, p, fun R' H' h' d v ⟨n, hd, kvs, hn, p'⟩ x e' r => ?_, z⟩
  subst hd
  obtain ⟨_, rfl⟩ := r_ref r
  obtain ⟨u, hu, o, ks, rfl, t⟩ := e'.ok.obj n _ hn
  exact ⟨_, o, ks, rfl, hu, k R' H' h' _ _ p' x e' (src_itemsK hu t)⟩
def dFzd (i : Nat) (t : TDS) : TDS := fun ds h P => ∃ n, ds[i]? = some (some (.d (.ref n))) ∧ ((∃ kvs, h[n]? = some (.dit kvs) ∧ t ds (h.set n (.fit kvs)) P) ∨ ∃ kvs, h[n]? = some (.dic kvs) ∧ t ds (h.set n (.fic kvs)) P)
theorem ds_fzd {i : Nat} {st : Stmt} {t : TDS} (hs : PS X st (liftS C Wx t)) : PS X st (liftS C Wx (dFzd i t)) := (ps_lockF hs).imD fun D σ H q => by
  obtain ⟨R, ds, h, P, e, ⟨n, hi, p⟩, k⟩ := q
  rcases p with ⟨kvs, hn, p⟩ | ⟨kvs, hn, p⟩
  · obtain ⟨u, hu, ks, rfl, t⟩ := e.ok.obj n _ hn
    refine ⟨R.at_ n, .dT ks, hu, trivial, fun od => ?_⟩
    obtain ⟨e1, m1⟩ := e.hw (o2 := .fit kvs) (u2 := .frz od (.dT ks)) hn ⟨od, ks, rfl, t⟩
    exact ⟨R, ds, _, P, e1, p, k.later m1⟩
  · obtain ⟨u, hu, ks, rfl, t⟩ := e.ok.obj n _ hn
    refine ⟨R.at_ n, .dK ks, hu, trivial, fun od => ?_⟩
    obtain ⟨e1, m1⟩ := e.hw (o2 := .fic kvs) (u2 := .frz od (.dK ks)) hn ⟨od, ks, rfl, t⟩
    exact ⟨R, ds, _, P, e1, p, k.later m1⟩
def dFin (ng : Bool) (ta td : TDE) : TDE := fun ds h P Z => ta ds h (fun y h1 => td ds h1 (fun x h2 => ∃ n kvs k, x = .d (.ref n) ∧ h2[n]? = some (.fit kvs) ∧ keyT y = some k ∧ P (.d (.bl (xor ng (valD kvs k).isSome))) h2) Z) Z
def dFinT (ng : Bool) (ta td : TDE) : TDT := fun ds h P Z => ta ds h (fun y h1 => td ds h1 (fun x h2 => ∃ n kvs k, x = .d (.ref n) ∧ h2[n]? = some (.fit kvs) ∧ keyT y = some k ∧ P (xor ng (valD kvs k).isSome) h2) Z) Z
theorem fin_of {R : Rg} {H H0 : Hp} {ds : DSt} {σ : Sl} {h : Hs} {n : Nat} {kvs : List (List Key × D)} {k : List Key} {y : W} {v u : V} {P : Bool → Prop} {Q : VK} {ng : Bool} (e : Env C R ds σ H h) (ry : RelW C.K H0 R H y v) (rx : RelW C.K H0 R H (.d (.ref n)) u) (hn : h[n]? = some (.fit kvs)) (hk : keyT y = some k)
    (p : P (xor ng (valD kvs k).isSome)) (kk : ∀ b, P b → Q (.bl b) H) : rDin ng v u H Q := by
  have rx : RelD C.K R H (.ref n) u := rx
  obtain ⟨_, rfl⟩ := r_ref rx
  obtain ⟨uo, hu', o, ks, rfl, t⟩ := e.ok.obj n _ hn
  obtain ⟨b, rfl, hb⟩ := keyT_of ry hk
  refine ⟨_, _, rfl, .inr ⟨ks, k, b, .inr ⟨o, hu'⟩, rfl, hb, rfl⟩, kk _ ?_⟩
  have : (valV ks k).isSome = (valD kvs k).isSome := by
    cases g : valD kvs k with
    | none => rw [relKd_no t g]; rfl
    | some d => obtain ⟨v, e3, _⟩ := relKd_val t g; rw [e3]; rfl
  rw [this]; exact p
theorem de_fin {ng : Bool} {a b : Expr} {ta tb : TDE} {pos : Pos} (hu : X.A.units + 1 < cLine) (hm : behindInMarks (inP ng) b = false) (ha : PE X a (lift C Wx ta)) (hb : PE X b (lift C Wx tb)) : PE X (.Compare a [inP ng] [b] pos) (lift C Wx (dFin ng ta tb)) :=
  (pe_cmpR (op_din ng hu) ha hb hm).imD fun σ H Q q => by
    obtain ⟨R, ds, h, P, Z, e, p, k, z⟩ := q
    refine ⟨R, ds, h, _, Z, e, p, fun R1 H1 h1 w1 v1 p1 x1 e1 r1 => ?_, z⟩
    refine ⟨R1, ds, h1, _, Z, e1, p1, fun R2 H2 h2 w2 v2 ⟨n, kvs, ky, hx, hn, hk, p2⟩ x2 e2 r2 => ?_, fun R' H' h' x cls dd a b c d => z R' H' h' x cls dd a (x1.trans b) c d⟩
    subst hx
    exact fin_of (P := fun b => P (.d (.bl b)) h2) e2 (relW_ex e1.ok x2 r1) (relW_start x1.dom r2) hn hk p2 fun b pb => k R2 H2 h2 _ _ pb (x1.trans x2) e2 mw_bl
theorem dt_fin {ng : Bool} {a b : Expr} {ta tb : TDE} {pos : Pos} (hu : X.A.units + 1 < cLine) (hm : behindInMarks (inP ng) b = false) (ha : PE X a (lift C Wx ta)) (hb : PE X b (lift C Wx tb)) : PT X (.Compare a [inP ng] [b] pos) (liftT C Wx (dFinT ng ta tb)) :=
  (pt_cmpR (op_din ng hu) ha hb hm).imD fun σ H Q q => by
    obtain ⟨R, ds, h, P, Z, e, p, k, z⟩ := q
    refine ⟨R, ds, h, _, Z, e, p, fun R1 H1 h1 w1 v1 p1 x1 e1 r1 => ?_, z⟩
    refine ⟨R1, ds, h1, _, Z, e1, p1, fun R2 H2 h2 w2 v2 ⟨n, kvs, ky, hx, hn, hk, p2⟩ x2 e2 r2 => ?_, fun R' H' h' x cls dd a b c d => z R' H' h' x cls dd a (x1.trans b) c d⟩
    subst hx
    exact fin_of (P := fun b => P b h2) e2 (relW_ex e1.ok x2 r1) (relW_start x1.dom r2) hn hk p2 fun b pb => ⟨b, rfl, k R2 H2 h2 b pb (x1.trans x2) e2⟩
/-- a list in flight or at rest -/
def isL : W → Bool
  | .own _ => true
  | .new _ => true
  | .d (.lst _) => true
  | .d (.fro _) => true
  | _ => false
def dIdx (ta tb : TDE) : TDE := fun ds h P Z => ta ds h (fun x h1 => isL x = true ∧ tb ds h1 (fun y h2 => ∃ d xs j z, pyW x = some (.list xs) ∧ pyW y = some d ∧ SeqAt.shaped (.list xs) = true ∧ SeqAt.shaped d = true ∧ xs[j]? = some z ∧ PyData.eqv z d = true ∧
  (∀ (m : Nat) (z' : PyData), m < j → xs[m]? = some z' → PyData.eqv z' d = false) ∧ P (.d (.int (j : Nat))) h2) Z) Z
theorem isL_of {R : Rg} {H H1 : Hp} {x : W} {v : V} (r : RelW C.K H1 R H x v) (h : isL x = true) : ∃ a vs, v = .ref a ∧ SqL C.K H a vs := by
  cases x with
  | own xs => obtain ⟨a, vs, e, q, _⟩ := r; exact ⟨a, vs, e, .inl (.inl q)⟩
  | new xs => obtain ⟨a, vs, e, _, q, _⟩ := r; exact ⟨a, vs, e, .inl (.inl q)⟩
  | fn _ => cases h
  | d x =>
    cases x with
    | lst xs => obtain ⟨a, vs, e, q, _⟩ := r_lst r; exact ⟨a, vs, e, q.sq⟩
    | fro xs => obtain ⟨a, vs, e, q, _⟩ := r_fro r; exact ⟨a, vs, e, q.sq⟩
    | _ => cases h
theorem de_idx {o b : Expr} {ta tb : TDE} {apos pos : Pos} (hK : C.K = X.K) (hu : X.A.units + 65 < cLine) (ha : PE X o (lift C Wx ta)) (hb : PE X b (lift C Wx tb)) (hs : starEach [b] X.env = [(false, eval b X.env)]) (hbase : attributeBase o "index" X.env (eval o X.env) = eval o X.env) (hline : (apos.endLine == pos.line) = true) :
    PE X (.Call (.Attribute o "index" apos) [b] [] pos) (lift C Wx (dIdx ta tb)) := by
  have hA : PA X [b] (tCons (lift C Wx tb) tNil) := pa_cons hb pa_nil hs
  have hp := pe_bm (name := "index") (apos := apos) (cpos := pos) F.plainAttrs_list F.slot_list_index F.type_list_index (mt_indexD hu) ha hA hbase (by rw [hs]; rfl) hline (by rw [hs]; rfl) rfl
  refine hp.imD fun σ H Q q => ?_
  obtain ⟨R, ds, h, P, Z, e, p, k, z⟩ := q
  refine ⟨R, ds, h, _, Z, e, p, fun R1 H1 h1 w1 v1 ⟨il, p1⟩ x1 e1 r1 => ?_, z⟩
  obtain ⟨a, vs, rfl, sq⟩ := isL_of r1 il
  refine ⟨.inl ⟨rfl, vs, hK ▸ sq⟩, R1, ds, h1, _, Z, e1, p1, fun R2 H2 h2 w2 v2 ⟨d, xs, j, zz, hx, hy, s1, s2, hj, he, hn, p2⟩ x2 e2 r2 => ?_, fun R' H' h' x cls dd a b c d => z R' H' h' x cls dd a (x1.trans b) c d⟩
  refine ⟨a, v2, d, xs, j, zz, rfl, rfl, hK ▸ dpW_of (relW_ex e1.ok x2 r1) hx, hK ▸ dpW_of r2 hy, s1, s2, hj, he, hn, k R2 H2 h2 _ _ p2 (x1.trans x2) e2 mw_int⟩
end
end DL
namespace DL
open PySem PySem.Spec PyProof.Rows L2
section
variable {X : Cx} {C : Cn} {Wx : WX}
end
end DL
namespace DL
open PySem PySem.Spec PyProof.Rows L2
section
variable {X : Cx} {C : Cn} {Wx : WX}
end
end DL
set_option maxHeartbeats 8000000
namespace DL
open PySem PySem.Spec PyProof.Rows L2
section
variable {X : Cx} {C : Cn} {Wx : WX}
end
end DL
set_option maxHeartbeats 8000000
namespace DT
open PySem PySem.W PySem.Calls PyProof.Rows PyProof.V PySem.Spec
section
variable {K : Type} [DecidableEq K]
variable {prog : Program} {w : World} {knd : HeapKind prog w K} {A : Around} {E : Value → Shared → Prop} {s : Shared}
end
end DT
namespace L2
open PySem PySem.Spec PyProof.Rows
section
variable {X : Cx} {o e : Expr} {apos cpos : Pos} {td ty : TE}
end
end L2
namespace DL
open PySem PySem.Spec PyProof.Rows L2
section
variable {X : Cx} {C : Cn} {Wx : WX}
end
end DL
set_option maxHeartbeats 8000000
namespace L2
open PySem PySem.Spec PyProof.Rows
section
variable {X : Cx}
end
end L2
namespace DL
open PySem PySem.Spec PyProof.Rows L2
section
variable {X : Cx} {C : Cn} {Wx : WX}
end
end DL
set_option maxHeartbeats 8000000
namespace L2
open PySem PySem.Spec PyProof.Rows
section
variable {X : Cx}
end
end L2
namespace DL
open PySem PySem.Spec PyProof.Rows L2
section
variable {X : Cx} {C : Cn} {Wx : WX}
end
end DL
set_option maxHeartbeats 8000000
namespace PySem
open PySem.W PyProof.Rows PyProof.V PySem.Spec
section
variable {prog : Program} {w : World} {K : Type} [DecidableEq K] {knd : HeapKind prog w K} {A : Around} {E : Value → Shared → Prop} {s : Shared}
end
end PySem
namespace L2
open PySem PySem.Spec PyProof.Rows
section
variable {X : Cx} {pins : List (Addr × Obj)} {σ : St} {H : Hp} {s : Shared} {A : Around} {E : Value → Shared → Prop}
end
end L2
namespace DL
open PySem PySem.Spec PyProof.Rows L2
section
variable {X : Cx} {C : Cn} {Wx : WX}
end
end DL
set_option maxHeartbeats 8000000
namespace DL
open PySem PySem.Spec PyProof.Rows L2
section
variable {X : Cx} {C : Cn} {Wx : WX}
structure SrcO (C : Cn) (R : Rg) (H : Hp) (ds : DSt) (σ : Sl) (xs : List D) (J : It) : Prop where
  go : ∀ i R' H' h', Mo C.K R H R' H' → Env C R' ds σ H' h' → i < xs.length → J.go i H'
  stop : ∀ R' H' h', Mo C.K R H R' H' → Env C R' ds σ H' h' → J.stop xs.length H'
  yld : ∀ i R' H' v H2 d h, Mo C.K R H R' H' → Env C R' ds σ H' h → xs[i]? = some d → J.yld i H' v H2 → Ex R' H' R' H2 ∧ Env C R' ds σ H2 h ∧ RelD C.K R' H2 d v
end
end DL
set_option maxHeartbeats 4000000
namespace DL
open PySem PySem.Spec PyProof.Rows L2
/-- a < b < c as a value -/
def dChainV (op op' : Cop) (ta tb tc : TDE) : TDE := fun ds h P Z => ta ds h (fun x h1 => tb ds h1 (fun y h2 => wCmp op x y fun z => ∃ b, z = .d (.bl b) ∧
  if b = true then tc ds h2 (fun u h3 => wCmp op' y u fun z => P z h3) Z else P (.d (.bl false)) h2) Z) Z
/-- what the module's defs promise, its constants -/
structure Fns where
  f : Nat → FnD
  c : Nat → D
  a : Addr → ActD := noA
  g : Nat → HFn := fun _ _ _ _ _ => False
/-- within a block or a lambda: nothing that was handed in is called -/
def Fns.q (F : Fns) : Fns := { F with a := noA }
@[simp] theorem Fns.q_f (F : Fns) : F.q.f = F.f := rfl
@[simp] theorem Fns.q_c (F : Fns) : F.q.c = F.c := rfl
@[simp] theorem Fns.q_g (F : Fns) : F.q.g = F.g := rfl
@[simp] theorem Fns.q_q (F : Fns) : F.q.q = F.q := rfl
/-- what is known of the module: its defs (name, arity, whether they show), free names, constants -/
structure Gm where
  sh : Bool
  fn : List (Str × Nat × Bool)
  free : List Str
  con : List Str
  hn : List Str := []
  ps : List (List Str) := []
  lm : Bool := false
  ko : List (Option (Nat × List (Str × Kq))) := []
/-- a def with parameters by name alone: how many stand by place, the others with their constants -/
def Gm.koA (G : Gm) (i : Nat) : Option (Nat × List (Str × Kq)) := (G.ko[i]?).join
def Gm.q (G : Gm) : Gm := { G with lm := false }
def visB (sc : Scope) (x : Str) : Bool := match sc.names.lookup x with
  | some .local => true
  | some .cell => true
  | some .free => true
  | _ => false
def locB (sc : Scope) (x : Str) : Bool := match sc.names.lookup x with
  | some .local => true
  | some .cell => true
  | _ => false
def lcB (sc : Scope) (x : Str) : Bool := match sc.names.lookup x with
  | some .local => true
  | _ => false
def glB (sc : Scope) (x : Str) : Bool := match sc.names.lookup x with
  | some .globalImplicit => true
  | _ => false
def okN (x : Str) : Bool := !(x == ("__debug__" : Str)) && !(x == ("__classdict__" : Str)) && !decide (x = "__name__")
def noStar : Expr → Bool
  | .Starred _ _ => false
  | _ => true
def plainT : Expr → Bool
  | .UnaryOp .Not _ _ => false
  | .BoolOp _ _ _ => false
  | .IfExp _ _ _ _ => false
  | .Compare _ _ _ _ => false
  | _ => true
def noSlice : Expr → Bool
  | .Slice _ _ _ _ => false
  | _ => true
def noSet : Expr → Bool
  | .Set _ _ _ => false
  | _ => true
def isNoneC : Expr → Bool
  | .Constant .none _ _ => true
  | _ => false
theorem isNoneC_ok {e : Expr} (h : isNoneC e = true) : ∃ j p, e = .Constant .none j p := by
  unfold isNoneC at h
  split at h
  · exact ⟨_, _, rfl⟩
  · cases h
theorem visB_ok {sc : Scope} {x : Str} (h : visB sc x = true) : Vis sc x := by
  unfold visB at h
  split at h
  · exact .inl (by assumption)
  · exact .inr (.inl (by assumption))
  · exact .inr (.inr (by assumption))
  · cases h
theorem locB_ok {sc : Scope} {x : Str} (h : locB sc x = true) : L2.Loc sc x := by
  unfold locB at h
  split at h
  · exact .inl (by assumption)
  · exact .inr (by assumption)
  · cases h
theorem lcB_ok {sc : Scope} {x : Str} (h : lcB sc x = true) : sc.names.lookup x = some .local := by
  unfold lcB at h
  split at h
  · assumption
  · cases h
theorem glB_ok {sc : Scope} {x : Str} (h : glB sc x = true) : sc.names.lookup x = some .globalImplicit := by
  unfold glB at h
  split at h
  · assumption
  · cases h
theorem okN_ok {x : Str} (h : okN x = true) : (x == ("__debug__" : Str)) = false ∧ (x == ("__classdict__" : Str)) = false ∧ x ≠ "__name__" := by
  unfold okN at h
  simp only [Bool.and_eq_true, Bool.not_eq_true', decide_eq_false_iff_not] at h
  exact ⟨h.1.1, h.1.2, h.2⟩
theorem star_ok {e : Expr} {es : List Expr} {env : PySem.Env} (h : noStar e = true) : starEach (e :: es) env = (false, eval e env) :: starEach es env := by
  cases e <;> first | rfl | cases h
theorem plainT_ok {e : Expr} {env : PySem.Env} (h : plainT e = true) : ∀ whole, isTrue e env whole = (do let v ← whole; standAt e.pos; holding [v] (truthy v)) := by
  intro whole
  cases e with
  | UnaryOp op x p => cases op <;> first | rfl | cases h
  | BoolOp _ _ _ => cases h
  | IfExp _ _ _ _ => cases h
  | Compare _ _ _ _ => cases h
  | _ => rfl
theorem noSlice_ok {e : Expr} (h : noSlice e = true) : PlainIx e := by
  intro o i
  cases e <;> first | rfl | cases h
theorem noSet_ok {e : Expr} {env : PySem.Env} (h : noSet e = true) : ∀ x, foldedSetIterable e env x = pure x := by
  intro x
  cases e <;> first | rfl | cases h
mutual
def Tg.chk (loc : Bool) (N : List Str) (sc : Scope) : Tg → Expr → Bool
  | .nm i, .Name x _ => decide (N[i]? = some x) && (if loc then lcB sc x else locB sc x)
  | .tp ts, .Tuple es _ _ => ts.chk loc N sc es
  | _, _ => false
def Tgs.chk (loc : Bool) (N : List Str) (sc : Scope) : Tgs → List Expr → Bool
  | .nil, [] => true
  | .cons t ts, e :: es => noStar e && t.chk loc N sc e && ts.chk loc N sc es
  | _, _ => false
end
def tupE : Expr → Bool
  | .Tuple _ _ _ => true
  | _ => false
def isOne : Expr → Bool
  | .UnaryOp .USub (.Constant (.int i) _ _) _ => decide (i = 1)
  | _ => false
theorem isOne_ok {e : Expr} (h : isOne e = true) : ∃ k p1 p2, e = .UnaryOp .USub (.Constant (.int 1) k p1) p2 := by
  unfold isOne at h
  split at h
  · cases of_decide_eq_true h; exact ⟨_, _, _, rfl⟩
  · cases h
def noPar : Arguments → Bool
  | ⟨[], [], none, [], [], none, []⟩ => true
  | _ => false
def keysB : List Str → List (Option Expr) → Bool
  | [], [] => true
  | k :: ks, some (.Constant (.str x) _ _) :: r => decide (k = x) && keysB ks r
  | _, _ => false
def shB (G : Gm) : B1 → Bool
  | .repr => G.sh
  | _ => true
/-- the module's defs at a level -/
def FnAll (G : Gm) (F : Fns) (C : Cn) (gd : Bool) (k : Nat) (P : Program) (w : World) (K : Fg) (mg : Str → Option Value) (base : Heap) : Prop :=
  ∀ i p, G.fn[i]? = some p → ∃ fa fd ps, mg p.1 = some (.ref fa) ∧ PySem.W.keepIn K (.ref fa) = true ∧ ps.length = p.2.1 ∧ (G.koA i = none → Binds K fd ps []) ∧ FnG P w K mg base p.2.2 k fa fd ps (liftF C.K C.Cl p.2.1 (F.f i)) ∧ (p.2.2 = true → gd = true) ∧ (G.koA i = none → BK fd ps) ∧ (∀ qs, G.ps[i]? = some qs → qs = ps) ∧ (∀ np dfl, G.koA i = some (np, dfl) → KoB K fd ps np dfl)
/-- the defs that call what they are handed -/
def HoAll (G : Gm) (F : Fns) (C : Cn) (gd : Bool) (k : Nat) (P : Program) (w : World) (K : Fg) (mg : Str → Option Value) (base : Heap) : Prop :=
  ∀ i x, G.hn[i]? = some x → ∃ fa fd a, mg x = some (.ref fa) ∧ PySem.W.keepIn K (.ref fa) = true ∧ Binds K fd [a] [] ∧ HoG P w C.K mg base gd k fa fd a C.Cl (F.g i)
/-- what stands around a piece of code -/
structure Stat (G : Gm) (F : Fns) (C : Cn) (gd : Bool) (k : Nat) (X : Cx) : Prop where
  hK : C.K = X.K
  calm : X.calm = true
  nd : X.N.Nodup
  units : X.A.units + 65 < cLine
  room : Room k X.A
  gdA : Gd gd X.A
  sh : G.sh = true → gd = true
  free : ∀ x ∈ G.free, X.mg x = none
  con : ∀ j x, G.con[j]? = some x → ∃ v u, X.mg x = some u ∧ RelV v u ∧ ∀ R H, RelD C.K R H (F.c j) v
  fn : FnAll G F C gd k X.prog X.w X.K X.mg X.base
  act : ∀ (pn : List (Addr × Obj)) (xe : Value → Shared → Prop) (Wx : WX) (i : Nat) (x : Str) (p1 p2 : Pos), Takes (X.tr pn xe) Wx → X.N[i]? = some x → Vis X.env.scope x → okN x = true → PE (X.tr pn xe) (.Call (.Name x p1) [] [] p2) (lift C Wx (dAct i F.a))
  lam : G.lm = true → ∃ k', k' + 2 ≤ k ∧ FnAll G F C gd k' X.prog X.w X.K X.mg X.base ∧ HoAll G F C gd (k' + 1) X.prog X.w X.K X.mg X.base ∧
    ∃ c Pt, LamX.TabB X.base X.mg c Pt ∧ X.env.code = .ref c ∧ (Pt, X.env.qual ++ "<lambda>") ∈ C.Cl.T ∧ ∀ p ∈ C.Cl.T, p.1 = Pt → p.2 = X.env.qual ++ "<lambda>"
theorem Stat.blk {G : Gm} {F : Fns} {C : Cn} {gd : Bool} {k : Nat} {X : Cx} (S : Stat G F C gd k X) (s : Shared) (H : Hp) (scope : Scope) (env : PySem.Env) (fp : List Addr) : Stat G.q F.q C gd k (X.blk s H scope env fp) :=
  ⟨S.hK, S.calm, S.nd, S.units, S.room, S.gdA, S.sh, S.free, S.con, S.fn, fun _ _ _ _ _ _ _ _ _ _ _ => de_noact, fun z => Bool.noConfusion z⟩
theorem takesN {X : Cx} : Takes X noW := fun _ _ x => by
  rcases x with x | x
  · obtain ⟨_, _, _, _, _, _, _, _, _, _, _, _, _, _, _, _, z⟩ := x
    exact z.2.elim
  · obtain ⟨_, _, _, _, _, _, _, _, _, _, _, _, _, _, _, _, z⟩ := x
    exact z.2.elim
theorem pw_of_pt {X : Cx} {op : BoolOp} {vs : List Expr} {pos : Pos} {t : TT} (h : PT X (.BoolOp op vs pos) t) : PW X (.BoolOp op vs pos) t := ⟨fun wh pins s σ H Q I q => h.run pins s σ H Q I q⟩
theorem nomk {op : CmpOp} {b : Expr} (h : noSet b = true) : behindInMarks op b = false := by
  cases b <;> first | rfl | cases h
theorem ba2 {a b : Bool} (h : (a && b) = true) : a = true ∧ b = true := Bool.and_eq_true_iff.mp h
abbrev SndE (c : Gm → List Str → Scope → Expr → Bool) (d : Fns → TDE) : Prop := ∀ {C : Cn} {G : Gm} {F : Fns} {gd : Bool} {k : Nat} (X : Cx) (Wx : WX) (e : Expr), Stat G F C gd k X → Takes X Wx → c G X.N X.env.scope e = true → PE X e (lift C Wx (d F))
abbrev SndT (c : Gm → List Str → Scope → Expr → Bool) (t : Fns → TDT) : Prop := ∀ {C : Cn} {G : Gm} {F : Fns} {gd : Bool} {k : Nat} (X : Cx) (Wx : WX) (e : Expr), Stat G F C gd k X → Takes X Wx → c G X.N X.env.scope e = true → PT X e (liftT C Wx (t F))
abbrev SndI (nt : Bool) (c : Gm → List Str → Scope → Expr → Bool) (d : Fns → TDI) : Prop := ∀ {C : Cn} {G : Gm} {F : Fns} {gd : Bool} {k : Nat} (X : Cx) (Wx : WX) (tg e : Expr), Stat G F C gd k X → Takes X Wx → (!nt || tupE tg) = true → c G X.N X.env.scope e = true → PI X tg e (liftI C Wx (d F))
/-- an expression: how it is held against the text, how it reads as a value and as a test, and that it reads right -/
structure E where
  chk : Gm → List Str → Scope → Expr → Bool
  rd : Fns → TDE
  rt : Fns → TDT
  snd : SndE chk rd
  sndT : SndT chk rt
structure Ic where
  needT : Bool
  chk : Gm → List Str → Scope → Expr → Bool
  rd : Fns → TDI
  snd : SndI needT chk rd
inductive Es where
  | nil | cons (e : E) (es : Es)
inductive Oe where
  | no | some (e : E)
def E.d (F : Fns) (m : E) : TDE := m.rd F
def E.t (F : Fns) (m : E) : TDT := m.rt F
def Ic.d (F : Fns) (m : Ic) : TDI := m.rd F
theorem noT {c : Gm → List Str → Scope → Expr → Bool} : SndT c (fun _ _ _ _ _ => False) := fun _ _ _ _ _ _ => ⟨fun _ _ _ _ _ _ ⟨_, _, _, _, _, _, z, _⟩ => z.elim⟩
def Es.len : Es → Nat
  | .nil => 0
  | .cons _ es => es.len + 1
def Es.w (F : Fns) : Es → TDW
  | .nil => dNilW
  | .cons e es => dConsW (e.d F) (es.w F)
def Es.d (F : Fns) : Es → TDA
  | .nil => dNil
  | .cons e es => dCons (e.d F) (es.d F)
def Oe.d (F : Fns) : Oe → TDO
  | .no => dNo
  | .some e => dPart (e.d F)
def Oe.t (F : Fns) : Oe → TDT
  | .no => dYes
  | .some e => e.t F
def Es.chk (G : Gm) (N : List Str) : Es → Scope → List Expr → Bool
  | .nil, _, [] => true
  | .cons a es, sc, l :: ls => noStar l && a.chk G N sc l && es.chk G N sc ls
  | _, _, _ => false
def Es.chkK (G : Gm) (N : List Str) : Es → Scope → List Keyword → Bool
  | .nil, _, [] => true
  | .cons a es, sc, kw :: r => a.chk G N sc kw.value && es.chkK G N sc r
  | _, _, _ => false
def Oe.chk (G : Gm) (N : List Str) : Oe → Scope → Option Expr → Bool
  | .no, _, none => true
  | .some a, sc, Option.some l => a.chk G N sc l
  | _, _, _ => false
def Oe.chkT (G : Gm) (N : List Str) : Oe → Scope → List Expr → Bool
  | .no, _, [] => true
  | .some a, sc, [l] => a.chk G N sc l
  | _, _, _ => false
theorem any_ok' {G : Gm} {N : List Str} {sc : Scope} {env : PySem.Env} : ∀ {es : Es} {ls : List Expr}, es.chk G N sc ls = true → (starEach ls env).any (·.1) = false
  | .nil, ls, h => by cases ls <;> first | rfl | (simp [Es.chk] at h)
  | .cons a es, ls, h => by
    cases ls with
    | nil => simp [Es.chk] at h
    | cons l ls =>
      unfold Es.chk at h
      simp only [Bool.and_eq_true] at h
      rw [star_ok h.1.1, List.any_cons, any_ok' h.2]; rfl
theorem any_ok {pos : Pos} {env : PySem.Env} {G : Gm} {N : List Str} {sc : Scope} {es : Es} {ls : List Expr} (h : es.chk G N sc ls = true) : (backTo pos (starEach ls env)).any (·.1) = false := by
  have := any_ok' (env := env) h
  unfold backTo
  rw [← this]
  cases starEach ls env with
  | nil => rfl
  | cons a r => simp [List.any_map, Function.comp_def]
theorem es_len : ∀ {es : Es} {G : Gm} {N : List Str} {sc : Scope} {ls : List Expr}, es.chk G N sc ls = true → es.len = ls.length
  | .nil, G, N, sc, ls, h => by
    cases ls with
    | nil => rfl
    | cons a b => simp [Es.chk] at h
  | .cons a es, G, N, sc, ls, h => by
    cases ls with
    | nil => simp [Es.chk] at h
    | cons l ls =>
      unfold Es.chk at h
      simp [Es.len, es_len (ba2 h).2]
section
variable {C : Cn}
theorem asgE_ok {e : Expr} {es : List Expr} {env : PySem.Env} (h : noStar e = true) : assignEach (e :: es) env = (false, assign e env) :: assignEach es env := by
  cases e <;> first | rfl | cases h
mutual
theorem Tg.snd {X : Cx} {loc : Bool} (hK : C.K = X.K) (hc : X.calm = true) (hN : X.N.Nodup) (hf : loc = false → ∀ x, X.fn x = true) : ∀ (g : Tg) (e : Expr), g.chk loc X.N X.env.scope e = true → PG X e (liftG C g)
  | .nm i, e, h => by
    cases e <;> first | (simp [Tg.chk] at h; done) | skip
    unfold Tg.chk at h
    obtain ⟨h1, h2⟩ := ba2 h
    cases loc with
    | true => exact dg_nm hN (of_decide_eq_true h1) (.inl (lcB_ok h2)) (.inr (lcB_ok h2))
    | false => exact dg_nm hN (of_decide_eq_true h1) (locB_ok h2) (.inl (hf rfl _))
  | .tp ts, e, h => by
    cases e <;> first | (simp [Tg.chk] at h; done) | skip
    unfold Tg.chk at h
    obtain ⟨q, l, n⟩ := Tgs.snd hK hc hN hf ts _ h
    exact dg_tp hK hc q l n
theorem Tgs.snd {X : Cx} {loc : Bool} (hK : C.K = X.K) (hc : X.calm = true) (hN : X.N.Nodup) (hf : loc = false → ∀ x, X.fn x = true) : ∀ (g : Tgs) (es : List Expr), g.chk loc X.N X.env.scope es = true → PGs X es (liftGs C g) ∧ (assignEach es X.env).length = g.len ∧ (assignEach es X.env).findIdx? (·.1) = none
  | .nil, es, h => by
    cases es with
    | nil => exact ⟨dgs_nil, rfl, rfl⟩
    | cons e es => simp [Tgs.chk] at h
  | .cons t ts, es, h => by
    cases es with
    | nil => simp [Tgs.chk] at h
    | cons e es =>
      unfold Tgs.chk at h
      obtain ⟨h1, h3⟩ := ba2 h
      obtain ⟨h1, h2⟩ := ba2 h1
      obtain ⟨q, l, n⟩ := Tgs.snd hK hc hN hf ts es h3
      refine ⟨dgs_cons (Tg.snd hK hc hN hf t e h2) q (by rw [asgE_ok h1]; rfl), by rw [asgE_ok h1, List.length_cons, l]; rfl, ?_⟩
      rw [asgE_ok h1]
      simp [List.findIdx?_cons, n]
end
theorem Oe.sndT {G : Gm} {F : Fns} {gd : Bool} {k : Nat} : ∀ (m : Oe) (X : Cx) (es : List Expr), Stat G F C gd k X → Takes X noW → m.chkT G X.N X.env.scope es = true → PTs X es (liftT C noW (m.t F))
  | .no, X, es, S, tk, h => by
    cases es with
    | nil => exact dts_nil
    | cons e es => simp [Oe.chkT] at h
  | .some a, X, es, S, tk, h => by
    rcases es with _ | ⟨e, _ | ⟨e2, es⟩⟩ <;> first | (simp [Oe.chkT] at h; done) | skip
    unfold Oe.chkT at h
    exact pts_one (E.sndT a X noW e S tk h)
theorem Es.snd {G : Gm} {F : Fns} {gd : Bool} {k : Nat} : ∀ (m : Es) (X : Cx) (Wx : WX) (es : List Expr), Stat G F C gd k X → Takes X Wx → m.chk G X.N X.env.scope es = true → PA X es (liftA C Wx (m.d F))
  | .nil, X, Wx, es, S, tk, h => by
    cases es with
    | nil => exact da_nil
    | cons e es => simp [Es.chk] at h
  | .cons a ms, X, Wx, es, S, tk, h => by
    cases es with
    | nil => simp [Es.chk] at h
    | cons e es =>
      unfold Es.chk at h
      obtain ⟨h, g1⟩ := ba2 h
      obtain ⟨h, g2⟩ := ba2 h
      exact da_cons (E.snd a X Wx e S tk g2) (Es.snd ms X Wx es S tk g1) (star_ok h)
theorem Es.sndK {G : Gm} {F : Fns} {gd : Bool} {k : Nat} : ∀ (m : Es) (X : Cx) (Wx : WX) (kws : List Keyword), Stat G F C gd k X → Takes X Wx → m.chkK G X.N X.env.scope kws = true → PK X kws (liftA C Wx (m.d F))
  | .nil, X, Wx, kws, S, tk, h => by
    cases kws with
    | nil => exact pk_nilD
    | cons e es => simp [Es.chkK] at h
  | .cons a es, X, Wx, kws, S, tk, h => by
    cases kws with
    | nil => simp [Es.chkK] at h
    | cons kw kws =>
      obtain ⟨nm, e, kp⟩ := kw
      unfold Es.chkK at h
      obtain ⟨h1, h2⟩ := ba2 h
      exact pk_consD (E.snd a X Wx e S tk h1) (Es.sndK es X Wx kws S tk h2)
theorem Es.sndP {G : Gm} {F : Fns} {gd : Bool} {k : Nat} : ∀ (m : Es) (X : Cx) (Wx : WX) (ls : List Expr) (ks : List Str) (keys : List (Option Expr)) (pos : Pos), Stat G F C gd k X → Takes X Wx → m.chk G X.N X.env.scope ls = true → keysB ks keys = true → m.len = ks.length →
    ∃ trs, PPs X pos keys ls trs ∧ (∀ σ H Q, liftA C Wx (m.d F) σ H (fun vs H' => Q ((ks.map V.str).zip vs) H') → tPairs trs σ H Q) ∧ (keys.length = ks.length ∧ ks.length = ls.length) ∧ keys.all (·.isSome) = true
  | .nil, X, Wx, ls, ks, keys, pos, S, tk, h, hk, hl => by
    cases ls with
    | cons e es => simp [Es.chk] at h
    | nil =>
      cases ks with
      | cons a b => simp [Es.len] at hl
      | nil =>
        cases keys with
        | cons a b => simp [keysB] at hk
        | nil =>
          refine ⟨[], pps_nil, fun σ H Q q => ?_, ⟨rfl, rfl⟩, rfl⟩
          obtain ⟨R, ds, h, P, Z, e, p, k, z⟩ := q
          exact k R H h [] [] p (Ex.refl _ _) e m_nil
  | .cons a es, X, Wx, ls, ks, keys, pos, S, tk, h, hk, hl => by
    cases ls with
    | nil => simp [Es.chk] at h
    | cons l ls =>
      cases ks with
      | nil => simp [Es.len] at hl
      | cons kk ks =>
        rcases keys with _ | ⟨_ | ky, keys⟩ <;> first | (simp [keysB] at hk; done) | skip
        cases ky <;> first | (simp [keysB] at hk; done) | skip
        rename_i cv cj cp
        cases cv <;> first | (simp [keysB] at hk; done) | skip
        unfold keysB at hk
        obtain ⟨k1, k2⟩ := ba2 hk
        cases of_decide_eq_true k1
        unfold Es.chk at h
        obtain ⟨h, h3⟩ := ba2 h
        obtain ⟨h1, h2⟩ := ba2 h
        obtain ⟨trs, pp, ht, ⟨l1, l2⟩, al⟩ := Es.sndP es X Wx ls ks keys pos S tk h3 k2 (by simpa [Es.len] using hl)
        refine ⟨_, pps_cons pe_str (pe_D (E.snd a X Wx l S tk h2)) pp, fun σ H Q q => ?_, ⟨by simp [l1], by simp [l2]⟩, by simp [al]⟩
        obtain ⟨R, ds, h, P, Z, e, p, k, z⟩ := q
        refine ⟨R, ds, h, _, Z, e, p, fun R1 H1 h1 d v p1 x1 e1 r1 => ?_, z⟩
        refine ht σ H1 _ ⟨R1, ds, h1, _, Z, e1, p1, fun R2 H2 h2 xs vs p2 x2 e2 r2 => ?_, fun R' H' h' x cls dd a b c d => z R' H' h' x cls dd a (x1.trans b) c d⟩
        exact k R2 H2 h2 (d :: xs) (v :: vs) p2 (x1.trans x2) e2 (m_cons (relD_ex e1.ok x2 r1) r2)
theorem Oe.snd {G : Gm} {F : Fns} {gd : Bool} {k : Nat} : ∀ (m : Oe) (X : Cx) (Wx : WX) (e : Option Expr), Stat G F C gd k X → Takes X Wx → m.chk G X.N X.env.scope e = true → PO X e (liftO C Wx (m.d F))
  | .no, X, Wx, e, S, tk, h => by
    cases e with
    | none => exact do_no
    | some e => simp [Oe.chk] at h
  | .some a, X, Wx, e, S, tk, h => by
    cases e with
    | none => simp [Oe.chk] at h
    | some e =>
      unfold Oe.chk at h
      exact do_some (E.snd a X Wx e S tk h)
end
end DL
set_option maxHeartbeats 4000000
namespace DL
open PySem PySem.Spec PyProof.Rows L2
section
variable {C : Cn}
theorem de_chain {X : Cx} {Wx : WX} {a b c : Expr} {ta tb tc : TDE} {pos : Pos} {op op' : Cop} (hK : C.K = X.K) (hu : X.A.units + 65 < cLine) (hm : lastMarks [op.py, op'.py] [b, c] = false)
    (ha : PE X a (lift C Wx ta)) (hb : PE X b (lift C Wx tb)) (hc : PE X c (lift C Wx tc)) : PE X (.Compare a [op.py, op'.py] [b, c] pos) (lift C Wx (dChainV op op' ta tb tc)) :=
  (pe_chain (op_cmp op hu) (op_cmp op' hu) ha hb hc hm).imD fun σ H Q q => by
    obtain ⟨R, ds, h, P, Z, e, p, k, z⟩ := q
    refine ⟨R, ds, h, _, Z, e, p, fun R1 H1 h1 w1 v1 p1 x1 e1 r1 => ?_, z⟩
    refine ⟨R1, ds, h1, _, Z, e1, p1, fun R2 H2 h2 w2 v2 p2 x2 e2 r2 => ?_, fun R' H' h' x cls dd a b c d => z R' H' h' x cls dd a (x1.trans b) c d⟩
    have r2' := relW_start x1.dom r2
    refine hK ▸ s_cmp e2 (x1.trans x2) (relW_ex e1.ok x2 r1) r2' p2 fun R' H' w v ⟨b, hb, pb⟩ x' e' r' => ?_
    subst hb
    refine ⟨b, rw_bl r', ?_⟩
    have xx := (x1.trans x2).trans x'
    cases b with
    | false =>
      rw [if_neg Bool.false_ne_true] at pb ⊢
      exact k R' H' h2 _ _ pb xx e' mw_bl
    | true =>
      rw [if_pos rfl] at pb ⊢
      refine ⟨R', ds, h2, _, Z, e', pb, fun R3 H3 h3 w3 v3 p3 x3 e3 r3 => ?_, fun R' H' h' x cls dd a b c d => z R' H' h' x cls dd a (xx.trans b) c d⟩
      exact s_cmp (C := C) e3 (xx.trans x3) (relW_ex e'.ok x3 (relW_ex e2.ok x' r2')) (relW_start xx.dom r3) p3 fun R4 H4 w v pb x4 e4 r4 => k R4 H4 h3 w v pb ((xx.trans x3).trans x4) e4 r4
end
def cE_var (i : Nat) (G : Gm) (N : List Str) (sc : Scope) (x0 : Expr) : Bool := match x0 with
  | .Name x _ => decide (N[i]? = some x) && visB sc x && okN x
  | _ => false
theorem sE_var (i : Nat) : SndE (cE_var i) (fun F => dVar i) := by
    intro C G F gd k X Wx e S tk h
    cases e <;> first | (exact absurd h Bool.false_ne_true) | skip
    rename_i x p
    simp only [cE_var] at h
    obtain ⟨h1, h2⟩ := ba2 h
    obtain ⟨h1, h3⟩ := ba2 h1
    obtain ⟨o1, o2, _⟩ := okN_ok h2
    exact de_var (of_decide_eq_true h1) (visB_ok h3) o1 o2
theorem uE_var (i : Nat) : SndT (cE_var i) (fun F => dTru (dVar i)) := by
    intro C G F gd k X Wx e S tk h
    have q := sE_var i X Wx e S tk h
    cases e <;> first | (exact absurd h Bool.false_ne_true) | skip
    exact dt_tru S.hK q (plainT_ok rfl)
def E.var (i : Nat) : E := ⟨cE_var i, fun F => dVar i, fun F => dTru (dVar i), sE_var i, uE_var i⟩
@[simp] theorem rdE_var (i : Nat) {F : Fns} : (E.var i).rd F = dVar i := rfl
@[simp] theorem rtE_var (i : Nat) {F : Fns} : (E.var i).rt F = dTru (dVar i) := rfl
def cE_int (i : Int) (G : Gm) (N : List Str) (sc : Scope) (x0 : Expr) : Bool := match x0 with
  | .Constant (.int j) _ _ => decide (i = j)
  | _ => false
theorem sE_int (i : Int) : SndE (cE_int i) (fun F => dC (.int i)) := by
    intro C G F gd k X Wx e S tk h
    cases e <;> first | (exact absurd h Bool.false_ne_true) | skip
    rename_i c j p
    cases c <;> first | (exact absurd h Bool.false_ne_true) | skip
    cases of_decide_eq_true (show decide (i = _) = true from h)
    exact de_int
def E.int (i : Int) : E := ⟨cE_int i, fun F => dC (.int i), fun _ _ _ _ _ => False, sE_int i, noT⟩
@[simp] theorem rdE_int (i : Int) {F : Fns} : (E.int i).rd F = dC (.int i) := rfl
@[simp] theorem rtE_int (i : Int) {F : Fns} : (E.int i).rt F = (fun _ _ _ _ => False) := rfl
def cE_str (i : Str) (G : Gm) (N : List Str) (sc : Scope) (x0 : Expr) : Bool := match x0 with
  | .Constant (.str j) _ _ => decide (i = j)
  | _ => false
theorem sE_str (i : Str) : SndE (cE_str i) (fun F => dC (.str i)) := by
    intro C G F gd k X Wx e S tk h
    cases e <;> first | (exact absurd h Bool.false_ne_true) | skip
    rename_i c j p
    cases c <;> first | (exact absurd h Bool.false_ne_true) | skip
    cases of_decide_eq_true (show decide (i = _) = true from h)
    exact de_str
def E.str (x : Str) : E := ⟨cE_str x, fun F => dC (.str x), fun _ _ _ _ _ => False, sE_str x, noT⟩
@[simp] theorem rdE_str (x : Str) {F : Fns} : (E.str x).rd F = dC (.str x) := rfl
@[simp] theorem rtE_str (x : Str) {F : Fns} : (E.str x).rt F = (fun _ _ _ _ => False) := rfl
def cE_bl (i : Bool) (G : Gm) (N : List Str) (sc : Scope) (x0 : Expr) : Bool := match x0 with
  | .Constant (.bool j) _ _ => decide (i = j)
  | _ => false
theorem sE_bl (i : Bool) : SndE (cE_bl i) (fun F => dC (.bl i)) := by
    intro C G F gd k X Wx e S tk h
    cases e <;> first | (exact absurd h Bool.false_ne_true) | skip
    rename_i c j p
    cases c <;> first | (exact absurd h Bool.false_ne_true) | skip
    cases of_decide_eq_true (show decide (i = _) = true from h)
    exact de_bl
theorem uE_bl (b : Bool) : SndT (cE_bl b) (fun F => dTru (dC (.bl b))) := by
    intro C G F gd k X Wx e S tk h
    have q := sE_bl b X Wx e S tk h
    cases e <;> first | (exact absurd h Bool.false_ne_true) | skip
    exact dt_tru S.hK q (plainT_ok rfl)
def E.bl (b : Bool) : E := ⟨cE_bl b, fun F => dC (.bl b), fun F => dTru (dC (.bl b)), sE_bl b, uE_bl b⟩
@[simp] theorem rdE_bl (b : Bool) {F : Fns} : (E.bl b).rd F = dC (.bl b) := rfl
@[simp] theorem rtE_bl (b : Bool) {F : Fns} : (E.bl b).rt F = dTru (dC (.bl b)) := rfl
def cE_non (G : Gm) (N : List Str) (sc : Scope) (x0 : Expr) : Bool := match x0 with
  | .Constant .none _ _ => true
  | _ => false
theorem sE_non : SndE (cE_non) (fun F => dC .non) := by
    intro C G F gd k X Wx e S tk h
    cases e <;> first | (exact absurd h Bool.false_ne_true) | skip
    rename_i c j p
    cases c <;> first | (exact absurd h Bool.false_ne_true) | skip
    exact de_non
def E.non : E := ⟨cE_non, fun F => dC .non, fun _ _ _ _ _ => False, sE_non, noT⟩
@[simp] theorem rdE_non {F : Fns} : (E.non).rd F = dC .non := rfl
@[simp] theorem rtE_non {F : Fns} : (E.non).rt F = (fun _ _ _ _ => False) := rfl
def cE_glb (j : Nat) (G : Gm) (N : List Str) (sc : Scope) (x0 : Expr) : Bool := match x0 with
  | .Name x _ => decide (G.con[j]? = some x) && glB sc x && okN x
  | _ => false
theorem sE_glb (j : Nat) : SndE (cE_glb j) (fun F => dC (F.c j)) := by
    intro C G F gd k X Wx e S tk h
    cases e <;> first | (exact absurd h Bool.false_ne_true) | skip
    rename_i x p
    simp only [cE_glb] at h
    obtain ⟨h1, h2⟩ := ba2 h
    obtain ⟨h1, h3⟩ := ba2 h1
    obtain ⟨v, u, hm, rv, hr⟩ := S.con j x (of_decide_eq_true h1)
    exact de_c (pe_glob (glB_ok h3) hm rv (okN_ok h2).1) hr
def E.glb (j : Nat) : E := ⟨cE_glb j, fun F => dC (F.c j), fun _ _ _ _ _ => False, sE_glb j, noT⟩
@[simp] theorem rdE_glb (j : Nat) {F : Fns} : (E.glb j).rd F = dC (F.c j) := rfl
@[simp] theorem rtE_glb (j : Nat) {F : Fns} : (E.glb j).rt F = (fun _ _ _ _ => False) := rfl
def cE_bin (op : Bop) (a : E) (b : E) (G : Gm) (N : List Str) (sc : Scope) (x0 : Expr) : Bool := match x0 with
  | .BinOp l o r _ => decide (op.py = o) && a.chk G N sc l && b.chk G N sc r
  | _ => false
theorem sE_bin (op : Bop) (a : E) (b : E) : SndE (cE_bin op a b) (fun F => dOp2 (wBin op) (a.d F) (b.d F)) := by
    intro C G F gd k X Wx e S tk h
    cases e <;> first | (exact absurd h Bool.false_ne_true) | skip
    rename_i l o r p
    simp only [cE_bin] at h
    obtain ⟨h1, h2⟩ := ba2 h
    obtain ⟨h1, h3⟩ := ba2 h1
    cases of_decide_eq_true h1
    exact de_bin S.hK (E.snd a X Wx l S tk h3) (E.snd b X Wx r S tk h2)
theorem uE_bin (op : Bop) (a : E) (i : E) : SndT (cE_bin op a i) (fun F => dTru (dOp2 (wBin op) (a.d F) (i.d F))) := by
    intro C G F gd k X Wx e S tk h
    have q := sE_bin op a i X Wx e S tk h
    cases e <;> first | (exact absurd h Bool.false_ne_true) | skip
    exact dt_tru S.hK q (plainT_ok rfl)
def E.bin (op : Bop) (a : E) (b : E) : E := ⟨cE_bin op a b, fun F => dOp2 (wBin op) (a.d F) (b.d F), fun F => dTru (dOp2 (wBin op) (a.d F) (b.d F)), sE_bin op a b, uE_bin op a b⟩
@[simp] theorem rdE_bin (op : Bop) (a : E) (b : E) {F : Fns} : (E.bin op a b).rd F = dOp2 (wBin op) (a.d F) (b.d F) := rfl
@[simp] theorem rtE_bin (op : Bop) (a : E) (b : E) {F : Fns} : (E.bin op a b).rt F = dTru (dOp2 (wBin op) (a.d F) (b.d F)) := rfl
def cE_neg (a : E) (G : Gm) (N : List Str) (sc : Scope) (x0 : Expr) : Bool := match x0 with
  | .UnaryOp .USub l _ => a.chk G N sc l
  | _ => false
theorem sE_neg (a : E) : SndE (cE_neg a) (fun F => dOp1 wNeg (a.d F)) := by
    intro C G F gd k X Wx e S tk h
    cases e <;> first | (exact absurd h Bool.false_ne_true) | skip
    rename_i o l p
    cases o <;> first | (exact absurd h Bool.false_ne_true) | skip
    simp only [cE_neg] at h
    exact de_neg (E.snd a X Wx l S tk h)
def E.neg (a : E) : E := ⟨cE_neg a, fun F => dOp1 wNeg (a.d F), fun _ _ _ _ _ => False, sE_neg a, noT⟩
@[simp] theorem rdE_neg (a : E) {F : Fns} : (E.neg a).rd F = dOp1 wNeg (a.d F) := rfl
@[simp] theorem rtE_neg (a : E) {F : Fns} : (E.neg a).rt F = (fun _ _ _ _ => False) := rfl
def cE_cmp (op : Cop) (a : E) (b : E) (G : Gm) (N : List Str) (sc : Scope) (x0 : Expr) : Bool := match x0 with
  | .Compare l [o] [r] _ => decide (op.py = o) && noSet r && a.chk G N sc l && b.chk G N sc r
  | _ => false
theorem sE_cmp (op : Cop) (a : E) (b : E) : SndE (cE_cmp op a b) (fun F => dOp2 (wCmp op) (a.d F) (b.d F)) := by
    intro C G F gd k X Wx e S tk h
    cases e <;> first | (exact absurd h Bool.false_ne_true) | skip
    rename_i l os rs p
    rcases os with _ | ⟨o, _ | ⟨o2, os⟩⟩ <;> rcases rs with _ | ⟨r, _ | ⟨r2, rs⟩⟩ <;> first | (exact absurd h Bool.false_ne_true) | skip
    simp only [cE_cmp] at h
    obtain ⟨h1, h2⟩ := ba2 h
    obtain ⟨h1, h3⟩ := ba2 h1
    obtain ⟨h1, h4⟩ := ba2 h1
    cases of_decide_eq_true h1
    exact de_cmp S.hK S.units (nomk h4) (E.snd a X Wx l S tk h3) (E.snd b X Wx r S tk h2)
theorem uE_cmp (op : Cop) (a : E) (b : E) : SndT (cE_cmp op a b) (fun F => dCmpT op (a.d F) (b.d F)) := by
    intro C G F gd k X Wx e S tk h
    cases e <;> first | (exact absurd h Bool.false_ne_true) | skip
    rename_i l os rs p
    rcases os with _ | ⟨o, _ | ⟨o2, os⟩⟩ <;> rcases rs with _ | ⟨r, _ | ⟨r2, rs⟩⟩ <;> first | (exact absurd h Bool.false_ne_true) | skip
    simp only [cE_cmp] at h
    obtain ⟨h1, h2⟩ := ba2 h
    obtain ⟨h1, h3⟩ := ba2 h1
    obtain ⟨h1, h4⟩ := ba2 h1
    cases of_decide_eq_true h1
    exact dt_cmp S.hK S.units (nomk h4) (E.snd a X Wx l S tk h3) (E.snd b X Wx r S tk h2)
def E.cmp (op : Cop) (a : E) (b : E) : E := ⟨cE_cmp op a b, fun F => dOp2 (wCmp op) (a.d F) (b.d F), fun F => dCmpT op (a.d F) (b.d F), sE_cmp op a b, uE_cmp op a b⟩
@[simp] theorem rdE_cmp (op : Cop) (a : E) (b : E) {F : Fns} : (E.cmp op a b).rd F = dOp2 (wCmp op) (a.d F) (b.d F) := rfl
@[simp] theorem rtE_cmp (op : Cop) (a : E) (b : E) {F : Fns} : (E.cmp op a b).rt F = dCmpT op (a.d F) (b.d F) := rfl
def cE_chn (op : Cop) (op' : Cop) (a : E) (b : E) (c : E) (G : Gm) (N : List Str) (sc : Scope) (x0 : Expr) : Bool := match x0 with
  | .Compare l [o, o'] [r, r'] _ => decide (op.py = o) && decide (op'.py = o') && noSet r' && a.chk G N sc l && b.chk G N sc r && c.chk G N sc r'
  | _ => false
theorem sE_chn (op : Cop) (op' : Cop) (a : E) (b : E) (c : E) : SndE (cE_chn op op' a b c) (fun F => dChainV op op' (a.d F) (b.d F) (c.d F)) := by
    intro C G F gd k X Wx e S tk h
    cases e <;> first | (exact absurd h Bool.false_ne_true) | skip
    rename_i l os rs p
    rcases os with _ | ⟨o, _ | ⟨o2, _ | ⟨o3, os⟩⟩⟩ <;> rcases rs with _ | ⟨r, _ | ⟨r2, _ | ⟨r3, rs⟩⟩⟩ <;> first | (exact absurd h Bool.false_ne_true) | skip
    simp only [cE_chn] at h
    obtain ⟨h1, h2⟩ := ba2 h
    obtain ⟨h1, h3⟩ := ba2 h1
    obtain ⟨h1, h4⟩ := ba2 h1
    obtain ⟨h1, h5⟩ := ba2 h1
    obtain ⟨h1, h6⟩ := ba2 h1
    cases of_decide_eq_true h1
    cases of_decide_eq_true h6
    exact de_chain S.hK S.units (nomk (op := op'.py) h5) (E.snd a X Wx l S tk h4) (E.snd b X Wx r S tk h3) (E.snd c X Wx r2 S tk h2)
theorem uE_chn (op : Cop) (op' : Cop) (a : E) (b : E) (c : E) : SndT (cE_chn op op' a b c) (fun F => dChain op op' (a.d F) (b.d F) (c.d F)) := by
    intro C G F gd k X Wx e S tk h
    cases e <;> first | (exact absurd h Bool.false_ne_true) | skip
    rename_i l os rs p
    rcases os with _ | ⟨o, _ | ⟨o2, _ | ⟨o3, os⟩⟩⟩ <;> rcases rs with _ | ⟨r, _ | ⟨r2, _ | ⟨r3, rs⟩⟩⟩ <;> first | (exact absurd h Bool.false_ne_true) | skip
    simp only [cE_chn] at h
    obtain ⟨h1, h2⟩ := ba2 h
    obtain ⟨h1, h3⟩ := ba2 h1
    obtain ⟨h1, h4⟩ := ba2 h1
    obtain ⟨h1, h5⟩ := ba2 h1
    obtain ⟨h1, h6⟩ := ba2 h1
    cases of_decide_eq_true h1
    cases of_decide_eq_true h6
    exact dt_chain S.hK S.units (nomk (op := op'.py) h5) (E.snd a X Wx l S tk h4) (E.snd b X Wx r S tk h3) (E.snd c X Wx r2 S tk h2)
def E.chn (op : Cop) (op' : Cop) (a : E) (b : E) (c : E) : E := ⟨cE_chn op op' a b c, fun F => dChainV op op' (a.d F) (b.d F) (c.d F), fun F => dChain op op' (a.d F) (b.d F) (c.d F), sE_chn op op' a b c, uE_chn op op' a b c⟩
@[simp] theorem rdE_chn (op : Cop) (op' : Cop) (a : E) (b : E) (c : E) {F : Fns} : (E.chn op op' a b c).rd F = dChainV op op' (a.d F) (b.d F) (c.d F) := rfl
@[simp] theorem rtE_chn (op : Cop) (op' : Cop) (a : E) (b : E) (c : E) {F : Fns} : (E.chn op op' a b c).rt F = dChain op op' (a.d F) (b.d F) (c.d F) := rfl
def cE_isN (ng : Bool) (a : E) (G : Gm) (N : List Str) (sc : Scope) (x0 : Expr) : Bool := match x0 with
  | .Compare l [o] [r] _ => decide (o = if ng then .IsNot else .Is) && isNoneC r && a.chk G N sc l
  | _ => false
theorem sE_isN (ng : Bool) (a : E) : SndE (cE_isN ng a) (fun F => dOp1 (wIs ng) (a.d F)) := by
    intro C G F gd k X Wx e S tk h
    cases e <;> first | (exact absurd h Bool.false_ne_true) | skip
    rename_i l os rs p
    rcases os with _ | ⟨o, _ | ⟨o2, os⟩⟩ <;> rcases rs with _ | ⟨r, _ | ⟨r2, rs⟩⟩ <;> first | (exact absurd h Bool.false_ne_true) | skip
    simp only [cE_isN] at h
    obtain ⟨h1, h2⟩ := ba2 h
    obtain ⟨h1, h3⟩ := ba2 h1
    have ho := of_decide_eq_true h1
    obtain ⟨j, p', er⟩ := isNoneC_ok h3
    clear h h1 h3
    subst er
    cases ng with
    | false => cases ho; exact de_isN (E.snd a X Wx _ S tk h2)
    | true => cases ho; exact de_notN (E.snd a X Wx _ S tk h2)
theorem uE_isN (ng : Bool) (a : E) : SndT (cE_isN ng a) (fun F => dIsT ng (a.d F)) := by
    intro C G F gd k X Wx e S tk h
    cases e <;> first | (exact absurd h Bool.false_ne_true) | skip
    rename_i l os rs p
    rcases os with _ | ⟨o, _ | ⟨o2, os⟩⟩ <;> rcases rs with _ | ⟨r, _ | ⟨r2, rs⟩⟩ <;> first | (exact absurd h Bool.false_ne_true) | skip
    simp only [cE_isN] at h
    obtain ⟨h1, h2⟩ := ba2 h
    obtain ⟨h1, h3⟩ := ba2 h1
    have ho := of_decide_eq_true h1
    obtain ⟨j, p', er⟩ := isNoneC_ok h3
    clear h h1 h3
    subst er
    cases ng with
    | false => cases ho; exact dt_isN (E.snd a X Wx _ S tk h2)
    | true => cases ho; exact dt_notN (E.snd a X Wx _ S tk h2)
def E.isN (ng : Bool) (a : E) : E := ⟨cE_isN ng a, fun F => dOp1 (wIs ng) (a.d F), fun F => dIsT ng (a.d F), sE_isN ng a, uE_isN ng a⟩
@[simp] theorem rdE_isN (ng : Bool) (a : E) {F : Fns} : (E.isN ng a).rd F = dOp1 (wIs ng) (a.d F) := rfl
@[simp] theorem rtE_isN (ng : Bool) (a : E) {F : Fns} : (E.isN ng a).rt F = dIsT ng (a.d F) := rfl
def cE_and (a : E) (b : E) (G : Gm) (N : List Str) (sc : Scope) (x0 : Expr) : Bool := match x0 with
  | .BoolOp .And [l, r] _ => a.chk G N sc l && b.chk G N sc r
  | .BoolOp .And (l :: r :: r' :: rs) p => a.chk G N sc l && b.chk G N sc (.BoolOp .And (r :: r' :: rs) p)
  | _ => false
theorem sE_and (a : E) (b : E) : SndE (cE_and a b) (fun F => dAnd (a.d F) (b.d F)) := by
    intro C G F gd k X Wx e S tk h
    cases e <;> first | (exact absurd h Bool.false_ne_true) | skip
    rename_i o vs p
    cases o <;> rcases vs with _ | ⟨l, _ | ⟨r, _ | ⟨r2, rs⟩⟩⟩ <;> first | (exact absurd h Bool.false_ne_true) | skip
    · simp only [cE_and] at h
      obtain ⟨h1, h2⟩ := ba2 h
      exact de_and S.hK (E.snd a X Wx l S tk h1) (de_one (E.snd b X Wx r S tk h2))
    · simp only [cE_and] at h
      obtain ⟨h1, h2⟩ := ba2 h
      exact de_and S.hK (E.snd a X Wx l S tk h1) (E.snd b X Wx _ S tk h2)
theorem uE_and (a : E) (b : E) : SndT (cE_and a b) (fun F => dAndT (a.t F) (b.t F)) := by
    intro C G F gd k X Wx e S tk h
    cases e <;> first | (exact absurd h Bool.false_ne_true) | skip
    rename_i o vs p
    cases o <;> rcases vs with _ | ⟨l, _ | ⟨r, _ | ⟨r2, rs⟩⟩⟩ <;> first | (exact absurd h Bool.false_ne_true) | skip
    · simp only [cE_and] at h
      obtain ⟨h1, h2⟩ := ba2 h
      exact (dw_and (E.sndT a X Wx l S tk h1) (dw_and1 (E.sndT b X Wx r S tk h2))).pt
    · simp only [cE_and] at h
      obtain ⟨h1, h2⟩ := ba2 h
      exact (dw_and (E.sndT a X Wx l S tk h1) (pw_of_pt (E.sndT b X Wx _ S tk h2))).pt
def E.and (a : E) (b : E) : E := ⟨cE_and a b, fun F => dAnd (a.d F) (b.d F), fun F => dAndT (a.t F) (b.t F), sE_and a b, uE_and a b⟩
@[simp] theorem rdE_and (a : E) (b : E) {F : Fns} : (E.and a b).rd F = dAnd (a.d F) (b.d F) := rfl
@[simp] theorem rtE_and (a : E) (b : E) {F : Fns} : (E.and a b).rt F = dAndT (a.t F) (b.t F) := rfl
def cE_or (a : E) (b : E) (G : Gm) (N : List Str) (sc : Scope) (x0 : Expr) : Bool := match x0 with
  | .BoolOp .Or [l, r] _ => a.chk G N sc l && b.chk G N sc r
  | .BoolOp .Or (l :: r :: r' :: rs) p => a.chk G N sc l && b.chk G N sc (.BoolOp .Or (r :: r' :: rs) p)
  | _ => false
theorem sE_or (a : E) (b : E) : SndE (cE_or a b) (fun F => dOr (a.d F) (b.d F)) := by
    intro C G F gd k X Wx e S tk h
    cases e <;> first | (exact absurd h Bool.false_ne_true) | skip
    rename_i o vs p
    cases o <;> rcases vs with _ | ⟨l, _ | ⟨r, _ | ⟨r2, rs⟩⟩⟩ <;> first | (exact absurd h Bool.false_ne_true) | skip
    · simp only [cE_or] at h
      obtain ⟨h1, h2⟩ := ba2 h
      exact de_or S.hK (E.snd a X Wx l S tk h1) (de_one (E.snd b X Wx r S tk h2))
    · simp only [cE_or] at h
      obtain ⟨h1, h2⟩ := ba2 h
      exact de_or S.hK (E.snd a X Wx l S tk h1) (E.snd b X Wx _ S tk h2)
theorem uE_or (a : E) (b : E) : SndT (cE_or a b) (fun F => dOrT (a.t F) (b.t F)) := by
    intro C G F gd k X Wx e S tk h
    cases e <;> first | (exact absurd h Bool.false_ne_true) | skip
    rename_i o vs p
    cases o <;> rcases vs with _ | ⟨l, _ | ⟨r, _ | ⟨r2, rs⟩⟩⟩ <;> first | (exact absurd h Bool.false_ne_true) | skip
    · simp only [cE_or] at h
      obtain ⟨h1, h2⟩ := ba2 h
      exact (dw_or (E.sndT a X Wx l S tk h1) (dw_or1 (E.sndT b X Wx r S tk h2))).pt
    · simp only [cE_or] at h
      obtain ⟨h1, h2⟩ := ba2 h
      exact (dw_or (E.sndT a X Wx l S tk h1) (pw_of_pt (E.sndT b X Wx _ S tk h2))).pt
def E.or (a : E) (b : E) : E := ⟨cE_or a b, fun F => dOr (a.d F) (b.d F), fun F => dOrT (a.t F) (b.t F), sE_or a b, uE_or a b⟩
@[simp] theorem rdE_or (a : E) (b : E) {F : Fns} : (E.or a b).rd F = dOr (a.d F) (b.d F) := rfl
@[simp] theorem rtE_or (a : E) (b : E) {F : Fns} : (E.or a b).rt F = dOrT (a.t F) (b.t F) := rfl
def cE_not (a : E) (G : Gm) (N : List Str) (sc : Scope) (x0 : Expr) : Bool := match x0 with
  | .UnaryOp .Not l _ => a.chk G N sc l
  | _ => false
theorem sE_not (a : E) : SndE (cE_not a) (fun F => dNotV (a.d F)) := by
    intro C G F gd k X Wx e S tk h
    cases e <;> first | (exact absurd h Bool.false_ne_true) | skip
    rename_i o l p
    cases o <;> first | (exact absurd h Bool.false_ne_true) | skip
    simp only [cE_not] at h
    exact de_not S.hK (E.snd a X Wx l S tk h)
theorem uE_not (a : E) : SndT (cE_not a) (fun F => dNotT (a.t F)) := by
    intro C G F gd k X Wx e S tk h
    cases e <;> first | (exact absurd h Bool.false_ne_true) | skip
    rename_i o l p
    cases o <;> first | (exact absurd h Bool.false_ne_true) | skip
    simp only [cE_not] at h
    exact dt_not (E.sndT a X Wx l S tk h)
def E.not (a : E) : E := ⟨cE_not a, fun F => dNotV (a.d F), fun F => dNotT (a.t F), sE_not a, uE_not a⟩
@[simp] theorem rdE_not (a : E) {F : Fns} : (E.not a).rd F = dNotV (a.d F) := rfl
@[simp] theorem rtE_not (a : E) {F : Fns} : (E.not a).rt F = dNotT (a.t F) := rfl
end DL
namespace L2
open PySem PySem.Spec PyProof.Rows
theorem pt_ifT {X : Cx} {c a b : Expr} {tc ta tb : TT} {pos : Pos} (hc : PT X c tc) (ha : PT X a ta) (hb : PT X b tb) : PT X (.IfExp c a b pos) (fun σ H Q => tc σ H fun k H1 => if k = true then ta σ H1 Q else tb σ H1 Q) := by
  refine ⟨fun pins s σ H Q I h => ?_⟩
  rw [arm_isTrue_IfExp]
  refine wpAny_bind (thn (hc.run pins s σ H _ I h) fun k s1 e => ?_)
  obtain ⟨H1, I1, q1⟩ := e
  cases k with
  | true => exact ha.run pins s1 σ H1 Q I1 q1
  | false => exact hb.run pins s1 σ H1 Q I1 q1
end L2
namespace DL
open PySem PySem.Spec PyProof.Rows L2
section
variable {X : Cx} {C : Cn} {Wx : WX}
def dIfT (tc ta tb : TDT) : TDT := fun ds h P Z => tc ds h (fun b h1 => if b = true then ta ds h1 P Z else tb ds h1 P Z) Z
theorem dt_ifT {c a b : Expr} {tc ta tb : TDT} {pos : Pos} (hc : PT X c (liftT C Wx tc)) (ha : PT X a (liftT C Wx ta)) (hb : PT X b (liftT C Wx tb)) : PT X (.IfExp c a b pos) (liftT C Wx (dIfT tc ta tb)) :=
  (pt_ifT hc ha hb).imD fun σ H Q q => by
    obtain ⟨R, ds, h, P, Z, e, p, k, z⟩ := q
    refine ⟨R, ds, h, _, Z, e, p, fun R' H' h' b pb x e' => ?_, z⟩
    cases b with
    | true => exact ⟨R', ds, h', P, Z, e', pb, fun R2 H2 h2 c pc x2 e2 => k R2 H2 h2 c pc (x.trans x2) e2, fun R2 H2 h2 y cls dd a b c d => z R2 H2 h2 y cls dd a (x.trans b) c d⟩
    | false => exact ⟨R', ds, h', P, Z, e', pb, fun R2 H2 h2 c pc x2 e2 => k R2 H2 h2 c pc (x.trans x2) e2, fun R2 H2 h2 y cls dd a b c d => z R2 H2 h2 y cls dd a (x.trans b) c d⟩
end
def cE_ite (c : E) (a : E) (b : E) (G : Gm) (N : List Str) (sc : Scope) (x0 : Expr) : Bool := match x0 with
  | .IfExp t l r _ => c.chk G N sc t && a.chk G N sc l && b.chk G N sc r
  | _ => false
theorem sE_ite (c : E) (a : E) (b : E) : SndE (cE_ite c a b) (fun F => dIf (c.t F) (a.d F) (b.d F)) := by
    intro C G F gd k X Wx e S tk h
    cases e <;> first | (exact absurd h Bool.false_ne_true) | skip
    rename_i t l r p
    simp only [cE_ite] at h
    obtain ⟨h1, h2⟩ := ba2 h
    obtain ⟨h1, h3⟩ := ba2 h1
    exact de_if (E.sndT c X Wx t S tk h1) (E.snd a X Wx l S tk h3) (E.snd b X Wx r S tk h2)
theorem uE_ite (c : E) (a : E) (b : E) : SndT (cE_ite c a b) (fun F => dIfT (c.t F) (a.t F) (b.t F)) := by
    intro C G F gd k X Wx e S tk h
    cases e <;> first | (exact absurd h Bool.false_ne_true) | skip
    rename_i t l r p
    simp only [cE_ite] at h
    obtain ⟨h1, h2⟩ := ba2 h
    obtain ⟨h1, h3⟩ := ba2 h1
    exact dt_ifT (E.sndT c X Wx t S tk h1) (E.sndT a X Wx l S tk h3) (E.sndT b X Wx r S tk h2)
def E.ite (c : E) (a : E) (b : E) : E := ⟨cE_ite c a b, fun F => dIf (c.t F) (a.d F) (b.d F), fun F => dIfT (c.t F) (a.t F) (b.t F), sE_ite c a b, uE_ite c a b⟩
@[simp] theorem rdE_ite (c : E) (a : E) (b : E) {F : Fns} : (E.ite c a b).rd F = dIf (c.t F) (a.d F) (b.d F) := rfl
@[simp] theorem rtE_ite (c : E) (a : E) (b : E) {F : Fns} : (E.ite c a b).rt F = dIfT (c.t F) (a.t F) (b.t F) := rfl
def cE_b1 (b : B1) (a : E) (G : Gm) (N : List Str) (sc : Scope) (x0 : Expr) : Bool := match x0 with
  | .Call (.Name x _) [l] [] _ => decide (b.name = x) && glB sc x && decide (x ∈ G.free) && shB G b && noStar l && a.chk G N sc l
  | _ => false
theorem sE_b1 (b : B1) (a : E) : SndE (cE_b1 b a) (fun F => dOp1 (wB1 b) (a.d F)) := by
    intro C G F gd k X Wx e S tk h
    cases e <;> first | (exact absurd h Bool.false_ne_true) | skip
    rename_i f ls kw p
    cases f <;> rcases ls with _ | ⟨l, _ | ⟨l2, ls⟩⟩ <;> rcases kw with _ | ⟨k1, kw⟩ <;> first | (exact absurd h Bool.false_ne_true) | skip
    simp only [cE_b1] at h
    obtain ⟨h1, h2⟩ := ba2 h
    obtain ⟨h1, h3⟩ := ba2 h1
    obtain ⟨h1, h4⟩ := ba2 h1
    obtain ⟨h1, h5⟩ := ba2 h1
    obtain ⟨h1, h6⟩ := ba2 h1
    cases of_decide_eq_true h1
    have ok : B1Ok X b := ⟨S.free _ (of_decide_eq_true h5), glB_ok h6, S.calm, Nat.lt_of_le_of_lt (by omega) S.units, fun z => S.gdA (S.sh (by subst z; exact h4))⟩
    exact de_b1 S.hK ok (E.snd a X Wx l S tk h2) (star_ok h3)
theorem uE_b1 (b : B1) (a : E) : SndT (cE_b1 b a) (fun F => dTru (dOp1 (wB1 b) (a.d F))) := by
    intro C G F gd k X Wx e S tk h
    have q := sE_b1 b a X Wx e S tk h
    cases e <;> first | (exact absurd h Bool.false_ne_true) | skip
    exact dt_tru S.hK q (plainT_ok rfl)
def E.b1 (b : B1) (a : E) : E := ⟨cE_b1 b a, fun F => dOp1 (wB1 b) (a.d F), fun F => dTru (dOp1 (wB1 b) (a.d F)), sE_b1 b a, uE_b1 b a⟩
@[simp] theorem rdE_b1 (b : B1) (a : E) {F : Fns} : (E.b1 b a).rd F = dOp1 (wB1 b) (a.d F) := rfl
@[simp] theorem rtE_b1 (b : B1) (a : E) {F : Fns} : (E.b1 b a).rt F = dTru (dOp1 (wB1 b) (a.d F)) := rfl
def cE_isi (y : Str) (T : String) (a : E) (G : Gm) (N : List Str) (sc : Scope) (x0 : Expr) : Bool := match x0 with
  | .Call (.Name x _) [l, .Name z _] [] _ => decide (x = "isinstance") && decide (y = z) && glB sc x && decide (x ∈ G.free) && glB sc z && decide (z ∈ G.free) && okN z && decide (bootBuiltins z = some (.type T)) && noStar l && a.chk G N sc l
  | _ => false
theorem sE_isi (y : Str) (T : String) (a : E) : SndE (cE_isi y T a) (fun F => dOp1 (wIsi T) (a.d F)) := by
    intro C G F gd k X Wx e S tk h
    cases e <;> first | (exact absurd h Bool.false_ne_true) | (simp [cE_isi] at h; done) | skip
    rename_i f ls kw p
    cases f <;> rcases ls with _ | ⟨l, _ | ⟨l2, _ | ⟨l3, ls⟩⟩⟩ <;> rcases kw with _ | ⟨k1, kw⟩ <;> first | (exact absurd h Bool.false_ne_true) | (simp [cE_isi] at h; done) | skip
    cases l2 <;> first | (exact absurd h Bool.false_ne_true) | (simp [cE_isi] at h; done) | skip
    simp only [cE_isi] at h
    obtain ⟨h, g1⟩ := ba2 h
    obtain ⟨h, g2⟩ := ba2 h
    obtain ⟨h, g3⟩ := ba2 h
    obtain ⟨h, g4⟩ := ba2 h
    obtain ⟨h, g5⟩ := ba2 h
    obtain ⟨h, g6⟩ := ba2 h
    obtain ⟨h, g7⟩ := ba2 h
    obtain ⟨h, g8⟩ := ba2 h
    obtain ⟨h, g9⟩ := ba2 h
    cases of_decide_eq_true h
    cases of_decide_eq_true g9
    obtain ⟨o1, _, o3⟩ := okN_ok g4
    exact de_isi S.hK (glB_ok g8) (S.free _ (of_decide_eq_true g7)) (glB_ok g6) (S.free _ (of_decide_eq_true g5)) (of_decide_eq_true g3) o3 o1 (E.snd a X Wx l S tk g1) (star_ok g2)
theorem uE_isi (y : Str) (T : String) (a : E) : SndT (cE_isi y T a) (fun F => dTru (dOp1 (wIsi T) (a.d F))) := by
    intro C G F gd k X Wx e S tk h
    have q := sE_isi y T a X Wx e S tk h
    cases e <;> first | (exact absurd h Bool.false_ne_true) | (simp [cE_isi] at h; done) | skip
    exact dt_tru S.hK q (plainT_ok rfl)
def E.isi (x : Str) (T : String) (a : E) : E := ⟨cE_isi x T a, fun F => dOp1 (wIsi T) (a.d F), fun F => dTru (dOp1 (wIsi T) (a.d F)), sE_isi x T a, uE_isi x T a⟩
@[simp] theorem rdE_isi (x : Str) (T : String) (a : E) {F : Fns} : (E.isi x T a).rd F = dOp1 (wIsi T) (a.d F) := rfl
@[simp] theorem rtE_isi (x : Str) (T : String) (a : E) {F : Fns} : (E.isi x T a).rt F = dTru (dOp1 (wIsi T) (a.d F)) := rfl
def cE_ix (a : E) (i : E) (G : Gm) (N : List Str) (sc : Scope) (x0 : Expr) : Bool := match x0 with
  | .Subscript l r _ => noSlice r && a.chk G N sc l && i.chk G N sc r
  | _ => false
theorem sE_ix (a : E) (i : E) : SndE (cE_ix a i) (fun F => dOp2 wIx (a.d F) (i.d F)) := by
    intro C G F gd k X Wx e S tk h
    cases e <;> first | (exact absurd h Bool.false_ne_true) | skip
    rename_i l r p
    simp only [cE_ix] at h
    obtain ⟨h1, h2⟩ := ba2 h
    obtain ⟨h1, h3⟩ := ba2 h1
    exact de_ix S.hK (noSlice_ok h1) (E.snd a X Wx l S tk h3) (E.snd i X Wx r S tk h2)
theorem uE_ix (a : E) (i : E) : SndT (cE_ix a i) (fun F => dTru (dOp2 wIx (a.d F) (i.d F))) := by
    intro C G F gd k X Wx e S tk h
    have q := sE_ix a i X Wx e S tk h
    cases e <;> first | (exact absurd h Bool.false_ne_true) | skip
    exact dt_tru S.hK q (plainT_ok rfl)
def E.ix (a : E) (i : E) : E := ⟨cE_ix a i, fun F => dOp2 wIx (a.d F) (i.d F), fun F => dTru (dOp2 wIx (a.d F) (i.d F)), sE_ix a i, uE_ix a i⟩
@[simp] theorem rdE_ix (a : E) (i : E) {F : Fns} : (E.ix a i).rd F = dOp2 wIx (a.d F) (i.d F) := rfl
@[simp] theorem rtE_ix (a : E) (i : E) {F : Fns} : (E.ix a i).rt F = dTru (dOp2 wIx (a.d F) (i.d F)) := rfl
def cE_hix (a : E) (i : E) (G : Gm) (N : List Str) (sc : Scope) (x0 : Expr) : Bool := match x0 with
  | .Subscript l r _ => noSlice r && a.chk G N sc l && i.chk G N sc r
  | _ => false
theorem sE_hix (a : E) (i : E) : SndE (cE_hix a i) (fun F => dHix (a.d F) (i.d F)) := by
    intro C G F gd k X Wx e S tk h
    cases e <;> first | (exact absurd h Bool.false_ne_true) | skip
    rename_i l r p
    simp only [cE_hix] at h
    obtain ⟨h1, h2⟩ := ba2 h
    obtain ⟨h1, h3⟩ := ba2 h1
    exact de_hix S.hK (noSlice_ok h1) (E.snd a X Wx l S tk h3) (E.snd i X Wx r S tk h2)
def E.hix (a : E) (i : E) : E := ⟨cE_hix a i, fun F => dHix (a.d F) (i.d F), fun _ _ _ _ _ => False, sE_hix a i, noT⟩
@[simp] theorem rdE_hix (a : E) (i : E) {F : Fns} : (E.hix a i).rd F = dHix (a.d F) (i.d F) := rfl
@[simp] theorem rtE_hix (a : E) (i : E) {F : Fns} : (E.hix a i).rt F = (fun _ _ _ _ => False) := rfl
def cE_sl (a : E) (lo : Oe) (hi : Oe) (G : Gm) (N : List Str) (sc : Scope) (x0 : Expr) : Bool := match x0 with
  | .Subscript l (.Slice x y none _) _ => a.chk G N sc l && lo.chk G N sc x && hi.chk G N sc y
  | _ => false
theorem sE_sl (a : E) (lo : Oe) (hi : Oe) : SndE (cE_sl a lo hi) (fun F => dSl (a.d F) (lo.d F) (hi.d F)) := by
    intro C G F gd k X Wx e S tk h
    cases e <;> first | (exact absurd h Bool.false_ne_true) | skip
    rename_i l r p
    cases r <;> first | (exact absurd h Bool.false_ne_true) | skip
    rename_i x y st p2
    cases st <;> first | (exact absurd h Bool.false_ne_true) | skip
    simp only [cE_sl] at h
    obtain ⟨h1, h2⟩ := ba2 h
    obtain ⟨h1, h3⟩ := ba2 h1
    exact de_sl S.hK (E.snd a X Wx l S tk h1) (Oe.snd lo X Wx x S tk h3) (Oe.snd hi X Wx y S tk h2)
def E.sl (a : E) (lo : Oe) (hi : Oe) : E := ⟨cE_sl a lo hi, fun F => dSl (a.d F) (lo.d F) (hi.d F), fun _ _ _ _ _ => False, sE_sl a lo hi, noT⟩
@[simp] theorem rdE_sl (a : E) (lo : Oe) (hi : Oe) {F : Fns} : (E.sl a lo hi).rd F = dSl (a.d F) (lo.d F) (hi.d F) := rfl
@[simp] theorem rtE_sl (a : E) (lo : Oe) (hi : Oe) {F : Fns} : (E.sl a lo hi).rt F = (fun _ _ _ _ => False) := rfl
def cE_tup (es : Es) (G : Gm) (N : List Str) (sc : Scope) (x0 : Expr) : Bool := match x0 with
  | .Tuple ls _ _ => es.chk G N sc ls
  | _ => false
theorem sE_tup (es : Es) : SndE (cE_tup es) (fun F => dTup (es.d F)) := by
    intro C G F gd k X Wx e S tk h
    cases e <;> first | (exact absurd h Bool.false_ne_true) | skip
    simp only [cE_tup] at h
    exact de_tup (Es.snd es X Wx _ S tk h)
def E.tup (es : Es) : E := ⟨cE_tup es, fun F => dTup (es.d F), fun _ _ _ _ _ => False, sE_tup es, noT⟩
@[simp] theorem rdE_tup (es : Es) {F : Fns} : (E.tup es).rd F = dTup (es.d F) := rfl
@[simp] theorem rtE_tup (es : Es) {F : Fns} : (E.tup es).rt F = (fun _ _ _ _ => False) := rfl
def cE_lst (es : Es) (G : Gm) (N : List Str) (sc : Scope) (x0 : Expr) : Bool := match x0 with
  | .List ls _ => es.chk G N sc ls
  | _ => false
theorem sE_lst (es : Es) : SndE (cE_lst es) (fun F => dLst (es.d F)) := by
    intro C G F gd k X Wx e S tk h
    cases e <;> first | (exact absurd h Bool.false_ne_true) | skip
    simp only [cE_lst] at h
    exact de_lst (Es.snd es X Wx _ S tk h)
def E.lst (es : Es) : E := ⟨cE_lst es, fun F => dLst (es.d F), fun _ _ _ _ _ => False, sE_lst es, noT⟩
@[simp] theorem rdE_lst (es : Es) {F : Fns} : (E.lst es).rd F = dLst (es.d F) := rfl
@[simp] theorem rtE_lst (es : Es) {F : Fns} : (E.lst es).rt F = (fun _ _ _ _ => False) := rfl
def cE_newL (es : Es) (G : Gm) (N : List Str) (sc : Scope) (x0 : Expr) : Bool := match x0 with
  | .List ls _ => es.chk G N sc ls
  | _ => false
theorem sE_newL (es : Es) : SndE (cE_newL es) (fun F => dNewL (es.d F)) := by
    intro C G F gd k X Wx e S tk h
    cases e <;> first | (exact absurd h Bool.false_ne_true) | skip
    simp only [cE_newL] at h
    exact de_newL (Es.snd es X Wx _ S tk h)
def E.newL (es : Es) : E := ⟨cE_newL es, fun F => dNewL (es.d F), fun _ _ _ _ _ => False, sE_newL es, noT⟩
@[simp] theorem rdE_newL (es : Es) {F : Fns} : (E.newL es).rd F = dNewL (es.d F) := rfl
@[simp] theorem rtE_newL (es : Es) {F : Fns} : (E.newL es).rt F = (fun _ _ _ _ => False) := rfl
def cE_call (f : Nat) (m1 : Es) (G : Gm) (N : List Str) (sc : Scope) (x0 : Expr) : Bool := match m1, x0 with
  | .cons a es, .Call (.Name x _) (l :: ls) [] _ => (match G.fn[f]? with
    | some (y, n, _) => decide (y = x) && decide (n = es.len + 1) && (G.koA f).isNone
    | none => false) && glB sc x && okN x && noStar l && a.chk G N sc l && es.chk G N sc ls
  | _, _ => false
theorem sE_call (f : Nat) (es : Es) : SndE (cE_call f es) (fun F => dCall es.len (F.f f) (es.d F)) := by
    intro C G F gd k X Wx e S tk h
    cases es with
    | nil => cases e <;> exact absurd h Bool.false_ne_true
    | cons a es =>
      cases e <;> first | (exact absurd h Bool.false_ne_true) | skip
      rename_i f' ls kw p
      cases f' <;> rcases ls with _ | ⟨l, ls⟩ <;> rcases kw with _ | ⟨k1, kw⟩ <;> first | (exact absurd h Bool.false_ne_true) | skip
      rename_i x p1
      simp only [cE_call] at h
      obtain ⟨h, g1⟩ := ba2 h
      obtain ⟨h, g2⟩ := ba2 h
      obtain ⟨h, g3⟩ := ba2 h
      obtain ⟨h, g4⟩ := ba2 h
      obtain ⟨h, g5⟩ := ba2 h
      cases q : G.fn[f]? with
      | none => rw [q] at h; cases h
      | some pq =>
        obtain ⟨y, n, g⟩ := pq
        rw [q] at h
        obtain ⟨h, n3⟩ := ba2 h
        obtain ⟨n1, n2⟩ := ba2 h
        cases of_decide_eq_true n1
        have n2 := of_decide_eq_true n2
        obtain ⟨fa, fd, ps, hm, hk, hl, hb, Fg, hg, _⟩ := S.fn f _ q
        have hb := hb (Option.isNone_iff_eq_none.mp n3)
        have hA : PA X (l :: ls) (liftA C Wx ((Es.cons a es).d F)) := da_cons (E.snd a X Wx l S tk g2) (Es.snd es X Wx ls S tk g1) (star_ok g3)
        have hl' : ps.length = es.len + 1 := hl.trans n2
        show PE X _ (lift C Wx (dCall (es.len + 1) (F.f f) ((Es.cons a es).d F)))
        rw [← hl']
        have Fg' : FnG X.prog X.w X.K X.mg X.base g k fa fd ps (liftF C.K C.Cl ps.length (F.f f)) := by rw [hl]; exact Fg
        exact de_call S.hK Fg' S.room (fun z => S.gdA (hg z)) tk (glB_ok g5) hm hk hb hA (okN_ok g4).1 (star_ok g3) (any_ok g1)
theorem uE_call (f : Nat) (es : Es) : SndT (cE_call f es) (fun F => dTru (dCall es.len (F.f f) (es.d F))) := by
    intro C G F gd k X Wx e S tk h
    have q := sE_call f es X Wx e S tk h
    cases e <;> first | (cases es <;> exact absurd h Bool.false_ne_true; done) | skip
    exact dt_tru S.hK q (plainT_ok rfl)
def E.call (f : Nat) (es : Es) : E := ⟨cE_call f es, fun F => dCall es.len (F.f f) (es.d F), fun F => dTru (dCall es.len (F.f f) (es.d F)), sE_call f es, uE_call f es⟩
@[simp] theorem rdE_call (f : Nat) (es : Es) {F : Fns} : (E.call f es).rd F = dCall es.len (F.f f) (es.d F) := rfl
@[simp] theorem rtE_call (f : Nat) (es : Es) {F : Fns} : (E.call f es).rt F = dTru (dCall es.len (F.f f) (es.d F)) := rfl
def cE_lc (tg : Tg) (src : Ic) (test : Oe) (elt : E) (own : List (Str × Nat)) (G : Gm) (N : List Str) (sc : Scope) (x0 : Expr) : Bool := match x0 with
  | .ListComp l [⟨t, it, ifs, as⟩] scope _ => decide (as = 0) && (!src.needT || tupE t) && src.chk G N sc it && noSet it && blkC N sc scope own && tg.chk true N (relS scope sc) t && test.chkT G.q N (relS scope sc) ifs && elt.chk G.q N (relS scope sc) l && (tg.slots.all fun i => decide (i ∈ own.map (·.2)))
  | _ => false
theorem sE_lc (tg : Tg) (src : Ic) (test : Oe) (elt : E) (own : List (Str × Nat)) : SndE (cE_lc tg src test elt own) (fun F => dLc (src.d F) tg (test.t F.q) (elt.d F.q) (own.map (·.2))) := by
    intro C G F gd k X Wx e S tk h
    cases e <;> first | (exact absurd h Bool.false_ne_true) | skip
    rename_i l gs scope p
    rcases gs with _ | ⟨⟨t, it, ifs, as⟩, _ | ⟨g2, gs⟩⟩ <;> first | (exact absurd h Bool.false_ne_true) | skip
    simp only [cE_lc] at h
    obtain ⟨h, g1⟩ := ba2 h
    obtain ⟨h, g2⟩ := ba2 h
    obtain ⟨h, g3⟩ := ba2 h
    obtain ⟨h, g4⟩ := ba2 h
    obtain ⟨h, g5⟩ := ba2 h
    obtain ⟨h, g6⟩ := ba2 h
    obtain ⟨h, g7⟩ := ba2 h
    obtain ⟨h, g8⟩ := ba2 h
    cases of_decide_eq_true h
    refine de_lc S.calm S.nd (Ic.snd src X Wx t it S tk g8 g7) (blkOk_by g5) (fun s H A cl fp => ?_) (fun s H A cl fp => ?_) (fun s H A cl fp => ?_) (fun i hi => of_decide_eq_true (List.all_eq_true.mp g1 i hi)) (noSet_ok g6)
    · exact Tg.snd (loc := true) (X := X.blk s H scope (compEnvC scope cl A X.env) fp) S.hK S.calm S.nd (fun z => Bool.noConfusion z) tg t g4
    · exact Oe.sndT test _ ifs (S.blk s H scope (compEnvC scope cl A X.env) fp) takesN g3
    · exact E.snd elt _ noW l (S.blk s H scope (compEnvC scope cl A X.env) fp) takesN g2
def E.lc (tg : Tg) (src : Ic) (test : Oe) (elt : E) (own : List (Str × Nat)) : E := ⟨cE_lc tg src test elt own, fun F => dLc (src.d F) tg (test.t F.q) (elt.d F.q) (own.map (·.2)), fun _ _ _ _ _ => False, sE_lc tg src test elt own, noT⟩
@[simp] theorem rdE_lc (tg : Tg) (src : Ic) (test : Oe) (elt : E) (own : List (Str × Nat)) {F : Fns} : (E.lc tg src test elt own).rd F = dLc (src.d F) tg (test.t F.q) (elt.d F.q) (own.map (·.2)) := rfl
@[simp] theorem rtE_lc (tg : Tg) (src : Ic) (test : Oe) (elt : E) (own : List (Str × Nat)) {F : Fns} : (E.lc tg src test elt own).rt F = (fun _ _ _ _ => False) := rfl
def cE_lstS (a : E) (G : Gm) (N : List Str) (sc : Scope) (x0 : Expr) : Bool := match x0 with
  | .Call (.Name x _) [l] [] _ => decide (x = "list") && glB sc x && decide (x ∈ G.free) && noStar l && a.chk G N sc l
  | _ => false
theorem sE_lstS (a : E) : SndE (cE_lstS a) (fun F => dOp1 wListS (a.d F)) := by
    intro C G F gd k X Wx e S tk h
    cases e <;> first | (exact absurd h Bool.false_ne_true) | skip
    rename_i f ls kw p
    cases f <;> rcases ls with _ | ⟨l, _ | ⟨l2, ls⟩⟩ <;> rcases kw with _ | ⟨k1, kw⟩ <;> first | (exact absurd h Bool.false_ne_true) | skip
    simp only [cE_lstS] at h
    obtain ⟨h, g1⟩ := ba2 h
    obtain ⟨h, g2⟩ := ba2 h
    obtain ⟨h, g3⟩ := ba2 h
    obtain ⟨h, g4⟩ := ba2 h
    cases of_decide_eq_true h
    exact de_listS S.calm (glB_ok g4) (S.free _ (of_decide_eq_true g3)) (E.snd a X Wx l S tk g1) (star_ok g2)
def E.lstS (a : E) : E := ⟨cE_lstS a, fun F => dOp1 wListS (a.d F), fun _ _ _ _ _ => False, sE_lstS a, noT⟩
@[simp] theorem rdE_lstS (a : E) {F : Fns} : (E.lstS a).rd F = dOp1 wListS (a.d F) := rfl
@[simp] theorem rtE_lstS (a : E) {F : Fns} : (E.lstS a).rt F = (fun _ _ _ _ => False) := rfl
def cE_mm (mx : Bool) (a : E) (b : E) (G : Gm) (N : List Str) (sc : Scope) (x0 : Expr) : Bool := match x0 with
  | .Call (.Name x _) [l, r] [] _ => decide (mmN mx = x) && glB sc x && decide (x ∈ G.free) && noStar l && noStar r && a.chk G N sc l && b.chk G N sc r
  | _ => false
theorem sE_mm (mx : Bool) (a : E) (b : E) : SndE (cE_mm mx a b) (fun F => dMM mx (a.d F) (b.d F)) := by
    intro C G F gd k X Wx e S tk h
    cases e <;> first | (exact absurd h Bool.false_ne_true) | skip
    rename_i f ls kw p
    cases f <;> rcases ls with _ | ⟨l, _ | ⟨r, _ | ⟨l3, ls⟩⟩⟩ <;> rcases kw with _ | ⟨k1, kw⟩ <;> first | (exact absurd h Bool.false_ne_true) | skip
    simp only [cE_mm] at h
    obtain ⟨h, g1⟩ := ba2 h
    obtain ⟨h, g2⟩ := ba2 h
    obtain ⟨h, g3⟩ := ba2 h
    obtain ⟨h, g4⟩ := ba2 h
    obtain ⟨h, g5⟩ := ba2 h
    obtain ⟨g7, g6⟩ := ba2 h
    cases of_decide_eq_true g7
    exact de_mm S.calm (glB_ok g6) (S.free _ (of_decide_eq_true g5)) (E.snd a X Wx l S tk g2) (E.snd b X Wx r S tk g1) (star_ok g4) (star_ok g3)
def E.mm (mx : Bool) (a : E) (b : E) : E := ⟨cE_mm mx a b, fun F => dMM mx (a.d F) (b.d F), fun _ _ _ _ _ => False, sE_mm mx a b, noT⟩
@[simp] theorem rdE_mm (mx : Bool) (a : E) (b : E) {F : Fns} : (E.mm mx a b).rd F = dMM mx (a.d F) (b.d F) := rfl
@[simp] theorem rtE_mm (mx : Bool) (a : E) (b : E) {F : Fns} : (E.mm mx a b).rt F = (fun _ _ _ _ => False) := rfl
def cE_mxs (mx : Bool) (a : E) (G : Gm) (N : List Str) (sc : Scope) (x0 : Expr) : Bool := match x0 with
  | .Call (.Name x _) [l] [] _ => decide (mmN mx = x) && glB sc x && decide (x ∈ G.free) && noStar l && a.chk G N sc l
  | _ => false
theorem sE_mxs (mx : Bool) (a : E) : SndE (cE_mxs mx a) (fun F => dOp1 (wMx mx) (a.d F)) := by
    intro C G F gd k X Wx e S tk h
    cases e <;> first | (exact absurd h Bool.false_ne_true) | skip
    rename_i f ls kw p
    cases f <;> rcases ls with _ | ⟨l, _ | ⟨r, ls⟩⟩ <;> rcases kw with _ | ⟨k1, kw⟩ <;> first | (exact absurd h Bool.false_ne_true) | skip
    simp only [cE_mxs] at h
    obtain ⟨h, g1⟩ := ba2 h
    obtain ⟨h, g2⟩ := ba2 h
    obtain ⟨h, g3⟩ := ba2 h
    obtain ⟨g5, g4⟩ := ba2 h
    cases of_decide_eq_true g5
    exact de_mx S.hK S.calm (glB_ok g4) (S.free _ (of_decide_eq_true g3)) (E.snd a X Wx l S tk g1) (star_ok g2)
def E.mxs (mx : Bool) (a : E) : E := ⟨cE_mxs mx a, fun F => dOp1 (wMx mx) (a.d F), fun _ _ _ _ _ => False, sE_mxs mx a, noT⟩
@[simp] theorem rdE_mxs (mx : Bool) (a : E) {F : Fns} : (E.mxs mx a).rd F = dOp1 (wMx mx) (a.d F) := rfl
@[simp] theorem rtE_mxs (mx : Bool) (a : E) {F : Fns} : (E.mxs mx a).rt F = (fun _ _ _ _ => False) := rfl
def cE_join (a : E) (b : E) (G : Gm) (N : List Str) (sc : Scope) (x0 : Expr) : Bool := match x0 with
  | .Call (.Attribute l m ap) [r] [] cp => decide (m = "join") && (ap.endLine == cp.line) && noC0 l && noStar r && a.chk G N sc l && b.chk G N sc r
  | _ => false
theorem sE_join (a : E) (b : E) : SndE (cE_join a b) (fun F => dJoin (a.d F) (b.d F)) := by
    intro C G F gd k X Wx e S tk h
    cases e <;> first | (exact absurd h Bool.false_ne_true) | skip
    rename_i f ls kw p
    cases f <;> rcases ls with _ | ⟨r, _ | ⟨r2, ls⟩⟩ <;> rcases kw with _ | ⟨k1, kw⟩ <;> first | (exact absurd h Bool.false_ne_true) | skip
    simp only [cE_join] at h
    obtain ⟨h, g1⟩ := ba2 h
    obtain ⟨h, g2⟩ := ba2 h
    obtain ⟨h, g3⟩ := ba2 h
    obtain ⟨h, g4⟩ := ba2 h
    obtain ⟨g6, g5⟩ := ba2 h
    cases of_decide_eq_true g6
    exact de_join S.hK (E.snd a X Wx _ S tk g2) (E.snd b X Wx r S tk g1) (star_ok g3) (base_ok g4) g5
def E.join (a : E) (b : E) : E := ⟨cE_join a b, fun F => dJoin (a.d F) (b.d F), fun _ _ _ _ _ => False, sE_join a b, noT⟩
@[simp] theorem rdE_join (a : E) (b : E) {F : Fns} : (E.join a b).rd F = dJoin (a.d F) (b.d F) := rfl
@[simp] theorem rtE_join (a : E) (b : E) {F : Fns} : (E.join a b).rt F = (fun _ _ _ _ => False) := rfl
def cE_act (i : Nat) (G : Gm) (N : List Str) (sc : Scope) (x0 : Expr) : Bool := match x0 with
  | .Call (.Name x _) [] [] _ => decide (N[i]? = some x) && visB sc x && okN x
  | _ => false
theorem sE_act (i : Nat) : SndE (cE_act i) (fun F => dAct i F.a) := by
    intro C G F gd k X Wx e S tk h
    cases e <;> first | (exact absurd h Bool.false_ne_true) | skip
    rename_i f ls kw p
    cases f <;> rcases ls with _ | ⟨l, ls⟩ <;> rcases kw with _ | ⟨k1, kw⟩ <;> first | (exact absurd h Bool.false_ne_true) | skip
    simp only [cE_act] at h
    obtain ⟨h, g1⟩ := ba2 h
    obtain ⟨h, g2⟩ := ba2 h
    exact S.act X.pn X.xe Wx i _ _ _ tk (of_decide_eq_true h) (visB_ok g2) g1
def E.act (i : Nat) : E := ⟨cE_act i, fun F => dAct i F.a, fun _ _ _ _ _ => False, sE_act i, noT⟩
@[simp] theorem rdE_act (i : Nat) {F : Fns} : (E.act i).rd F = dAct i F.a := rfl
@[simp] theorem rtE_act (i : Nat) {F : Fns} : (E.act i).rt F = (fun _ _ _ _ => False) := rfl
def cE_lam (f : Nat) (b : E) (G : Gm) (N : List Str) (sc : Scope) (x0 : Expr) : Bool := match x0 with
  | .Call (.Name x _) [.Lambda params body scope _] [] _ => G.lm && decide (G.hn[f]? = some x) && glB sc x && okN x && noPar params && LamX.lamSB sc scope && b.chk G.q N scope body
  | _ => false
theorem sE_lam (f : Nat) (b : E) : SndE (cE_lam f b) (fun F => dLam (F.g f) (b.d F.q)) := by
    intro C G F gd k X Wx e S tk h
    cases e <;> first | (exact absurd h Bool.false_ne_true) | (simp [cE_lam] at h; done) | skip
    rename_i f' ls kw p
    cases f' <;> rcases ls with _ | ⟨l, _ | ⟨l2, ls⟩⟩ <;> rcases kw with _ | ⟨k1, kw⟩ <;> first | (exact absurd h Bool.false_ne_true) | (simp [cE_lam] at h; done) | skip
    cases l <;> first | (exact absurd h Bool.false_ne_true) | (simp [cE_lam] at h; done) | skip
    rename_i x p1 params body scope lpos
    simp only [cE_lam] at h
    obtain ⟨h, g1⟩ := ba2 h
    obtain ⟨h, g2⟩ := ba2 h
    obtain ⟨h, g3⟩ := ba2 h
    obtain ⟨h, g4⟩ := ba2 h
    obtain ⟨h, g5⟩ := ba2 h
    obtain ⟨g7, g6⟩ := ba2 h
    obtain ⟨k', hk2, fns, hos, c, Pt, TB, hcode, hT, hu⟩ := S.lam g7
    obtain ⟨fa, fd, a, hm, hk, hb, Ho⟩ := hos f x (of_decide_eq_true g6)
    have hpar : params = ⟨[], [], none, [], [], none, []⟩ := by
      unfold noPar at g3
      split at g3
      · rfl
      · cases g3
    subst hpar
    refine de_lam (k := k') S.hK (S.hK ▸ Ho) (S.room.mono hk2) S.gdA tk (glB_ok g5) hm hk hb TB hcode hT hu (LamX.lamS_by g2) rfl (fun q cl pm cv ctv => bind_kw (ps := []) (ks := []) (pi := []) (us := []) (ws := []) rfl rfl rfl rfl) (fun A outer t Gp E f' c' hr hg => ?_) (okN_ok g4).1
    exact DL.E.snd (G := G.q) (F := F.q) b (lamCxh X A outer t Gp E scope f' c') _ body ⟨S.hK, rfl, S.nd, (room65 hr), hr, hg, S.sh, S.free, S.con, fns, fun _ _ _ _ _ _ _ _ _ _ _ => de_noact, fun z => Bool.noConfusion z⟩ (takes_of rfl rfl rfl rfl) g1
def E.lam (f : Nat) (b : E) : E := ⟨cE_lam f b, fun F => dLam (F.g f) (b.d F.q), fun _ _ _ _ _ => False, sE_lam f b, noT⟩
@[simp] theorem rdE_lam (f : Nat) (b : E) {F : Fns} : (E.lam f b).rd F = dLam (F.g f) (b.d F.q) := rfl
@[simp] theorem rtE_lam (f : Nat) (b : E) {F : Fns} : (E.lam f b).rt F = (fun _ _ _ _ => False) := rfl
def cE_dic (ks : List Str) (es : Es) (G : Gm) (N : List Str) (sc : Scope) (x0 : Expr) : Bool := match x0 with
  | .Dict keys ls _ => keysB ks keys && decide ks.Nodup && decide (ks.length ≤ 15) && decide (ks ≠ []) && decide (es.len = ks.length) && es.chk G N sc ls
  | _ => false
theorem sE_dic (ks : List Str) (es : Es) : SndE (cE_dic ks es) (fun F => dDic ks (es.d F)) := by
    intro C G F gd k X Wx e S tk h
    cases e <;> first | (exact absurd h Bool.false_ne_true) | skip
    rename_i keys ls p
    simp only [cE_dic] at h
    obtain ⟨h, g1⟩ := ba2 h
    obtain ⟨h, g2⟩ := ba2 h
    obtain ⟨h, g3⟩ := ba2 h
    obtain ⟨h, g4⟩ := ba2 h
    obtain ⟨g6, g5⟩ := ba2 h
    have g2 := of_decide_eq_true g2
    obtain ⟨trs, pp, ht, kl, kall⟩ := Es.sndP es X Wx ls ks keys p S tk g1 g6 g2
    exact de_dic pp ht kall (kl.1.trans kl.2) (fun z => (of_decide_eq_true g3) (by
      have : keys.length = ks.length := kl.1.trans (kl.2.trans (es_len g1 |>.symm.trans g2))
      rw [z] at this
      exact List.eq_nil_of_length_eq_zero this.symm)) (by
      have : keys.length = ks.length := kl.1.trans (kl.2.trans (es_len g1 |>.symm.trans g2))
      rw [this]; exact of_decide_eq_true g4) (of_decide_eq_true g4) (of_decide_eq_true g5)
def E.dic (ks : List Str) (es : Es) : E := ⟨cE_dic ks es, fun F => dDic ks (es.d F), fun _ _ _ _ _ => False, sE_dic ks es, noT⟩
@[simp] theorem rdE_dic (ks : List Str) (es : Es) {F : Fns} : (E.dic ks es).rd F = dDic ks (es.d F) := rfl
@[simp] theorem rtE_dic (ks : List Str) (es : Es) {F : Fns} : (E.dic ks es).rt F = (fun _ _ _ _ => False) := rfl
def cE_callO (f : Nat) (n : Nat) (ks : List Str) (pi : List Nat) (dfs : List Kq) (es : Es) (us : Es) (G : Gm) (N : List Str) (sc : Scope) (x0 : Expr) : Bool := match x0 with
  | .Call (.Name x _) ls kws _ => (match G.fn[f]?, G.koA f, G.ps[f]? with
    | some (y, m, _), some (np, dfl), some ps => decide (y = x) && decide (m = n) && decide (es.len = np) && koB ps es.len ks ((dfl.filter fun p => !ks.contains p.1).map (·.1)) pi && (decide (dfs.length = (dfl.filter fun p => !ks.contains p.1).length) && (dfs.zip ((dfl.filter fun p => !ks.contains p.1).map (·.2))).all fun p => p.1.same p.2)
    | _, _, _ => false) && glB sc x && okN x && decide (kws.map (·.arg) = ks.map some) && decide (us.len = ks.length) && es.chk G N sc ls && us.chkK G N sc kws
  | _ => false
theorem kq_all : ∀ {as bs : List Kq}, as.length = bs.length → ((as.zip bs).all fun p => p.1.same p.2) = true → as = bs
  | [], [], _, _ => rfl
  | [], _ :: _, h, _ => by simp at h
  | _ :: _, [], h, _ => by simp at h
  | a :: as, b :: bs, h, q => by
    simp only [List.zip_cons_cons, List.all_cons, Bool.and_eq_true] at q
    rw [Kq.same_eq q.1, kq_all (by simpa using h) q.2]
theorem sE_callO (f : Nat) (n : Nat) (ks : List Str) (pi : List Nat) (dfs : List Kq) (es : Es) (us : Es) : SndE (cE_callO f n ks pi dfs es us) (fun F => dCallO n es.len us.len pi (dfs.map Kq.d) (F.f f) (es.d F) (us.d F)) := by
    intro C G F gd k X Wx e S tk h
    cases e <;> first | (exact absurd h Bool.false_ne_true) | skip
    rename_i f' ls kws p
    cases f' <;> first | (exact absurd h Bool.false_ne_true) | skip
    rename_i x p1
    simp only [cE_callO] at h
    obtain ⟨h, g1⟩ := ba2 h
    obtain ⟨h, g2⟩ := ba2 h
    obtain ⟨h, g3⟩ := ba2 h
    obtain ⟨h, g4⟩ := ba2 h
    obtain ⟨h, g5⟩ := ba2 h
    obtain ⟨h, g6⟩ := ba2 h
    cases q : G.fn[f]? with
    | none => rw [q] at h; cases h
    | some pq =>
      obtain ⟨y, m, g⟩ := pq
      cases q1 : G.koA f with
      | none => rw [q, q1] at h; cases h
      | some kp =>
        obtain ⟨np, dfl⟩ := kp
        cases q2 : G.ps[f]? with
        | none => rw [q, q1, q2] at h; cases h
        | some qs =>
          rw [q, q1, q2] at h
          obtain ⟨h, n5⟩ := ba2 h
          obtain ⟨h, n4⟩ := ba2 h
          obtain ⟨h, n3⟩ := ba2 h
          obtain ⟨n1, n2⟩ := ba2 h
          cases of_decide_eq_true n1
          have n2 := of_decide_eq_true n2
          subst n2
          have n3 := of_decide_eq_true n3
          obtain ⟨n5, n6⟩ := ba2 n5
          have n7 : dfs = (dfl.filter fun p => !ks.contains p.1).map (·.2) := kq_all (by rw [List.length_map]; exact of_decide_eq_true n5) n6
          obtain ⟨fa, fd, ps, hm, hk, hl, hb, Fg, hg, bk, hps, hko⟩ := S.fn f _ q
          cases hps qs q2
          have hus := of_decide_eq_true g3
          have hel := es_len g2
          have e7 : dfs.map Kq.d = (dfl.filter fun p => !ks.contains p.1).map fun p => p.2.d := by rw [n7, List.map_map] <;> rfl
          show PE X _ (lift C Wx (dCallO m es.len us.len pi (dfs.map Kq.d) (F.f f) (es.d F) (us.d F)))
          have hl2 : qs.length = m := hl
          rw [e7, ← hl2, hel, hus]
          have Fg' : FnG X.prog X.w X.K X.mg X.base g k fa fd qs (liftF C.K C.Cl qs.length (F.f f)) := by rw [hl]; exact Fg
          refine de_callO S.hK Fg' S.room (fun z => S.gdA (hg z)) tk (glB_ok g6) hm hk (by rw [← hel, n3]; exact hko np dfl q1) (Es.snd es X Wx ls S tk g2) (Es.sndK us X Wx kws S tk g1) (hel ▸ n4) (of_decide_eq_true g4) (okN_ok g5).1 ?_ (any_ok g2) (fun z ds h Z P t => ?_)
          · cases ls with
            | nil => exact .inl rfl
            | cons l ls =>
              cases es with
              | nil => simp [Es.chk] at g2
              | cons a es =>
                unfold Es.chk at g2
                exact .inr ⟨l, ls, rfl, star_ok (ba2 (ba2 g2).1).1⟩
          · subst z
            cases es with
            | nil => exact t
            | cons a es => simp [Es.chk] at g2
def E.callO (f : Nat) (n : Nat) (ks : List Str) (pi : List Nat) (dfs : List Kq) (es : Es) (us : Es) : E := ⟨cE_callO f n ks pi dfs es us, fun F => dCallO n es.len us.len pi (dfs.map Kq.d) (F.f f) (es.d F) (us.d F), fun _ _ _ _ _ => False, sE_callO f n ks pi dfs es us, noT⟩
@[simp] theorem rdE_callO (f : Nat) (n : Nat) (ks : List Str) (pi : List Nat) (dfs : List Kq) (es : Es) (us : Es) {F : Fns} : (E.callO f n ks pi dfs es us).rd F = dCallO n es.len us.len pi (dfs.map Kq.d) (F.f f) (es.d F) (us.d F) := rfl
@[simp] theorem rtE_callO (f : Nat) (n : Nat) (ks : List Str) (pi : List Nat) (dfs : List Kq) (es : Es) (us : Es) {F : Fns} : (E.callO f n ks pi dfs es us).rt F = (fun _ _ _ _ => False) := rfl
def cE_fin (ng : Bool) (a : E) (b : E) (G : Gm) (N : List Str) (sc : Scope) (x0 : Expr) : Bool := match x0 with
  | .Compare l [o] [r] _ => decide (inP ng = o) && noSet r && a.chk G N sc l && b.chk G N sc r
  | _ => false
theorem sE_fin (ng : Bool) (a : E) (b : E) : SndE (cE_fin ng a b) (fun F => dFin ng (a.d F) (b.d F)) := by
    intro C G F gd k X Wx e S tk h
    cases e <;> first | (exact absurd h Bool.false_ne_true) | skip
    rename_i l os rs p
    rcases os with _ | ⟨o, _ | ⟨o2, os⟩⟩ <;> rcases rs with _ | ⟨r, _ | ⟨r2, rs⟩⟩ <;> first | (exact absurd h Bool.false_ne_true) | skip
    simp only [cE_fin] at h
    obtain ⟨h1, h2⟩ := ba2 h
    obtain ⟨h1, h3⟩ := ba2 h1
    obtain ⟨h1, h4⟩ := ba2 h1
    cases of_decide_eq_true h1
    exact de_fin (Nat.lt_of_le_of_lt (by omega) S.units) (nomk h4) (E.snd a X Wx l S tk h3) (E.snd b X Wx r S tk h2)
theorem uE_fin (ng : Bool) (a : E) (b : E) : SndT (cE_fin ng a b) (fun F => dFinT ng (a.d F) (b.d F)) := by
    intro C G F gd k X Wx e S tk h
    cases e <;> first | (exact absurd h Bool.false_ne_true) | skip
    rename_i l os rs p
    rcases os with _ | ⟨o, _ | ⟨o2, os⟩⟩ <;> rcases rs with _ | ⟨r, _ | ⟨r2, rs⟩⟩ <;> first | (exact absurd h Bool.false_ne_true) | skip
    simp only [cE_fin] at h
    obtain ⟨h1, h2⟩ := ba2 h
    obtain ⟨h1, h3⟩ := ba2 h1
    obtain ⟨h1, h4⟩ := ba2 h1
    cases of_decide_eq_true h1
    exact dt_fin (Nat.lt_of_le_of_lt (by omega) S.units) (nomk h4) (E.snd a X Wx l S tk h3) (E.snd b X Wx r S tk h2)
def E.fin (ng : Bool) (k : E) (a : E) : E := ⟨cE_fin ng k a, fun F => dFin ng (k.d F) (a.d F), fun F => dFinT ng (k.d F) (a.d F), sE_fin ng k a, uE_fin ng k a⟩
@[simp] theorem rdE_fin (ng : Bool) (k : E) (a : E) {F : Fns} : (E.fin ng k a).rd F = dFin ng (k.d F) (a.d F) := rfl
@[simp] theorem rtE_fin (ng : Bool) (k : E) (a : E) {F : Fns} : (E.fin ng k a).rt F = dFinT ng (k.d F) (a.d F) := rfl
def cE_idx (a : E) (b : E) (G : Gm) (N : List Str) (sc : Scope) (x0 : Expr) : Bool := match x0 with
  | .Call (.Attribute l m ap) [r] [] cp => decide (m = "index") && (ap.endLine == cp.line) && noC0 l && noStar r && a.chk G N sc l && b.chk G N sc r
  | _ => false
theorem sE_idx (a : E) (b : E) : SndE (cE_idx a b) (fun F => dIdx (a.d F) (b.d F)) := by
    intro C G F gd k X Wx e S tk h
    cases e <;> first | (exact absurd h Bool.false_ne_true) | skip
    rename_i f ls kw p
    cases f <;> rcases ls with _ | ⟨r, _ | ⟨r2, ls⟩⟩ <;> rcases kw with _ | ⟨k1, kw⟩ <;> first | (exact absurd h Bool.false_ne_true) | skip
    simp only [cE_idx] at h
    obtain ⟨h, g1⟩ := ba2 h
    obtain ⟨h, g2⟩ := ba2 h
    obtain ⟨h, g3⟩ := ba2 h
    obtain ⟨h, g4⟩ := ba2 h
    obtain ⟨g6, g5⟩ := ba2 h
    cases of_decide_eq_true g6
    exact de_idx S.hK S.units (E.snd a X Wx _ S tk g2) (E.snd b X Wx r S tk g1) (star_ok g3) (base_ok g4) g5
def E.idx (a : E) (b : E) : E := ⟨cE_idx a b, fun F => dIdx (a.d F) (b.d F), fun _ _ _ _ _ => False, sE_idx a b, noT⟩
@[simp] theorem rdE_idx (a : E) (b : E) {F : Fns} : (E.idx a b).rd F = dIdx (a.d F) (b.d F) := rfl
@[simp] theorem rtE_idx (a : E) (b : E) {F : Fns} : (E.idx a b).rt F = (fun _ _ _ _ => False) := rfl
def cIc_l (a : E) (G : Gm) (N : List Str) (sc : Scope) (x0 : Expr) : Bool := match x0 with
  | l => a.chk G N sc l
theorem sIc_l (a : E) : SndI false (cIc_l a) (fun F => dItL (a.d F)) := by
    intro C G F gd k X Wx tg e S tk ht h
    simp only [cIc_l] at h
    exact di_lst S.hK (E.snd a X Wx e S tk h)
def Ic.l (e : E) : Ic := ⟨false, cIc_l e, fun F => dItL (e.d F), sIc_l e⟩
@[simp] theorem rdIc_l (e : E) {F : Fns} : (Ic.l e).rd F = dItL (e.d F) := rfl
def cIc_t (a : E) (G : Gm) (N : List Str) (sc : Scope) (x0 : Expr) : Bool := match x0 with
  | l => a.chk G N sc l
theorem sIc_t (a : E) : SndI false (cIc_t a) (fun F => dItT (a.d F)) := by
    intro C G F gd k X Wx tg e S tk ht h
    simp only [cIc_t] at h
    exact di_tup S.hK (E.snd a X Wx e S tk h)
def Ic.t (e : E) : Ic := ⟨false, cIc_t e, fun F => dItT (e.d F), sIc_t e⟩
@[simp] theorem rdIc_t (e : E) {F : Fns} : (Ic.t e).rd F = dItT (e.d F) := rfl
def cIc_s (a : E) (G : Gm) (N : List Str) (sc : Scope) (x0 : Expr) : Bool := match x0 with
  | l => a.chk G N sc l
theorem sIc_s (a : E) : SndI false (cIc_s a) (fun F => dItS (a.d F)) := by
    intro C G F gd k X Wx tg e S tk ht h
    simp only [cIc_s] at h
    exact di_str (E.snd a X Wx e S tk h)
def Ic.s (e : E) : Ic := ⟨false, cIc_s e, fun F => dItS (e.d F), sIc_s e⟩
@[simp] theorem rdIc_s (e : E) {F : Fns} : (Ic.s e).rd F = dItS (e.d F) := rfl
def cIc_r1 (a : E) (G : Gm) (N : List Str) (sc : Scope) (x0 : Expr) : Bool := match x0 with
  | .Call (.Name x _) [l] [] _ => decide (x = "range") && glB sc x && decide (x ∈ G.free) && noStar l && a.chk G N sc l
  | _ => false
theorem sIc_r1 (a : E) : SndI false (cIc_r1 a) (fun F => dItR1 (a.d F)) := by
    intro C G F gd k X Wx tg e S tk ht h
    cases e <;> first | (exact absurd h Bool.false_ne_true) | skip
    rename_i f ls kw p
    cases f <;> rcases ls with _ | ⟨l, _ | ⟨l2, ls⟩⟩ <;> rcases kw with _ | ⟨k1, kw⟩ <;> first | (exact absurd h Bool.false_ne_true) | skip
    simp only [cIc_r1] at h
    obtain ⟨h, g1⟩ := ba2 h
    obtain ⟨h, g2⟩ := ba2 h
    obtain ⟨h, g3⟩ := ba2 h
    obtain ⟨h, g4⟩ := ba2 h
    cases of_decide_eq_true h
    exact di_r1 (glB_ok g4) (S.free _ (of_decide_eq_true g3)) (E.snd a X Wx l S tk g1) (star_ok g2)
def Ic.r1 (e : E) : Ic := ⟨false, cIc_r1 e, fun F => dItR1 (e.d F), sIc_r1 e⟩
@[simp] theorem rdIc_r1 (e : E) {F : Fns} : (Ic.r1 e).rd F = dItR1 (e.d F) := rfl
def cIc_r2 (a : E) (b : E) (G : Gm) (N : List Str) (sc : Scope) (x0 : Expr) : Bool := match x0 with
  | .Call (.Name x _) [l, r] [] _ => decide (x = "range") && glB sc x && decide (x ∈ G.free) && noStar l && noStar r && a.chk G N sc l && b.chk G N sc r
  | _ => false
theorem sIc_r2 (a : E) (b : E) : SndI false (cIc_r2 a b) (fun F => dItR2 (a.d F) (b.d F)) := by
    intro C G F gd k X Wx tg e S tk ht h
    cases e <;> first | (exact absurd h Bool.false_ne_true) | (simp [cIc_r2] at h; done) | skip
    rename_i f ls kw p
    cases f <;> rcases ls with _ | ⟨l, _ | ⟨l2, _ | ⟨l3, ls⟩⟩⟩ <;> rcases kw with _ | ⟨k1, kw⟩ <;> first | (exact absurd h Bool.false_ne_true) | (simp [cIc_r2] at h; done) | skip
    simp only [cIc_r2] at h
    obtain ⟨h, g1⟩ := ba2 h
    obtain ⟨h, g2⟩ := ba2 h
    obtain ⟨h, g3⟩ := ba2 h
    obtain ⟨h, g4⟩ := ba2 h
    obtain ⟨h, g5⟩ := ba2 h
    obtain ⟨h, g6⟩ := ba2 h
    cases of_decide_eq_true h
    exact di_r2 (glB_ok g6) (S.free _ (of_decide_eq_true g5)) (E.snd a X Wx l S tk g2) (E.snd b X Wx l2 S tk g1) (by rw [star_ok g4, star_ok g3]; rfl) (star_ok g3)
def Ic.r2 (a : E) (b : E) : Ic := ⟨false, cIc_r2 a b, fun F => dItR2 (a.d F) (b.d F), sIc_r2 a b⟩
@[simp] theorem rdIc_r2 (a : E) (b : E) {F : Fns} : (Ic.r2 a b).rd F = dItR2 (a.d F) (b.d F) := rfl
def cIc_en (a : E) (G : Gm) (N : List Str) (sc : Scope) (x0 : Expr) : Bool := match x0 with
  | .Call (.Name x _) [l] [] _ => decide (x = "enumerate") && glB sc x && decide (x ∈ G.free) && noStar l && a.chk G N sc l
  | _ => false
theorem sIc_en (a : E) : SndI true (cIc_en a) (fun F => dItE (a.d F)) := by
    intro C G F gd k X Wx tg e S tk ht h
    cases tg <;> first | (exact absurd ht Bool.false_ne_true) | skip
    cases e <;> first | (exact absurd h Bool.false_ne_true) | skip
    rename_i f ls kw p
    cases f <;> rcases ls with _ | ⟨l, _ | ⟨l2, ls⟩⟩ <;> rcases kw with _ | ⟨k1, kw⟩ <;> first | (exact absurd h Bool.false_ne_true) | skip
    simp only [cIc_en] at h
    obtain ⟨h, g1⟩ := ba2 h
    obtain ⟨h, g2⟩ := ba2 h
    obtain ⟨h, g3⟩ := ba2 h
    obtain ⟨h, g4⟩ := ba2 h
    cases of_decide_eq_true h
    exact di_en S.hK (glB_ok g4) (S.free _ (of_decide_eq_true g3)) (E.snd a X Wx l S tk g1) (star_ok g2)
def Ic.en (e : E) : Ic := ⟨true, cIc_en e, fun F => dItE (e.d F), sIc_en e⟩
@[simp] theorem rdIc_en (e : E) {F : Fns} : (Ic.en e).rd F = dItE (e.d F) := rfl
def cIc_r3 (a : E) (b : E) (c : E) (G : Gm) (N : List Str) (sc : Scope) (x0 : Expr) : Bool := match x0 with
  | .Call (.Name x _) [l, r, q] [] _ => decide (x = "range") && glB sc x && decide (x ∈ G.free) && noStar l && noStar r && noStar q && a.chk G N sc l && b.chk G N sc r && c.chk G N sc q
  | _ => false
theorem sIc_r3 (a : E) (b : E) (c : E) : SndI false (cIc_r3 a b c) (fun F => dItR3 (a.d F) (b.d F) (c.d F)) := by
    intro C G F gd k X Wx tg e S tk ht h
    cases e <;> first | (exact absurd h Bool.false_ne_true) | (simp [cIc_r3] at h; done) | skip
    rename_i f ls kw p
    cases f <;> rcases ls with _ | ⟨l, _ | ⟨l2, _ | ⟨l3, _ | ⟨l4, ls⟩⟩⟩⟩ <;> rcases kw with _ | ⟨k1, kw⟩ <;> first | (exact absurd h Bool.false_ne_true) | (simp [cIc_r3] at h; done) | skip
    simp only [cIc_r3] at h
    obtain ⟨h, g1⟩ := ba2 h
    obtain ⟨h, g2⟩ := ba2 h
    obtain ⟨h, g3⟩ := ba2 h
    obtain ⟨h, g4⟩ := ba2 h
    obtain ⟨h, g5⟩ := ba2 h
    obtain ⟨h, g6⟩ := ba2 h
    obtain ⟨h, g7⟩ := ba2 h
    obtain ⟨h, g8⟩ := ba2 h
    cases of_decide_eq_true h
    exact di_r3 (glB_ok g8) (S.free _ (of_decide_eq_true g7)) (E.snd a X Wx l S tk g3) (E.snd b X Wx l2 S tk g2) (E.snd c X Wx l3 S tk g1) (star_ok g6) (star_ok g5) (star_ok g4)
def Ic.r3 (a : E) (b : E) (c : E) : Ic := ⟨false, cIc_r3 a b c, fun F => dItR3 (a.d F) (b.d F) (c.d F), sIc_r3 a b c⟩
@[simp] theorem rdIc_r3 (a : E) (b : E) (c : E) {F : Fns} : (Ic.r3 a b c).rd F = dItR3 (a.d F) (b.d F) (c.d F) := rfl
def cIc_r4 (a : E) (b : E) (c : E) (G : Gm) (N : List Str) (sc : Scope) (x0 : Expr) : Bool := match x0 with
  | .Call (.Name x _) [l, r, q] [] _ => decide (x = "range") && glB sc x && decide (x ∈ G.free) && noStar l && noStar r && noStar q && a.chk G N sc l && b.chk G N sc r && c.chk G N sc q
  | _ => false
theorem sIc_r4 (a : E) (b : E) (c : E) : SndI false (cIc_r4 a b c) (fun F => dItR4 (a.d F) (b.d F) (c.d F)) := by
    intro C G F gd k X Wx tg e S tk ht h
    cases e <;> first | (exact absurd h Bool.false_ne_true) | (simp [cIc_r4] at h; done) | skip
    rename_i f ls kw p
    cases f <;> rcases ls with _ | ⟨l, _ | ⟨l2, _ | ⟨l3, _ | ⟨l4, ls⟩⟩⟩⟩ <;> rcases kw with _ | ⟨k1, kw⟩ <;> first | (exact absurd h Bool.false_ne_true) | (simp [cIc_r4] at h; done) | skip
    simp only [cIc_r4] at h
    obtain ⟨h, g1⟩ := ba2 h
    obtain ⟨h, g2⟩ := ba2 h
    obtain ⟨h, g3⟩ := ba2 h
    obtain ⟨h, g4⟩ := ba2 h
    obtain ⟨h, g5⟩ := ba2 h
    obtain ⟨h, g6⟩ := ba2 h
    obtain ⟨h, g7⟩ := ba2 h
    obtain ⟨h, g8⟩ := ba2 h
    cases of_decide_eq_true h
    exact di_r4 (glB_ok g8) (S.free _ (of_decide_eq_true g7)) (E.snd a X Wx l S tk g3) (E.snd b X Wx l2 S tk g2) (E.snd c X Wx l3 S tk g1) (star_ok g6) (star_ok g5) (star_ok g4)
def Ic.r4 (a : E) (b : E) (c : E) : Ic := ⟨false, cIc_r4 a b c, fun F => dItR4 (a.d F) (b.d F) (c.d F), sIc_r4 a b c⟩
@[simp] theorem rdIc_r4 (a : E) (b : E) (c : E) {F : Fns} : (Ic.r4 a b c).rd F = dItR4 (a.d F) (b.d F) (c.d F) := rfl
def cIc_zip (a : E) (b : E) (G : Gm) (N : List Str) (sc : Scope) (x0 : Expr) : Bool := match x0 with
  | .Call (.Name x _) [l, r] [] _ => decide (x = "zip") && glB sc x && decide (x ∈ G.free) && noStar l && noStar r && a.chk G N sc l && b.chk G N sc r
  | _ => false
theorem sIc_zip (a : E) (b : E) : SndI true (cIc_zip a b) (fun F => dItZ (a.d F) (b.d F)) := by
    intro C G F gd k X Wx tg e S tk ht h
    cases tg <;> first | (exact absurd ht Bool.false_ne_true) | skip
    cases e <;> first | (exact absurd h Bool.false_ne_true) | (simp [cIc_zip] at h; done) | skip
    rename_i f ls kw p
    cases f <;> rcases ls with _ | ⟨l, _ | ⟨l2, _ | ⟨l3, ls⟩⟩⟩ <;> rcases kw with _ | ⟨k1, kw⟩ <;> first | (exact absurd h Bool.false_ne_true) | (simp [cIc_zip] at h; done) | skip
    simp only [cIc_zip] at h
    obtain ⟨h, g1⟩ := ba2 h
    obtain ⟨h, g2⟩ := ba2 h
    obtain ⟨h, g3⟩ := ba2 h
    obtain ⟨h, g4⟩ := ba2 h
    obtain ⟨h, g5⟩ := ba2 h
    obtain ⟨h, g6⟩ := ba2 h
    cases of_decide_eq_true h
    exact di_zip S.hK (glB_ok g6) (S.free _ (of_decide_eq_true g5)) (E.snd a X Wx l S tk g2) (E.snd b X Wx l2 S tk g1) (star_ok g4) (star_ok g3)
def Ic.zip (a : E) (b : E) : Ic := ⟨true, cIc_zip a b, fun F => dItZ (a.d F) (b.d F), sIc_zip a b⟩
@[simp] theorem rdIc_zip (a : E) (b : E) {F : Fns} : (Ic.zip a b).rd F = dItZ (a.d F) (b.d F) := rfl
def cIc_dk (a : E) (G : Gm) (N : List Str) (sc : Scope) (x0 : Expr) : Bool := match x0 with
  | l => a.chk G N sc l
theorem sIc_dk (a : E) : SndI false (cIc_dk a) (fun F => dItDk (a.d F)) := by
    intro C G F gd k X Wx tg e S tk ht h
    simp only [cIc_dk] at h
    exact di_dk (E.snd a X Wx e S tk h)
def Ic.dk (e : E) : Ic := ⟨false, cIc_dk e, fun F => dItDk (e.d F), sIc_dk e⟩
@[simp] theorem rdIc_dk (e : E) {F : Fns} : (Ic.dk e).rd F = dItDk (e.d F) := rfl
def cIc_ci (a : E) (G : Gm) (N : List Str) (sc : Scope) (x0 : Expr) : Bool := match x0 with
  | .Call (.Attribute l m ap) [] [] cp => decide (m = "items") && (ap.endLine == cp.line) && noC0 l && a.chk G N sc l
  | _ => false
theorem sIc_ci (a : E) : SndI true (cIc_ci a) (fun F => dItCi (a.d F)) := by
    intro C G F gd k X Wx tg e S tk ht h
    cases tg <;> first | (exact absurd ht Bool.false_ne_true) | skip
    cases e <;> first | (exact absurd h Bool.false_ne_true) | skip
    rename_i f ls kw p
    cases f <;> rcases ls with _ | ⟨r, ls⟩ <;> rcases kw with _ | ⟨k1, kw⟩ <;> first | (exact absurd h Bool.false_ne_true) | skip
    simp only [cIc_ci] at h
    obtain ⟨h, g1⟩ := ba2 h
    obtain ⟨h, g2⟩ := ba2 h
    obtain ⟨g4, g3⟩ := ba2 h
    cases of_decide_eq_true g4
    exact di_ci (E.snd a X Wx _ S tk g1) (base_ok g2) g3
def Ic.ci (e : E) : Ic := ⟨true, cIc_ci e, fun F => dItCi (e.d F), sIc_ci e⟩
@[simp] theorem rdIc_ci (e : E) {F : Fns} : (Ic.ci e).rd F = dItCi (e.d F) := rfl
end DL
set_option maxHeartbeats 8000000
namespace DL
open PySem PySem.Spec PyProof.Rows L2
section
variable {X : Cx} {C : Cn} {Wx : WX}
/-- how a value goes into a slot: as an own list, as a tree -/
def stW (o : Bool) (w : W) (k : W → Prop) : Prop := match o with
  | true => ∃ xs, w = .new xs ∧ k (.own xs)
  | false => ∃ d, toD w = some d ∧ k (.d d)
/-- a new list's place is no slot's own -/
def NewOk (C : Cn) (ds : DSt) (σ : Sl) (w : W) (v : V) : Prop := ∀ xs a, w = .new xs → v = .ref a → C.H₀ a = none ∧ ∀ (j : Nat) ys, ds[j]? = some (some (.own ys)) → σ[j]? ≠ some (some (.ref a))
theorem newOk_of {R R' : Rg} {H H' : Hp} {ds : DSt} {σ : Sl} {h : Hs} {w : W} {v : V} (e : Env C R ds σ H h) (r : RelW C.K H R' H' w v) : NewOk C ds σ w v := fun xs a hw hv => by
  subst hw hv
  obtain ⟨a', vs, ea, n1, _⟩ := r
  cases ea
  refine ⟨e.ex.dom a n1, fun j ys hj hs => ?_⟩
  obtain ⟨v0, s0, a0, vs0, ev0, q0, _⟩ := e.slot j _ hj
  rw [hs] at s0; cases s0; cases ev0; rw [n1] at q0; cases q0
def Apart (w w' : W) (v v' : V) : Prop := ∀ xs xs', w = .new xs → w' = .new xs' → v ≠ v'
theorem Env.put {R : Rg} {H H₁ : Hp} {ds : DSt} {σ : Sl} {h : Hs} {w : W} {v : V} {o : Bool} {k : W → Prop} (i : Nat) (e : Env C R ds σ H h) (r : RelW C.K H₁ R H w v) (n : NewOk C ds σ w v) (q : stW o w k) :
    ∃ R' s, k s ∧ Env C R' (ds.set i (some s)) (σ.set i (some v)) H h ∧ Mo C.K R H R' H ∧ (∀ w' v', RelW C.K H₁ R H w' v' → Apart w w' v v' → (∀ zs, w' ≠ .own zs) → RelW C.K H₁ R' H w' v') ∧
      (∀ w' v', NewOk C ds σ w' v' → Apart w w' v v' → NewOk C (ds.set i (some s)) (σ.set i (some v)) w' v') := by
  have keepN : ∀ (s : W), (∀ xs, s = .own xs → ∃ ys, w = .new ys) → ∀ w' v', NewOk C ds σ w' v' → Apart w w' v v' → NewOk C (ds.set i (some s)) (σ.set i (some v)) w' v' := by
    intro s hs w' v' nw ap xs a hw hv
    refine ⟨(nw xs a hw hv).1, fun j ys hj hsj => ?_⟩
    by_cases ji : j = i
    · subst ji
      by_cases hl : j < ds.length
      · rw [List.getElem?_set_self hl] at hj
        rw [List.getElem?_set_self (by rw [← e.len]; exact hl)] at hsj
        cases hj
        cases hsj
        obtain ⟨zs, hz⟩ := hs ys rfl
        exact ap zs xs hz hw hv.symm
      · rw [List.getElem?_eq_none (by simp; omega)] at hj; cases hj
    · rw [List.getElem?_set_ne (Ne.symm ji)] at hj hsj
      exact (nw xs a hw hv).2 j ys hj hsj
  cases o with
  | true =>
    obtain ⟨xs, rfl, q⟩ := q
    obtain ⟨a, vs, rfl, n1, hq, nf, oo, t⟩ := id r
    obtain ⟨h0, hn⟩ := n xs a rfl rfl
    exact ⟨R, .own xs, q, e.setO i hq nf oo t h0 hn, Mo.refl _ _ _, fun _ _ z _ _ => z, keepN _ fun _ _ => ⟨xs, rfl⟩⟩
  | false =>
    obtain ⟨d, hd, q⟩ := q
    cases w with
    | own xs => cases hd
    | fn _ => cases hd
    | d y =>
      cases hd
      exact ⟨R, .d _, q, e.set i r, Mo.refl _ _ _, fun _ _ z _ _ => z, keepN _ fun _ z => nomatch z⟩
    | new xs =>
      cases hd
      obtain ⟨a, vs, rfl, n1, hq, nf, oo, t⟩ := id r
      obtain ⟨h0, hn⟩ := n xs a rfl rfl
      have e' : Env C (R.frz a) ds σ H h := by
        refine ⟨e.ok.frz hq oo, e.ex.frz h0, e.len, fun j w hj => ?_, e.nnew, e.own, e.own0⟩
        obtain ⟨v2, s2, r2⟩ := e.slot j w hj
        refine ⟨v2, s2, ?_⟩
        cases w with
        | d y => exact relD_mo Mo.frz r2
        | new zs => exact absurd hj (e.nnew j zs)
        | fn _ => exact r2
        | own zs =>
          obtain ⟨b, ws, ev2, q2, nf2, o2, t2⟩ := r2
          refine ⟨b, ws, ev2, q2, fun z => ?_, o2, relDs_mo Mo.frz t2⟩
          rcases z with z | z
          · exact nf2 z
          · subst z; rw [ev2] at s2; exact hn j zs hj s2
      have rd : RelD C.K (R.frz a) H (.lst xs) (.ref a) := by
        unfold RelD
        exact ⟨a, vs, rfl, ⟨.inr rfl, hq⟩, relDs_mo Mo.frz t⟩
      refine ⟨R.frz a, .d (.lst xs), q, e'.set i rd, Mo.frz, fun w' v' z ap no => ?_, keepN _ fun _ z => nomatch z⟩
      cases w' with
      | d y => exact relD_mo Mo.frz z
      | new zs =>
        obtain ⟨b, ws, ev2, m1, q2, nf2, o2, t2⟩ := z
        refine ⟨b, ws, ev2, m1, q2, fun y => ?_, o2, relDs_mo Mo.frz t2⟩
        rcases y with y | y
        · exact nf2 y
        · subst y; exact ap xs zs rfl rfl ev2.symm
      | own zs => exact absurd rfl (no zs)
      | fn _ => exact z
theorem stW_own {o : Bool} {w : W} {k : W → Prop} (q : stW o w k) : ∀ zs, w ≠ .own zs := fun zs z => by
  subst z
  cases o with
  | true => obtain ⟨_, h, _⟩ := q; cases h
  | false => obtain ⟨_, h, _⟩ := q; cases h
def dPar2 (o1 : Bool) (i : Nat) (t1 : TDE) (o2 : Bool) (j : Nat) (t2 : TDE) : TDS := fun ds h P => t1 ds h (fun w1 h1 => t2 ds h1 (fun w2 h2 => stW o1 w1 fun s1 => stW o2 w2 fun s2 => P.nx ((ds.set i (some s1)).set j (some s2)) h2) (fun x h' => P.ex x ds h')) (fun x h' => P.ex x ds h')
def dPar3 (o1 : Bool) (i : Nat) (t1 : TDE) (o2 : Bool) (j : Nat) (t2 : TDE) (o3 : Bool) (l : Nat) (t3 : TDE) : TDS := fun ds h P => t1 ds h (fun w1 h1 => t2 ds h1 (fun w2 h2 => t3 ds h2 (fun w3 h3 => stW o1 w1 fun s1 => stW o2 w2 fun s2 => stW o3 w3 fun s3 =>
  P.nx (((ds.set i (some s1)).set j (some s2)).set l (some s3)) h3) (fun x h' => P.ex x ds h')) (fun x h' => P.ex x ds h')) (fun x h' => P.ex x ds h')
theorem apart_of {R R' : Rg} {H0 H1 H2 : Hp} {w w' : W} {v v' : V} (r : RelW C.K H0 R H1 w v) (r' : RelW C.K H1 R' H2 w' v') : Apart w w' v v' := fun xs xs' hw hw' hv => by
  subst hw hw' hv
  obtain ⟨a, vs, ea, _, q, _⟩ := r
  obtain ⟨a', vs', ea', n1, _⟩ := r'
  rw [ea] at ea'
  cases ea'
  rw [q] at n1
  cases n1
theorem ds_par2 {o1 o2 : Bool} {i j : Nat} {x y : Str} {a b : Expr} {t1 t2 : TDE} {px py pt pos : Pos} {kt k2 pt2} (hc : X.calm = true) (hN : X.N.Nodup) (hi : X.N[i]? = some x) (hj : X.N[j]? = some y) (hij : i ≠ j)
    (hx : X.env.scope.names.lookup x = some .local) (hy : X.env.scope.names.lookup y = some .local) (ha : PE X a (lift C Wx t1)) (hb : PE X b (lift C Wx t2)) (sa : noStar a = true) (sb : noStar b = true)
    (hw : swappedStores [.Tuple [.Name x px, .Name y py] kt pt] (.Tuple [a, b] k2 pt2) X.env = pure (some [x, y])) :
    PS X (.Assign [.Tuple [.Name x px, .Name y py] kt pt] (.Tuple [a, b] k2 pt2) pos) (liftS C Wx (dPar2 o1 i t1 o2 j t2)) :=
  (ps_par hc hN hi hj hij hx hy (pa_cons ha (pa_cons hb pa_nil (star_ok sb)) (star_ok sa)) hw).imD fun D σ H q => by
    obtain ⟨R, ds, h, P, e, p, k⟩ := q
    refine ⟨R, ds, h, _, _, e, p, fun R1 H1 h1 w1 v1 p1 x1 e1 r1 => ?_, k.exE e⟩
    refine ⟨R1, ds, h1, _, _, e1, p1, fun R2 H2 h2 w2 v2 p2 x2 e2 r2 => ?_, (k.later (x1.mo e.ok)).exE e1⟩
    have n1 := newOk_of e r1
    have r2' := relW_start x1.dom r2
    have n2 := newOk_of e1 r2
    have ap := apart_of r1 r2
    obtain ⟨R3, s1, p3, e3, m3, kr, kn⟩ := e2.put i (relW_ex e1.ok x2 r1) n1 p2
    obtain ⟨R4, s2, p4, e4, m4, _⟩ := e3.put j (kr _ _ r2' ap (stW_own p3)) (kn _ _ n2 ap) p3
    exact ⟨v1, v2, rfl, k.nx R4 _ _ H2 h2 e4 (((x1.trans x2).mo e.ok).trans (m3.trans m4)) p4⟩
theorem ds_par3 {o1 o2 o3 : Bool} {i j l : Nat} {x y z : Str} {a b c : Expr} {t1 t2 t3 : TDE} {px py pz pt pos : Pos} {kt k2 pt2} (hc : X.calm = true) (hN : X.N.Nodup) (hi : X.N[i]? = some x) (hj : X.N[j]? = some y) (hl : X.N[l]? = some z) (hij : i ≠ j) (hil : i ≠ l) (hjl : j ≠ l)
    (hx : X.env.scope.names.lookup x = some .local) (hy : X.env.scope.names.lookup y = some .local) (hz : X.env.scope.names.lookup z = some .local) (ha : PE X a (lift C Wx t1)) (hb : PE X b (lift C Wx t2)) (hcc : PE X c (lift C Wx t3)) (sa : noStar a = true) (sb : noStar b = true) (sc : noStar c = true)
    (hw : swappedStores [.Tuple [.Name x px, .Name y py, .Name z pz] kt pt] (.Tuple [a, b, c] k2 pt2) X.env = pure (some [x, y, z])) :
    PS X (.Assign [.Tuple [.Name x px, .Name y py, .Name z pz] kt pt] (.Tuple [a, b, c] k2 pt2) pos) (liftS C Wx (dPar3 o1 i t1 o2 j t2 o3 l t3)) :=
  (ps_par3 hc hN hi hj hl hij hil hjl hx hy hz (pa_cons ha (pa_cons hb (pa_cons hcc pa_nil (star_ok sc)) (star_ok sb)) (star_ok sa)) hw).imD fun D σ H q => by
    obtain ⟨R, ds, h, P, e, p, k⟩ := q
    refine ⟨R, ds, h, _, _, e, p, fun R1 H1 h1 w1 v1 p1 x1 e1 r1 => ?_, k.exE e⟩
    refine ⟨R1, ds, h1, _, _, e1, p1, fun R2 H2 h2 w2 v2 p2 x2 e2 r2 => ?_, (k.later (x1.mo e.ok)).exE e1⟩
    refine ⟨R2, ds, h2, _, _, e2, p2, fun R3 H3 h3 w3 v3 p3 x3 e3 r3 => ?_, (k.later ((x1.trans x2).mo e.ok)).exE e2⟩
    have x12 := x1.trans x2
    have r1' := relW_ex e1.ok (x2.trans x3) r1
    have r2' := relW_ex e2.ok x3 (relW_start x1.dom r2)
    have r3' := relW_start x12.dom r3
    have a12 := apart_of r1 r2
    have a13 := apart_of (relW_ex e1.ok x2 r1) r3
    have a23 := apart_of r2 r3
    obtain ⟨R4, s1, p4, e4, m4, kr4, kn4⟩ := e3.put i r1' (newOk_of e r1) p3
    obtain ⟨R5, s2, p5, e5, m5, kr5, kn5⟩ := e4.put j (kr4 _ _ r2' a12 (stW_own p4)) (kn4 _ _ (newOk_of e1 r2) a12) p4
    obtain ⟨R6, s3, p6, e6, m6, _⟩ := e5.put l (kr5 _ _ (kr4 _ _ r3' a13 (stW_own p5)) a23 (stW_own p5)) (kn5 _ _ (kn4 _ _ (newOk_of e2 r3) a13) a23) p5
    exact ⟨v1, v2, v3, rfl, k.nx R6 _ _ H3 h3 e6 (((x12.trans x3).mo e.ok).trans ((m4.trans m5).trans m6)) p6⟩
end
end DL
set_option maxHeartbeats 8000000
namespace DL
open PySem PySem.Spec PyProof.Rows L2
/-- a clause: with a name, without one, or with a name and a suite that raises -/
inductive Hx where
  | nm (c : Value) (i : Nat) (ts : Addr → Value → Option Addr → TS)
  | no (c : Value) (ts : Addr → Value → Option Addr → TS)
  | hot (c : Value) (i : Nat) (ts : Addr → Value → Option Addr → WX → TS)
inductive HxOk (X : Cx) : List ExceptHandler → List Hx → Prop
  | nil : HxOk X [] []
  | nm {x n : Str} {np pos' : Pos} {b₀ : Stmt} {suite : List Stmt} {c : Value} {i : Nat} {ts : Addr → Value → Option Addr → TS} {hs : List ExceptHandler} {l : List Hx} (hi : X.N[i]? = some n) (hln : X.env.kindOf n = some .local) (hc : Names X x c)
      (hsu : ∀ (a : Addr) (oe : Obj) (cls : Value) (d : Option Addr) (pn : List (Addr × Obj)), Zc cls d oe → (∃ vs, oe.data = .fields vs) → PSs (X.suite a ((a, oe) :: pn)) (b₀ :: suite) (ts a cls d)) (r : HxOk X hs l) :
      HxOk X (.ExceptHandler (some (.Name x np)) (some n) (b₀ :: suite) pos' :: hs) (.nm c i ts :: l)
  | no {x : Str} {np pos' : Pos} {b₀ : Stmt} {suite : List Stmt} {c : Value} {ts : Addr → Value → Option Addr → TS} {hs : List ExceptHandler} {l : List Hx} (hc : Names X x c)
      (hsu : ∀ (a : Addr) (oe : Obj) (cls : Value) (d : Option Addr) (pn : List (Addr × Obj)), Zc cls d oe → (∃ vs, oe.data = .fields vs) → PSs (X.suite a ((a, oe) :: pn)) (b₀ :: suite) (ts a cls d)) (r : HxOk X hs l) :
      HxOk X (.ExceptHandler (some (.Name x np)) none (b₀ :: suite) pos' :: hs) (.no c ts :: l)
  | hot {x n : Str} {np pos' : Pos} {b₀ : Stmt} {suite : List Stmt} {c : Value} {i : Nat} {ts : Addr → Value → Option Addr → WX → TS} {hs : List ExceptHandler} {l : List Hx} (hi : X.N[i]? = some n) (hln : X.env.kindOf n = some .local) (hc : Names X x c)
      (hsu : ∀ (a : Addr) (oe : Obj) (cls : Value) (d : Option Addr) (pn : List (Addr × Obj)) (E0 : Value → Shared → Prop) (W : WX), L2N.Zn cls d oe → (∃ vs, oe.data = .fields vs) → L2.Takes ((X.suite a ((a, oe) :: pn)).wish E0) W → L2H.HotC ((X.suite a ((a, oe) :: pn)).wish E0) →
        PSs ((X.suite a ((a, oe) :: pn)).wish E0) (b₀ :: suite) (ts a cls d W)) (r : HxOk X hs l) :
      HxOk X (.ExceptHandler (some (.Name x np)) (some n) (b₀ :: suite) pos' :: hs) (.hot c i ts :: l)
section
variable {X : Cx} {body : List Stmt} {pos : Pos} {tb : WX → TS} {Wout : WX}
end
end DL
set_option maxHeartbeats 8000000
namespace DL
open PySem PySem.Spec PyProof.Rows L2
/-- the exceptions of the module: how many classes, their fields' names, which is under which -/
structure Xm where
  n : Nat
  names : List Str
  flds : Nat → List Str
  sub : Nat → Nat → Bool
  rs : Nat → Bool
/-- what isinstance asks of an exception's class, beyond XfC -/
def excB (K : Fg) (D : Addr) : Bool := decide (PySem.W.findIn K (.ref D) "__class__" = some (some (.builtin "object.__class__"))) && (decide (PySem.W.specialIn K (.builtin "object.__class__") "__get__" = some (some (.builtin "getset_descriptor.__get__"))) && (decide (PySem.W.takesIn K (.builtin "object.__class__") = some true) && decide (PySem.W.mroIn K D (.type "object") = some true)))
theorem excB_ok {K : Fg} {D : Addr} (f : XfC K D) (h : excB K D = true) : ExcC K D := by
  obtain ⟨h1, h⟩ := Bool.and_eq_true_iff.mp h
  obtain ⟨h2, h⟩ := Bool.and_eq_true_iff.mp h
  obtain ⟨h3, h4⟩ := Bool.and_eq_true_iff.mp h
  exact ⟨f.ga, f.gg, f.exC, f.hdC, of_decide_eq_true h1, of_decide_eq_true h2, of_decide_eq_true h3, of_decide_eq_true h4⟩
structure XmOk (M : Xm) (K : Fg) (Cl : Cm) : Prop where
  xf : ∀ c, c < M.n → XfC K (Cl c)
  no : ∀ c c' f, c < M.n → c' < M.n → f ∈ M.flds c' → PySem.W.findIn K (.ref (Cl c)) f = some none
  sb : ∀ c c', c < M.n → c' < M.n → PySem.W.exmOne K (.ref (Cl c)) (.ref (Cl c')) = some (M.sub c c')
  inj : ∀ c c', c < M.n → c' < M.n → Cl c = Cl c' → c = c'
  cold : ∀ c, c < M.n → DL.cold K (.ref (Cl c)) = !hotN.contains (M.names.getD c "")
  isx : ∀ c, c < M.n → ExcC K (Cl c)
/-- classes that are raised in except suites -/
def Xm.hot (M : Xm) (c : Nat) : Bool := hotN.contains (M.names.getD c "")
/-- the reading of C(e, ..): a new dict with the fields -/
def tMkX (C : Addr) (fs : List Str) (ta : TA) : Sl → Hp → XK → Prop := fun σ H Q => ta σ H fun vs H1 => vs.length = fs.length ∧ ∀ d, H1 d = none → Q (.ref C) (some d) (upd H1 d (.xd (fs.zip vs).reverse))
/-- C(e, ..) makes such an exception -/
def MkX (X : Cx) (x : Str) (C : Addr) (fs : List Str) : Prop := ∀ (e : Expr) (es : List Expr) (ta : TA) (p pos : Pos), PA X (e :: es) ta → starEach (e :: es) X.env = (false, eval e X.env) :: starEach es X.env → (backTo pos (starEach es X.env)).any (·.1) = false →
  PMk X (.Call (.Name x p) (e :: es) [] pos) (tMkX C fs ta)
section
variable {X : Cx} {C : Cn} {Wx : WX}
theorem relF_append {K : Fg} {R : Rg} {H : Hp} : ∀ {a b : List (Str × D)} {va vb : List (Str × V)}, RelF K R H a va → RelF K R H b vb → RelF K R H (a ++ b) (va ++ vb)
  | [], b, va, vb, r, s => by cases (show va = [] from r); exact s
  | (x, d) :: a, b, va, vb, r, s => by
    obtain ⟨v, q, rfl, r1, r2⟩ := r
    exact ⟨v, q ++ vb, rfl, r1, relF_append r2 s⟩
theorem relF_zip {K : Fg} {R : Rg} {H : Hp} : ∀ {fs : List Str} {xs : List D} {vs : List V}, RelDs K R H xs vs → RelF K R H (fs.zip xs).reverse (fs.zip vs).reverse
  | [], xs, vs, r => by simp; rfl
  | f :: fs, [], vs, r => by cases r_nil r; simp; rfl
  | f :: fs, x :: xs, vs, r => by
    obtain ⟨v, q, rfl, r1, r2⟩ := r_cons r
    rw [List.zip_cons_cons, List.zip_cons_cons, List.reverse_cons, List.reverse_cons]
    exact relF_append (relF_zip r2) ⟨v, [], rfl, r1, rfl⟩
def dRaise (c : Nat) (fs : List Str) (t : TDA) : TDS := fun ds h P => t ds h (fun xs h1 => xs.length = fs.length ∧ P.ex ⟨c, (fs.zip xs).reverse⟩ ds h1) (fun x h' => P.ex x ds h')
theorem ds_raise {x : Str} {c : Nat} {fs : List Str} {e : Expr} {es : List Expr} {t : TDA} {p cp pos : Pos} (hc : X.calm = true) (tk : Takes X Wx) (mk : MkX X x (C.Cl c) fs) (ha : PA X (e :: es) (liftA C Wx t))
    (hs : starEach (e :: es) X.env = (false, eval e X.env) :: starEach es X.env) (hp : (backTo cp (starEach es X.env)).any (·.1) = false) : PS X (.Raise (some (.Call (.Name x p) (e :: es) [] cp)) none pos) (liftS C Wx (dRaise c fs t)) :=
  (ps_raiseC (.ref (C.Cl c)) hc tk (mk e es _ p cp ha hs hp)).imD fun D σ H q => by
    obtain ⟨R, ds, h, P, e, p, k⟩ := q
    refine ⟨R, ds, h, _, _, e, p, fun R1 H1 h1 xs vs ⟨hl, p1⟩ x1 e1 r1 => ⟨by rw [← relDs_len r1]; exact hl, fun d nd => ?_⟩, k.exE e⟩
    refine ⟨rfl, ?_⟩
    refine k.ex R1 ds σ _ h1 _ _ _ (e1.fresh nd) ((x1.trans (Ex.fresh nd)).mo e.ok) ⟨rfl, d, _, rfl, upd_same, ?_⟩ p1
    exact relF_ex e1.ok (Ex.fresh nd) (relF_zip r1)
/-- what a suite's tuple is made of -/
inductive XI where
  | s (x : Str) | f (x : Str)
def XI.val (fs : List (Str × D)) : XI → Option D
  | .s x => some (.str x)
  | .f x => fs.lookup x
/-- the text's items, n the exception's name -/
def XI.chk (n : Str) (fl : List Str) : XI → Expr → Bool
  | .s x, .Constant (.str y) _ _ => decide (x = y)
  | .f x, .Attribute (.Name m _) y _ => decide (m = n) && decide (x = y) && decide (x ∈ fl)
  | _, _ => false
/-- a suite: return the tuple, or keep it in a slot -/
inductive Sk where
  | ret | set (j : Nat)
def Sk.go (k : Sk) (i : Nat) (xs : List D) (ds : DSt) (h : Hs) (P : DEnds) : Prop := match k with
  | .ret => P.rt (.tup xs) h
  | .set j => P.nx (((ds.set i none).set j (some (.d (.tup xs)))).set i none) h
theorem Env.drop {R : Rg} {ds : DSt} {σ : Sl} {H : Hp} {h : Hs} (e : Env C R ds σ H h) (i : Nat) (v : Option V) : Env C R (ds.set i none) (σ.set i v) H h := by
  have hs : ∀ (j : Nat) w, (ds.set i none)[j]? = some (some w) → j ≠ i ∧ ds[j]? = some (some w) := fun j w q => by
    by_cases hj : j = i
    · subst hj
      by_cases hl : j < ds.length
      · rw [List.getElem?_set_self hl] at q; cases q
      · rw [List.getElem?_eq_none (by simp; omega)] at q; cases q
    · rw [List.getElem?_set_ne (Ne.symm hj)] at q; exact ⟨hj, q⟩
  refine ⟨e.ok, e.ex, by simp [e.len], fun j w q => ?_, fun j xs q => e.nnew j xs (hs j _ q).2, fun j k xs ys a q1 s1 q2 s2 => ?_, fun j xs a q s => ?_⟩
  · obtain ⟨hj, q⟩ := hs j w q
    rw [List.getElem?_set_ne (Ne.symm hj)]; exact e.slot j w q
  · obtain ⟨hj, q1⟩ := hs j _ q1
    obtain ⟨hk, q2⟩ := hs k _ q2
    rw [List.getElem?_set_ne (Ne.symm hj)] at s1
    rw [List.getElem?_set_ne (Ne.symm hk)] at s2
    exact e.own j k xs ys a q1 s1 q2 s2
  · obtain ⟨hj, q⟩ := hs j _ q
    rw [List.getElem?_set_ne (Ne.symm hj)] at s
    exact e.own0 j xs a q s
open Classical in
end
end DL
set_option maxHeartbeats 8000000
namespace DL
open PySem PySem.Spec PyProof.Rows L2
section
variable {X : Cx} {C : Cn} {Wx : WX} {M : Xm}
end
end DL
set_option maxHeartbeats 8000000
namespace DL
open PySem PySem.Spec PySem.W PySem.Calls PyProof.Rows L2
/-- the text of such an __init__ -/
def argB : List Str → List Expr → Bool
  | [], [] => true
  | p :: ps, .Name q _ :: es => decide (p = q) && argB ps es
  | _, _ => false
def stoB (sl : Str) : List (Str × Str) → List Stmt → Bool
  | [], [] => true
  | (f, p) :: r, .Assign [.Attribute (.Name s _) g _] (.Name q _) _ :: ss => decide (s = sl) && decide (f = g) && decide (p = q) && stoB sl r ss
  | _, _ => false
def iniB (sl : Str) (ps fs : List Str) : List Stmt → Bool
  | .Expr (.Call (.Attribute (.Call (.Name s _) [] [] _) i ap) args [] cp) _ :: ss => decide (s = "super") && decide (i = "__init__") && (ap.endLine == cp.line) && decide (args.length < 29) && argB ps args && stoB sl (fs.zip ps) ss
  | _ => false
structure XiC (prog : Program) (K : Fg) (mg : Str → Option Value) (C fI : Addr) (fs : List Str) : Prop where
  T : OexC K C
  iC : findIn K (.ref C) "__init__" = some (some (.ref fI))
  tI : typeIn K (.ref fI) = some (.type "function")
  fn : ∃ (name qual : Str) (params : Arguments) (body : List Stmt) (scope : Scope) (dV kV doc pm ct oc : Value) (an od : Option Addr) (osl : Array (Option Value)) (cda cc : Addr) (sl : Str) (ps : List Str) (ar : Arg),
    K.lookup fI = some ⟨oc, od, .func (ksFn name qual params body scope dV kV doc pm an (.ref cda) ct cc), osl⟩ ∧ codeIn K (.ref cda) qual = true ∧
    (∃ ccl cdd vs ccs file tf, K.lookup cda = some ⟨ccl, cdd, .fields vs, ccs⟩ ∧ vs[2]? = some (.str file tf) ∧ ((prog.main.file : Str) == file) = true) ∧
    (∃ cl cld csl, K.lookup cc = some ⟨cl, cld, .cell (some (.ref C)), csl⟩) ∧
    (params.posonlyargs ++ params.args).head? = some ar ∧ ar.arg = sl ∧ ps.length = fs.length ∧ ps ≠ [] ∧ fs.Nodup ∧
    (∀ us : List Value, us.length = ps.length + 1 → bindArgs (ksFn name qual params body scope dV kV doc pm an (.ref cda) ct cc) ⟨us, []⟩ = pure ((sl :: ps).zip us)) ∧
    iniB sl ps fs body = true ∧ (sl :: ps).Nodup ∧ (∀ x ∈ sl :: ps, scope.names.lookup x = some .local) ∧ (∀ x ∈ sl :: ps, okN x = true) ∧ (∀ x ∈ scope.names, x.2 ≠ .cell) ∧ scope.isCoroutine = false ∧ scope.isGenerator = false ∧ scope.kind = .function ∧
    scope.names.lookup ("super" : Str) = some .globalImplicit ∧ scope.names.lookup ("__class__" : Str) = some .free
  sup : mg "super" = none
  top : (prog.main.scope.names.lookup ("super" : Str)).isSome = false
  opq : nsIn K cStatics "thirdparty.any" = some none
  alg : ks_superIn K C C "__init__" = some (some (.builtin "ValueError.__init__"))
  sub : subIn K (.ref C) (.type "ValueError") = some true
  fld : ∀ f ∈ fs, findIn K (.ref C) f = some none
theorem stoB_inv {sl f p : Str} {r : List (Str × Str)} {st : Stmt} {ss : List Stmt} (h : stoB sl ((f, p) :: r) (st :: ss) = true) : ∃ a b c z, st = .Assign [.Attribute (.Name sl a) f b] (.Name p c) z ∧ stoB sl r ss = true := by
  cases st <;> first | (simp [stoB] at h; done) | skip
  rename_i tgs v z
  rcases tgs with _ | ⟨t, _ | ⟨t2, tgs⟩⟩ <;> first | (simp [stoB] at h; done) | skip
  cases t <;> first | (simp [stoB] at h; done) | skip
  rename_i o y b
  cases o <;> first | (simp [stoB] at h; done) | skip
  cases v <;> first | (simp [stoB] at h; done) | skip
  simp only [stoB, Bool.and_eq_true, decide_eq_true_eq] at h
  obtain ⟨⟨⟨rfl, rfl⟩, rfl⟩, hb⟩ := h
  exact ⟨_, _, _, _, rfl, hb⟩
section
variable {prog : Program} {w : World} {A : Around} {E : Value → Shared → Prop} {K : Fg} {g : Array GenState} {d : Drawn} {os : OsState}
theorem boot_super : bootBuiltins "super" = some (.type "super") := by kernel_rfl
/-- a parameter is read -/
theorem rd {M : Model} {env : PySem.Env} {h : Heap} {t : Nat} {m : Str → Option Value} {x : Str} {pos : Pos} {v : Value} {Q : Value → Shared → Prop} (hk : env.scope.kind = .function) (hl : env.kindOf x = some .local) (hn : h.Ns env.locals m) (hv : m x = some v) (hx : okN x = true) (q : Q v ⟨h, g, d, t, os⟩) :
    wpAny M A (eval (.Name x pos) env) Q E ⟨h, g, d, t, os⟩ := wpAny_Name (wpAny_loadName_local hk hl hn hv q) (okN_ok hx).1
theorem args_go {M : Model} {env : PySem.Env} {h : Heap} {t : Nat} {m : Str → Option Value} {cp : Pos} (hk : env.scope.kind = .function) (hn : h.Ns env.locals m) : ∀ (ps : List Str) (us : List Value) (es : List Expr) (Q : List Value → Shared → Prop), argB ps es = true → us.length = ps.length →
    (∀ (i : Nat) (x : Str) (u : Value), ps[i]? = some x → us[i]? = some u → m x = some u ∧ env.kindOf x = some .local ∧ okN x = true) → Q us ⟨h, g, d, t, os⟩ → wpAny M A (spliced (backTo cp (starEach es env))) Q E ⟨h, g, d, t, os⟩
  | [], us, [], Q, _, hl, _, q => by
    cases us with
    | nil => exact spliced_nil q
    | cons _ _ => simp at hl
  | [], _, _ :: _, _, hb, _, _, _ => by simp [argB] at hb
  | p :: ps, us, [], _, hb, _, _, _ => by simp [argB] at hb
  | p :: ps, us, e :: es, Q, hb, hl, hv, q => by
    cases e <;> first | (simp [argB] at hb; done) | skip
    rename_i x px
    obtain ⟨h1, h2⟩ := ba2 (show (decide (p = x) && argB ps es) = true from hb)
    cases of_decide_eq_true h1
    cases us with
    | nil => simp at hl
    | cons u us =>
      show wpAny M A (spliced ((false, eval (.Name _ px) env) :: backTo cp (starEach es env))) Q E _
      obtain ⟨a, b, c⟩ := hv 0 _ u rfl rfl
      exact spliced_cons (rd hk b hn a c (args_go hk hn ps us es (fun vs s => Q (u :: vs) s) h2 (by simpa using hl) (fun i y v hy hu => hv (i + 1) y v (by simpa using hy) (by simpa using hu)) q))
/-- further fields -/
theorem sto_old {env : PySem.Env} {C e dx L : Addr} {sl : Str} {m : Str → Option Value} (T : OexC K C) (hk : env.scope.kind = .function) (hL : env.locals = L) (hsl : m sl = some (.ref e)) (hks : env.kindOf sl = some .local) (hos : okN sl = true) :
    ∀ (r : List (Str × Str)) (us : List Value) (ss : List Stmt) (h : Heap) (t : Nat) (t1 : Addr) (nl : List Str) (m0 : Str → Option Value) (Q : Flow → Shared → Prop), stoB sl r ss = true → us.length = r.length → K.In h → h.Ns L m → L ≠ dx → K.lookup dx = none →
    h.get? e = some { cls := .ref C, dict := some dx, data := .fields #[.ref t1, .none, .none, .none, .bool false, .none] } → h.Ns1 dx m0 → Within m0 nl → nl.length + r.length ≤ 1000 → e ≠ dx →
    (∀ (i : Nat) (p : Str × Str) (u : Value), r[i]? = some p → us[i]? = some u → m p.2 = some u ∧ env.kindOf p.2 = some .local ∧ okN p.2 = true ∧ findIn K (.ref C) p.1 = some none) →
    (∀ h' t', (∀ b o, b ≠ dx → h.get? b = some o → h'.get? b = some o) → h'.Ns1 dx (fun y => match ((r.map (·.1)).zip us).reverse.lookup y with | some v => some v | none => m0 y) → Q .next ⟨h', g, d, t', os⟩) →
    wpAny (model prog w) A (execs ss env) Q E ⟨h, g, d, t, os⟩
  | [], us, [], h, t, t1, nl, m0, Q, _, hl, _, _, _, _, _, hn, _, _, _, _, q => wpAny_execs_nil (q h t (fun _ _ _ z => z) (by
      cases us with
      | nil => exact hn
      | cons _ _ => simp at hl))
  | [], _, _ :: _, _, _, _, _, _, _, hb, _, _, _, _, _, _, _, _, _, _, _, _ => by simp [stoB] at hb
  | (f, p) :: r, us, [], _, _, _, _, _, _, hb, _, _, _, _, _, _, _, _, _, _, _, _ => by simp [stoB] at hb
  | (f, p) :: r, us, st :: ss, h, t, t1, nl, m0, Q, hb, hl, kin, hns, hLd, hKd, he, hn, hw, hz, hed, hv, q => by
    cases us with
    | nil => simp at hl
    | cons u us =>
    obtain ⟨_, _, _, _, rfl, hb2⟩ := stoB_inv hb
    obtain ⟨a1, a2, a3, a4⟩ := hv 0 _ u rfl rfl
    obtain ⟨nm, qn, N, bs, bm, sn, sub, ab, col, dd, k0, k1, k2, k3, k5, hC, hbm⟩ := T.cls
    have hcl : clsIn K C = some { name := nm, bases := bs, mro := .ref C :: bm, ns := N, qualname := qn, hasDict := true, slotNames := sn, subclasses := sub, abstract := ab, collection := col, hasDel := false } := by unfold clsIn; rw [hC] <;> rfl
    obtain ⟨oD, _, _, hoD, _, _⟩ := hn.count hw
    subst hL
    refine wpAny_execs_cons (plainObj_wpAny_Assign_Attribute (rd hk a2 hns a1 a3 (rd hk hks hns hsl hos ?_)))
    refine set_plain kin (ox := { cls := .ref C, dict := some dx, data := .fields #[.ref t1, .none, .none, .none, .bool false, .none] }) (od := some oD) ⟨he, rfl, rfl, hoD⟩ T.sa ?_
    refine PySem.OEX.osa_old kin he hn hw (by simp at hz; omega) hcl (show PySem.HandSPX.refsVE (.ref C :: bm) = true from hbm) rfl a4 (fun h' tk' k hn' => ?_)
    refine sto_old T hk rfl hsl hks hos r us ss h' tk' t1 (f :: nl) _ Q hb2 (by simpa using hl) (fun b o z => k b o (fun y => by rw [y, hKd] at z; cases z) (kin b o z)) ?_ hLd hKd (k e _ hed he) hn' (Within.cons f u hw) (by simp at hz ⊢; omega) hed (fun i y v hy hu => hv (i + 1) y v (by simpa using hy) (by simpa using hu)) fun h2 t2 k2 n2 => ?_
    · obtain ⟨o, es, ep, ho, hr⟩ := hns
      exact ⟨o, es, ep, k _ _ hLd ho, hr⟩
    · refine q h2 t2 (fun b o hb z => k2 b o hb (k b o hb z)) ?_
      have : (fun y => match ((((f, p) :: r).map (·.1)).zip (u :: us)).reverse.lookup y with | some v => some v | none => m0 y) = (fun y => match ((r.map (·.1)).zip us).reverse.lookup y with | some v => some v | none => if y = f then some u else m0 y) := by
        funext y
        rw [List.map_cons, List.zip_cons_cons, List.reverse_cons, List.lookup_append]
        cases ((r.map (·.1)).zip us).reverse.lookup y with
        | some v => rfl
        | none =>
          by_cases hy : y = f
          · subst hy; simp [List.lookup]
          · have e : (y == f) = false := by simpa using hy
            simp [List.lookup, e, hy]
      rw [this]
      exact n2
theorem argB_plain {env : PySem.Env} {cp : Pos} : ∀ {ps : List Str} {es : List Expr}, argB ps es = true → (backTo cp (starEach es env)).all (fun x => !x.1) = true
  | [], [], _ => rfl
  | [], _ :: _, h => by simp [argB] at h
  | p :: ps, [], h => by simp [argB] at h
  | p :: ps, e :: es, h => by
    cases e <;> first | (simp [argB] at h; done) | skip
    rename_i x px
    obtain ⟨_, h2⟩ := ba2 (show (decide (p = x) && argB ps es) = true from h)
    show ((!false) && (backTo cp (starEach es env)).all (fun x => !x.1)) = true
    rw [argB_plain h2]; rfl
theorem eval_mc {o : Expr} {nm : Str} {ap cp : Pos} {args : List Expr} {env : PySem.Env} (hf : methodCallForm (args.length + ([] : List Keyword).length) (backTo cp (starEach args env)) (backToKw cp (keywordEach [] env)) = true) (hl : (ap.endLine == cp.line) = true) :
    eval (.Call (.Attribute o nm ap) args [] cp) env = (do
      let ov ← attributeBase o nm env (eval o env)
      standAt ap.atName
      let (f, first) ← holding [ov] (getMethod ov nm (do return (← importBound o env).getD true))
      callWith cp f first (backTo cp (starEach args env)) []) := by
  have hpos : methodCallPos true o env ap cp = pure cp := by unfold methodCallPos; simp [hl]
  show (attributeBase o nm env (eval o env) >>= fun ov => standAt ap.atName >>= fun _ => methodCall o nm ap cp env ov (args.length + ([] : List Keyword).length) (backTo cp (starEach args env)) (backToKw cp (keywordEach [] env))) = _
  unfold methodCall
  rw [hf]
  simp only [hpos, pure_bind]
  rfl
theorem iniB_inv {sl : Str} {ps fs : List Str} {body : List Stmt} (h : iniB sl ps fs body = true) : ∃ p0 p1 p2 cp p3 args ss, body = .Expr (.Call (.Attribute (.Call (.Name "super" p0) [] [] p1) "__init__" p2) args [] cp) p3 :: ss ∧ (p2.endLine == cp.line) = true ∧ args.length < 29 ∧ argB ps args = true ∧ stoB sl (fs.zip ps) ss = true := by
  unfold iniB at h
  split at h
  · simp only [Bool.and_eq_true, decide_eq_true_eq] at h
    obtain ⟨⟨⟨⟨⟨rfl, rfl⟩, ha⟩, hb⟩, h1⟩, h2⟩ := h
    exact ⟨_, _, _, _, _, _, _, rfl, ha, hb, h1, h2⟩
  · cases h
/-- super().__init__(..) as it is called -/
theorem sup_call {C e u : Addr} {h : Heap} {t : Nat} {t0 : Addr} {us : List Value} {Q : Value → Shared → Prop} (T : OexC K C) (kin : K.In h) (he : h.get? e = some (PySem.HandSPX.excO C t0)) (hu : h.get? u = some (kxs_mw "ValueError.__init__" e)) (hz : us.length ≤ sizeLine)
    (q : ∀ h' t1, (∀ b o, b ≠ e → h.get? b = some o → h'.get? b = some o) → h'.get? e = some (PySem.HandSPX.excO C t1) → Q .none ⟨h', g, d, t, os⟩) : wpAny (model prog w) A (call (.ref u) us) Q E ⟨h, g, d, t, os⟩ := by
  obtain ⟨nm, qn, N, bs, bm, sn, sub, ab, col, dd, k0, k1, k2, k3, k5, hC, hbm⟩ := T.cls
  refine wpAny_call (codeAny_of_tree ?_)
  show wpAny _ A.in1 (callAny (.ref u) ⟨us, []⟩) _ _ _
  simp only [callAny]
  refine wpAny_bind (wpAny_load hu ?_)
  refine KFB.if_so (by rfl) ?_
  refine wpAny_bind (check_bound_init F.excBase_ValueError.toExcCallFacts (kin _ _ hC) he rfl ?_)
  refine wpAny_bind (wpAny_pure (wpAny_pure ?_))
  refine ⟨plainId_quiet F.excBase_ValueError.init.plain _, codeAny_builtin F.excBase_ValueError.initEntry ?_⟩
  exact exc_init_tree (cls := .ref C) (t0 := t0) (dv := none) (c2 := .none) (c3 := .none) (b4 := .bool false) he hz fun h' k e' _ => q h' _ k e'
theorem ns_keep {h h' : Heap} {L : Addr} {m : Str → Option Value} (hn : h.Ns L m) (k : ∀ o, h.get? L = some o → h'.get? L = some o) : h'.Ns L m := by
  obtain ⟨o, es, ep, ho, hr⟩ := hn
  exact ⟨o, es, ep, k _ ho, hr⟩
theorem lookup_zip_rev : ∀ {ps : List Str} {us : List Value} {i : Nat} {x : Str} {u : Value}, ps.Nodup → ps[i]? = some x → us[i]? = some u → ((ps.zip us).reverse).lookup x = some u
  | [], _, i, _, _, _, h, _ => by simp at h
  | p :: ps, [], i, _, _, _, _, h => by simp at h
  | p :: ps, v :: us, i, x, u, hn, hx, hu => by
    rw [List.zip_cons_cons, List.reverse_cons, List.lookup_append]
    rw [List.nodup_cons] at hn
    cases i with
    | zero =>
      cases hx
      cases hu
      have : ((ps.zip us).reverse).lookup p = none := by
        rw [List.lookup_eq_none_iff]
        intro y hy
        have := (List.of_mem_zip (show (y.1, y.2) ∈ ps.zip us from by simpa using hy)).1
        simp only [bne_iff_ne, ne_eq, beq_eq_false_iff_ne]
        intro z
        exact hn.1 (by rw [z]; exact this)
      rw [this]
      simp [List.lookup]
    | succ i =>
      rw [lookup_zip_rev (i := i) hn.2 (by simpa using hx) (by simpa using hu)]
      rfl
/-- the whole __init__ -/
theorem xi_run {mg : Str → Option Value} {base : Heap} {C fI e : Addr} {fs : List Str} {us : List Value} {h2 : Heap} {t : Nat} {t0 : Addr} {R : Result → Shared → Prop} (Z : XiC prog K mg C fI fs) (M : Mod K mg base) (bk : ∀ b o, base.get? b = some o → h2.get? b = some o) (be : base.get? e = none)
    (hroom : A.depth < recursionLimit) (hl : us.length = fs.length) (hz : us.length ≤ 1000) (he : h2.get? e = some (PySem.HandSPX.excO C t0))
    (hR : ∀ h' tk' dx t1, (∀ b o, b ≠ e → h2.get? b = some o → h'.get? b = some o) → h2.objs.size ≤ dx → dx ≠ e → h'.get? e = some { cls := .ref C, dict := some dx, data := .fields #[.ref t1, .none, .none, .none, .bool false, .none] } →
      h'.Ns1 dx (fun y => (fs.zip us).reverse.lookup y) → R (.ok (.ret .none)) ⟨h', g, d, tk', os⟩) :
    codeAny (model prog w) A (.call (.ref fI) ⟨.ref e :: us, []⟩) R ⟨h2, g, d, t, os⟩ := by
  obtain ⟨name, qual, params, body, scope, dV, kV, doc, pm, ct, oc, an, od, osl, cda, cc, sl, ps, ar, lk, hcd, ⟨ccl, cdd, vs, ccs, file, tf, lcd, hvs, hfile⟩, ⟨cl, cld, csl, lcc⟩, har, hsl, hpl, hpn, hfn, hbind, hini, hnd, hloc, hok, hcell, hco, hgen, hk, hks, hkc⟩ := Z.fn
  have kin0 : K.In h2 := M.kin.keeps bk
  have hKe : K.lookup e = none := by
    cases z : K.lookup e with
    | none => rfl
    | some o => have := M.kin _ _ z; rw [be] at this; cases this
  have Ns0 : ∀ {h : Heap} {dx : Addr}, K.In h → h.get? dx = none → K.lookup dx = none := fun {h dx} ki n => by
    cases z : K.lookup dx with
    | none => rfl
    | some o => have := ki _ _ z; rw [n] at this; cases this
  obtain ⟨p0, p1, p2, cp, p3, args, ss, rfl, hline, hfew, hargs, hss⟩ := iniB_inv hini
  refine ks_codeAny_call_defAt (fd := ksFn name qual params _ scope dV kV doc pm an (.ref cda) ct cc) (binds := (sl :: ps).zip (.ref e :: us)) hroom (kin0 _ _ lk) rfl (M.nolimit.keeps bk) (codeRec_of kin0 hcd) rfl
    (BindsTo.of_eq (hbind (.ref e :: us) (by simp [hl, hpl]))) hcell (fun x hx => ?_) (fun h1 hns hk1 => ?_) hco hgen hk
  · exact hloc x.1 (List.of_mem_zip (show (x.1, x.2) ∈ _ from hx)).1
  have bk1 : ∀ b o, base.get? b = some o → h1.get? b = some o := fun b o z => hk1 b o (bk b o z)
  have kin1 : K.In h1 := M.kin.keeps bk1
  have look : ∀ (i : Nat) x u, (sl :: ps)[i]? = some x → (Value.ref e :: us)[i]? = some u → ((sl :: ps).zip (Value.ref e :: us)).reverse.lookup x = some u := fun i x u hx hu => lookup_zip_rev hnd hx hu
  have hee : ∀ env : PySem.Env, env.locals = h2.objs.size → e ≠ env.locals := fun env z y => by
    have := Heap.lt_size he
    rw [y, z] at this
    exact absurd this (Nat.lt_irrefl _)
  obtain ⟨nm, qn, N, bs, bm, sn, sub, ab, col, dd, k0, k1, k2, k3, k5, hC, hbm⟩ := Z.T.cls
  have hcl : clsIn K C = some { name := nm, bases := bs, mro := .ref C :: bm, ns := N, qualname := qn, hasDict := true, slotNames := sn, subclasses := sub, abstract := ab, collection := col, hasDel := false } := by unfold clsIn; rw [hC] <;> rfl
  have hsubC : mroIn K C (.ref C) = some true := by
    unfold mroIn
    rw [hcl, Option.bind_some, if_neg (by simp)]
    simp
  obtain ⟨mb, hb1, hb2⟩ := M.blt
  have eC : e ≠ C := fun z => by rw [z, hC] at hKe; cases hKe
  generalize hEr : (fun (er : Value) (s' : Shared) => wpAny (model prog w) (A.deeper (callEnv _ h2.objs.size fI)) (leaving (callEnv _ h2.objs.size fI) er) (fun _ s'' => R (.error er) s'') (fun e' s'' => R (.error e') s'') s') = Er
  show _root_.PySem.wpAt (model prog w) (A.deeper (ksEnv qual scope h2.objs.size fI (.ref cda) cc)) (.func _ (ksEnv qual scope h2.objs.size fI (.ref cda) cc)) (execs _ (ksEnv qual scope h2.objs.size fI (.ref cda) cc)) _ _ _
  have hform : methodCallForm (args.length + ([] : List Keyword).length) (backTo cp (starEach args (ksEnv qual scope h2.objs.size fI (.ref cda) cc))) (backToKw cp (keywordEach [] (ksEnv qual scope h2.objs.size fI (.ref cda) cc))) = true := by
    unfold methodCallForm
    rw [argB_plain hargs]
    simp [backToKw, keywordEach]
    omega
  refine ks_wpAt_execs_cons (ks_wpAt_Expr_any (hi := by unfold interactive; simp [hk]) (ks_wpAt_MethodCall (he := eval_mc hform hline) ?_))
  refine ks_wpAt_super_base (env := ksEnv qual scope h2.objs.size fI (.ref cda) cc) hks hkc (by decide) rfl (kin1 _ _ lk) rfl har rfl (kin1 _ _ lcd) rfl hvs hfile Z.top ?_
  refine ks_loadName_global hk hks (loadGlobal_builtin (env := ksEnv qual scope h2.objs.size fI (.ref cda) cc) (M.glob.keeps bk1) Z.sup (hb1.keeps bk1) ((hb2 "super" (by decide)).trans boot_super) ⟨rfl, ?_⟩)
  refine wpAny_loadName_free hk hkc rfl ⟨_, kin1 _ _ lcc, rfl⟩ ?_
  rw [hsl]
  refine wpAny_loadName_local hk (hloc sl (by simp)) hns (look 0 sl _ rfl rfl) ?_
  refine ks_wpAny_isType_cls (kin1 _ _ hC) rfl ⟨rfl, ?_⟩
  refine ks_wpAny_call_super (kin1 _ _ hC) rfl (hk1 _ _ he) rfl (fun c z => by cases z) (looks_mroIn kin1 hsubC) (fun h3 e3 q3 => ?_)
  have kin3 : K.In h3 := kin1.keeps q3
  have hm3 : Looks (model prog w) h3 (mroOf (.ref C)) (.ref C :: bm) := (looks_clsIn kin3 hcl).andThen .now
  have hal : alongIn K "__init__" (((Value.ref C :: bm).dropWhile (· != .ref C)).drop 1) = some (some (.builtin "ValueError.__init__")) := by
    have := Z.alg
    unfold ks_superIn at this
    rw [hcl] at this
    exact this
  have I3 : InstAt h3 e (PySem.HandSPX.excO C t0) C none := ⟨q3 _ _ (hk1 _ _ he), rfl, rfl, trivial⟩
  refine kxs_getMethod kxs_ValueError e3 (looks_opaque kin3 Z.opq) hm3 rfl kin3 hal (I3.type.andThen (looks_subIn kin3 Z.sub)) eC (by decide) ?_
  have q4 : ∀ b o, h3.get? b = some o → (h3.push (kxs_mw "ValueError.__init__" e)).get? b = some o := fun b o z => Heap.get?_push_of_some _ z
  have hu4 : (h3.push (kxs_mw "ValueError.__init__" e)).get? h3.objs.size = some (kxs_mw "ValueError.__init__" e) := Heap.get?_push_at rfl rfl
  have k4 : ∀ b o, h2.get? b = some o → (h3.push (kxs_mw "ValueError.__init__" e)).get? b = some o := fun b o z => q4 _ _ (q3 _ _ (hk1 _ _ z))
  have kin4 : K.In (h3.push (kxs_mw "ValueError.__init__" e)) := kin3.keeps q4
  have ns4 : (h3.push (kxs_mw "ValueError.__init__" e)).Ns h2.objs.size (fun x => ((sl :: ps).zip (Value.ref e :: us)).reverse.lookup x) := hns.keeps fun b o z => q4 _ _ (q3 _ _ z)
  have par : ∀ (i : Nat) (x : Str) (u : Value), ps[i]? = some x → us[i]? = some u → ((sl :: ps).zip (Value.ref e :: us)).reverse.lookup x = some u ∧ (ksEnv qual scope h2.objs.size fI (.ref cda) cc).kindOf x = some .local ∧ okN x = true := fun i x u hx hu =>
    ⟨look (i + 1) x u (by simpa using hx) (by simpa using hu), hloc x (List.mem_cons_of_mem _ (List.mem_of_getElem? hx)), hok x (List.mem_cons_of_mem _ (List.mem_of_getElem? hx))⟩
  generalize h3.push (kxs_mw "ValueError.__init__" e) = h4 at q4 hu4 k4 kin4 ns4 ⊢
  have hany : (backTo cp (starEach args (ksEnv qual scope h2.objs.size fI (.ref cda) cc))).any (·.1) = false := by
    have := argB_plain (env := ksEnv qual scope h2.objs.size fI (.ref cda) cc) (cp := cp) hargs
    rw [List.all_eq_not_any_not] at this
    simpa using this
  refine kxs_callWith (i := "ValueError.__init__") (x := e) hany ?_
  have spl : ∀ (Q : List Value → Shared → Prop) (Er : Value → Shared → Prop) (tt : Nat), Q us ⟨h4, g, d, tt, os⟩ → wpAny (model prog w) (A.deeper (ksEnv qual scope h2.objs.size fI (.ref cda) cc)) (spliced (backTo cp (starEach args (ksEnv qual scope h2.objs.size fI (.ref cda) cc)))) Q Er ⟨h4, g, d, tt, os⟩ :=
    fun Q Er tt q => args_go hk ns4 ps us args Q hargs (by rw [hl, hpl]) par q
  cases args with
  | nil =>
    cases ps with
    | nil => exact absurd rfl hpn
    | cons _ _ => simp [argB] at hargs
  | cons a0 ar0 =>
  cases ps with
  | nil => exact absurd rfl hpn
  | cons x0 ps =>
  cases a0 <;> first | (simp [argB] at hargs; done) | skip
  refine evalArgs_plain (spl _ _ _ ⟨hu4, ?_⟩)
  refine sup_call Z.T kin4 (k4 _ _ he) hu4 (Nat.le_trans hz (by decide)) fun h5 t1 k5 e5 => ?_
  refine wpAt_of_wpAny ?_
  have kk5 : ∀ b o, b ≠ e → h2.get? b = some o → h5.get? b = some o := fun b o hb z => k5 b o hb (k4 b o z)
  have kin5 : K.In h5 := fun b o z => k5 b o (fun y => by rw [y, hKe] at z; cases z) (kin4 b o z)
  have eL : e ≠ h2.objs.size := Nat.ne_of_lt (Heap.lt_size he)
  have ns5 : h5.Ns h2.objs.size (fun x => ((sl :: x0 :: ps).zip (Value.ref e :: us)).reverse.lookup x) := ns_keep ns4 fun o z => k5 _ o (Ne.symm eL) z
  cases fs with
  | nil => simp at hpl
  | cons f0 fs =>
  cases us with
  | nil => simp at hl
  | cons u0 us =>
  cases ss with
  | nil => simp [stoB] at hss
  | cons s0 ss =>
  obtain ⟨_, _, _, _, rfl, hss2⟩ := stoB_inv hss
  obtain ⟨a1, a2, a3⟩ := par 0 x0 u0 rfl rfl
  have osl : okN sl = true := hok sl (by simp)
  have ksl : (ksEnv qual scope h2.objs.size fI (.ref cda) cc).kindOf sl = some .local := hloc sl (by simp)
  refine wpAny_execs_cons (plainObj_wpAny_Assign_Attribute (rd hk a2 ns5 a1 a3 (rd hk ksl ns5 (look 0 sl _ rfl rfl) osl ?_)))
  refine set_plain kin5 (ox := PySem.HandSPX.excO C t1) (od := none) ⟨e5, rfl, rfl, trivial⟩ Z.T.sa ?_
  refine PySem.HandSPX.exc_osa kin5 e5 hcl (show PySem.HandSPX.refsVE (.ref C :: bm) = true from hbm) rfl (Z.fld f0 (by simp)) (fun h6 t6 dx k6 dn dne hx6 n6 => ?_)
  have hsz : h2.objs.size ≤ h5.objs.size := by
    have z := ns5
    obtain ⟨o, es, ep, ho, hr⟩ := z
    exact Nat.le_of_lt (Heap.lt_size ho)
  have dxn : h5.get? dx = none := by
    cases z : h5.get? dx with
    | none => rfl
    | some o => exact absurd (Heap.lt_size z) (Nat.not_lt.mpr dn)
  have Ldx : h2.objs.size ≠ dx := fun z => by
    obtain ⟨o, es, ep, ho, hr⟩ := ns5
    rw [z, dxn] at ho; cases ho
  have ns6 : h6.Ns h2.objs.size (fun x => ((sl :: x0 :: ps).zip (Value.ref e :: u0 :: us)).reverse.lookup x) := ns_keep ns5 fun o z => k6 _ o (Ne.symm eL) z
  have kin6 : K.In h6 := fun b o z => k6 b o (fun y => by rw [y, hKe] at z; cases z) (kin5 b o z)
  refine sto_old (m := fun x => ((sl :: x0 :: ps).zip (Value.ref e :: u0 :: us)).reverse.lookup x) (dx := dx) (e := e) Z.T hk rfl (look 0 sl _ rfl rfl) ksl osl (fs.zip ps) us ss h6 t6 t1 [f0] _ _ hss2 ?_ kin6 ns6 Ldx (Ns0 kin5 dxn) hx6 n6 ?_ ?_ (Ne.symm dne) ?_ fun h7 t7 k7 n7 => ?_
  · simp at hl hpl ⊢; omega
  · intro y hy
    by_cases hyf : y = f0
    · simp [hyf]
    · exact absurd (if_neg hyf) hy
  · simp at hz hl hpl ⊢; omega
  · intro i p u hp hu
    have hpp := List.getElem?_zip_eq_some.mp hp
    obtain ⟨b1, b2, b3⟩ := par (i + 1) p.2 u (by simpa using hpp.2) (by simpa using hu)
    exact ⟨b1, b2, b3, Z.fld p.1 (List.mem_cons_of_mem _ (List.mem_of_getElem? hpp.1))⟩
  · refine hR h7 t7 dx t1 (fun b o hb z => k7 b o (fun y => ?_) (k6 b o hb (kk5 b o hb z))) (Nat.le_trans hsz dn) dne (k7 _ _ (Ne.symm dne) hx6) ?_
    · have := kk5 b o hb z
      rw [y, dxn] at this; cases this
    · have : (fun y => (((f0 :: fs).zip (u0 :: us)).reverse.lookup y)) = (fun y => match (((fs.zip ps).map (·.1)).zip us).reverse.lookup y with | some v => some v | none => if y = f0 then some u0 else none) := by
        have em : (fs.zip ps).map (·.1) = fs := by
          rw [List.map_fst_zip]
          simp at hpl; omega
        funext y
        rw [em, List.zip_cons_cons, List.reverse_cons, List.lookup_append]
        cases (fs.zip us).reverse.lookup y with
        | some v => rfl
        | none =>
          by_cases hy : y = f0
          · subst hy; simp [List.lookup]
          · have e : (y == f0) = false := by simpa using hy
            simp [List.lookup, e, hy]
      rw [this]
      exact n7
end
theorem rel_zip : ∀ {fs : List Str} {vs : List V} {us : List Value}, Vals vs us → ∀ f, L2.RelO ((fs.zip vs).reverse.lookup f) ((fs.zip us).reverse.lookup f)
  | [], vs, us, r, f => by simp; trivial
  | g :: fs, [], us, r, f => by cases r; simp; trivial
  | g :: fs, v :: vs, us, r, f => by
    cases r with
    | cons r1 r2 =>
      rw [List.zip_cons_cons, List.zip_cons_cons, List.reverse_cons, List.reverse_cons, List.lookup_append, List.lookup_append]
      have ih := rel_zip (fs := fs) r2 f
      revert ih
      generalize (fs.zip vs).reverse.lookup f = A
      generalize (fs.zip _).reverse.lookup f = B
      intro ih
      cases A with
      | some a =>
        cases B with
        | some b => exact ih
        | none => exact ih.elim
      | none =>
        cases B with
        | some b => exact ih.elim
        | none =>
          by_cases hf : f = g
          · subst hf; simp [List.lookup]; exact r1
          · have e : (f == g) = false := by simpa using hf
            simp [List.lookup, e]; trivial
/-- C(e, ..) makes such an exception -/
theorem mkx_of {X : Cx} {x : Str} {C fI : Addr} {fs : List Str} (Z : XiC X.prog X.K X.mg C fI fs) (hr : L2H.RoomH 1 X.A) (hg : Gl X x) (hm : X.mg x = some (.ref C)) (hdb : (x == ("__debug__" : Str)) = false) (hfl : fs.length ≤ 1000) : MkX X x C fs := by
  intro e es ta p pos ha he hpl pins s σ H Q I h
  obtain ⟨nm, q, N, bs, bm, sn, sub, ab, col, dd, k0, k1, k2, k3, k5, hC, hbm⟩ := Z.T.cls
  refine wpAny_Call_Name_kw (ld_glob I hg hm ?_ hdb)
  refine callWith_K (h₀ := X.base) I.ok.mod.kin Z.T.kC (thn (ha.run pos pins s σ H _ I h) fun us s1 ⟨vs, H1, I1, r1, hvl, q1⟩ => ⟨I1.kIn, ?_⟩) he hpl
  show wpAny _ _ (call (.ref C) us) _ _ _
  obtain ⟨hp, g, dr, tk, os⟩ := s1
  have hul : us.length = fs.length := by rw [← Paired.length r1]; exact hvl
  generalize hA : hp.objs.size + 1 = a
  have hsz : hp.objs.size ≤ a := by rw [← hA]; exact Nat.le_succ _
  have hn : H1 a = none := I1.hok.fresh hsz
  let hp2 := (hp.push (kdv_tup us)).push (PySem.HandSPX.excO C hp.objs.size)
  have kk : ∀ b o, hp.get? b = some o → hp2.get? b = some o := fun b o z => Heap.get?_push_of_some _ (Heap.get?_push_of_some _ z)
  have hget : hp2.get? a = some (PySem.HandSPX.excO C hp.objs.size) := by rw [← hA]; show ((hp.push (kdv_tup us)).push (PySem.HandSPX.excO C hp.objs.size)).get? (hp.objs.size + 1) = _; heap_get
  have I2 : Inv X pins σ (upd H1 a (exo a C none)) ⟨hp2, g, dr, tk, os⟩ := I1.laid (t' := tk) (a := a) (o := exo a C none) (h' := hp2) kk hsz (exo_ok hget)
  have be : X.base.get? a = none := by
    cases z : X.base.get? a with
    | none => rfl
    | some o => exact absurd (Heap.lt_size (I1.bk _ _ z)) (Nat.not_lt.mpr hsz)
  have hroom : (X.A.under (.builtin "type.__call__" ⟨.ref C :: us, []⟩)).depth < recursionLimit := by have := hr.dp; rw [make_depth]; omega
  refine wpAny_call (PySem.HandSPX.call_own F.excBase_ValueError (fun Y => PySem.HandSPX.refsVE_contains Y bm hbm) (I1.kIn _ _ hC) (looks_findIn I1.kIn Z.iC) (fun self => bind_fn I1.kIn self Z.tI) (by rw [hul]; exact Nat.le_trans hfl (by decide)) ?_)
  rw [hA]
  refine xi_run (h2 := hp2) Z I2.ok.mod I2.bk be hroom hul (by omega) hget fun h' tk' dx t1 k dn dne hx hns => ?_
  have dn0 : hp.objs.size ≤ dx := Nat.le_trans (by
    show hp.objs.size ≤ ((hp.push (kdv_tup us)).push (PySem.HandSPX.excO C hp.objs.size)).objs.size
    simp [Heap.push]
    omega) dn
  have hnd : H1 dx = none := I1.hok.fresh dn0
  have nd : ∀ {b : Addr} {o : Obj}, hp2.get? b = some o → b ≠ dx := fun {b o} z => Nat.ne_of_lt (Nat.lt_of_lt_of_le (Heap.lt_size z) dn)
  have na : ∀ {b : Addr}, upd H1 a (exo a C none) b = none → b ≠ a := fun {b} n z => by rw [z, upd_same] at n; cases n
  let F := (fs.zip vs).reverse
  let H2 : Hp := upd (upd (upd H1 a (exo a C none)) dx (exd dx F)) a (exo a C (some dx))
  have h2a : H2 a = some (exo a C (some dx)) := upd_same
  have h2d : H2 dx = some (exd dx F) := by show upd (upd _ _ _) _ _ _ = _; rw [upd_ne dne, upd_same]
  have h2o : ∀ {b : Addr}, b ≠ a → b ≠ dx → H2 b = H1 b := fun {b} n1 n2 => by show upd (upd (upd _ _ _) _ _) _ _ _ = _; rw [upd_ne n1, upd_ne n2, upd_ne n1]
  have un : Un (frs X.stack) [] (upd H1 a (exo a C none)) H2 hp2 h' := {
    keep := fun b o z n _ _ => k b o (na n) z
    slot := fun b o z n _ _ => ⟨o.slots, k b o (na n) z⟩
    free := fun b o z n _ => by rw [h2o (na n) (nd z)]; rw [upd_ne (na n)] at n; exact n
    there := fun b o z _ => by
      by_cases hb : b = a
      · exact ⟨_, by rw [hb]; exact hx⟩
      · exact ⟨o, k b o hb z⟩
    tups := fun b xs z => by
      have hb : b ≠ a := fun y => by rw [y, upd_same] at z; exact exo_tup (Option.some.inj z)
      rw [upd_ne hb] at z
      rw [h2o hb (ne_of_none z hnd)]; exact z
    frzs := fun b o v z => by
      have hb : b ≠ a := fun y => by rw [y, upd_same] at z; exact exo_frz (Option.some.inj z)
      rw [upd_ne hb] at z
      rw [h2o hb (ne_of_none z hnd)]; exact z
    tbls := fun b ps z => by
      have hb : b ≠ a := fun y => by rw [y, upd_same] at z; exact exo_tbl (Option.some.inj z)
      rw [upd_ne hb] at z
      exact ⟨#[], by rw [h2o hb (ne_of_none z hnd), z]; simp⟩ }
  have rel : ∀ f, L2.RelO (F.lookup f) ((fs.zip us).reverse.lookup f) := fun f => rel_zip r1 f
  have hok : HOk X.prog X.w H2 h' := fun b o z => by
    by_cases hb : b = a
    · subst hb
      rw [h2a] at z
      cases z
      exact exo_ok hx
    · by_cases hd : b = dx
      · subst hd
        rw [h2d] at z
        cases z
        exact exd_ok hns rel
      · rw [h2o hb hd] at z
        have z2 : upd H1 a (exo a C none) b = some o := by rw [upd_ne hb]; exact z
        refine (I2.hok b o z2).stay (fun c v hc y => k c v ?_ y) (fun c hc => ?_) (fun c xs hc => ?_)
        · rcases hc with hc | hc
          · rw [hc]; exact hb
          · exact fun y => by rw [y, upd_same] at hc; exact exo_own (Option.some.inj hc)
        · have hca : c ≠ a := fun y => by rw [y, upd_same] at hc; exact exo_own (Option.some.inj hc)
          rw [upd_ne hca] at hc
          rw [h2o hca (ne_of_none hc hnd)]; exact hc
        · have hca : c ≠ a := fun y => by rw [y, upd_same] at hc; exact exo_tup (Option.some.inj hc)
          rw [upd_ne hca] at hc
          rw [h2o hca (ne_of_none hc hnd)]; exact hc
  have eq : upd (del H2 a) dx (.xd F) = upd H1 dx (.xd F) := by
    funext b
    by_cases hd : b = dx
    · rw [hd, upd_same, upd_same]
    · rw [upd_ne hd, upd_ne hd]
      by_cases hb : b = a
      · rw [hb, del_same, hn]
      · rw [del_ne hb, h2o hb hd]
  obtain ⟨t0, G, J, kG, ge, hoe, nad⟩ := mk_end0 (d2 := dr) (t2 := tk') I1 hsz kk un hok rfl I1.bare h2a h2d hnd
  refine ⟨rfl, ⟨a, _, _, ⟨G, g, dr, tk', os⟩, _, .ref C, some dx, rfl, J, kG, ge, hoe, ⟨rfl, rfl, fun vs hv => ?_⟩, rfl, rfl, nad, rfl, I1.bare, raises_own Z.T.exC Z.T.tyC, ?_⟩, fun b oe vs eb hg2 hd2 => ?_⟩
  · cases hv
    rfl
  · rw [eq]
    exact q1 dx hnd
  · cases eb
    have hg3 : h'.get? a = some oe := hg2
    rw [hoe] at hg3
    cases hg3
    cases hd2
    show (4 : Nat) < 6
    decide
end DL
set_option maxHeartbeats 8000000
namespace DL
open PySem PySem.Spec PySem.W PySem.Calls PyProof.Rows L2
theorem zip_look : ∀ (ns : List Str) (us : List Value), us.length = ns.length → ∀ n ∈ ns, ((ns.zip us).lookup n).isNone = false
  | [], _, _, n, h => by simp at h
  | m :: ns, [], hl, n, h => by simp at hl
  | m :: ns, u :: us, hl, n, h => by
    rw [List.zip_cons_cons, List.lookup_cons]
    cases e : (n == m) with
    | true => rfl
    | false =>
      have : n ≠ m := by simpa using e
      exact zip_look ns us (by simpa using hl) n (by simpa [this] using h)
theorem zip_fm : ∀ (ns : List Str) (us : List Value), us.length = ns.length → ns.Nodup → ns.filterMap (fun n => ((ns.zip us).lookup n).map (n, ·)) = ns.zip us
  | [], us, _, _ => by simp
  | m :: ns, [], hl, _ => by simp at hl
  | m :: ns, u :: us, hl, hn => by
    rw [List.nodup_cons] at hn
    rw [List.zip_cons_cons, List.filterMap_cons]
    have e0 : (((m, u) :: ns.zip us).lookup m).map (m, ·) = some (m, u) := by simp [List.lookup]
    rw [e0]
    show (m, u) :: _ = (m, u) :: _
    congr 1
    have ih := zip_fm ns us (by simpa using hl) hn.2
    have gen : ∀ l : List Str, (∀ n ∈ l, n ≠ m) → l.filterMap (fun n => (((m, u) :: ns.zip us).lookup n).map (n, ·)) = l.filterMap (fun n => ((ns.zip us).lookup n).map (n, ·)) := fun l => by
      induction l with
      | nil => intro _; rfl
      | cons a l ihl =>
        intro h
        have : (a == m) = false := by simpa using h a (by simp)
        rw [List.filterMap_cons, List.filterMap_cons, List.lookup_cons, this, ihl fun n hn => h n (List.mem_cons_of_mem _ hn)]
    rw [gen ns fun n h z => hn.1 (by rw [← z]; exact h)]
    exact ih
theorem bind_pos {fd : FuncData} {as : List Arg} {us : List Value} (hp : fd.params = ⟨[], as, none, [], [], none, []⟩) (hd : fd.defaults = .none) (hl : us.length = as.length) (hn : (as.map (·.arg)).Nodup) : bindArgs fd ⟨us, []⟩ = pure ((as.map (·.arg)).zip us) := by
  have hl' : us.length = (as.map (·.arg)).length := by simpa using hl
  have miss : (as.map (·.arg)).filter (fun n => (((as.map (·.arg)).zip us).lookup n).isNone) = [] := by
    rw [List.filter_eq_nil_iff]
    intro n h
    rw [zip_look _ us hl' n h]
    simp
  have fm := zip_fm (as.map (·.arg)) us hl' hn
  unfold bindArgs
  simp only [hp, hd]
  show _ = _
  generalize as.map (·.arg) = ns at hl' miss fm ⊢
  have hgt : ¬ us.length > ns.length := by omega
  simp only [List.map_nil, List.nil_append, List.append_nil, List.forIn_nil, seqItems?, pure_bind, nostand, Option.getD, List.length_nil, List.drop_nil, Nat.sub_zero, List.take_length, miss, List.drop_length, List.zip_nil_right, List.isEmpty_nil, hgt, Nat.zero_sub]
  simp [hl', miss, fm]
theorem posA_bind {fd : FuncData} {ps : List Str} (h : posA fd.params = some ps) (hd : fd.defaults = .none) (us : List Value) (hl : us.length = ps.length) : bindArgs fd ⟨us, []⟩ = pure (ps.zip us) := by
  obtain ⟨as, e, rfl, hn⟩ := posA_ok h
  exact bind_pos e hd (by simpa using hl) hn
def kndB (sc : Scope) (l : List Str) : Bool := l.all fun x => decide (sc.names.lookup x = some .local) && okN x
/-- the class object -/
def oexB (K : Fg) (C : Addr) : Bool := match K.lookup C with
  | some ⟨.type ty, _, .cls cd, sl⟩ => (match cd.mro, sl.toList with
    | .ref C' :: bm, [_, _, _, _, some (.builtin n), _] => decide (ty = "type") && decide (C' = C) && decide (n = "ValueError.__new__") && !cd.hasDel && cd.hasDict && PySem.HandSPX.refsVE bm
    | _, _ => false)
  | _ => false
theorem oexB_ok {K : Fg} {C : Addr} (h : oexB K C = true) : ∃ nm q N bs bm sn sub ab col dd k0 k1 k2 k3 k5, K.lookup C = some (excClassObj nm q C N bs bm true sn sub ab col dd k0 k1 k2 k3 k5 "ValueError.__new__") ∧ PySem.HandSPX.refsVE bm = true := by
  unfold oexB at h
  split at h
  · rename_i ty dd cd sl ho
    split at h
    · rename_i C' bm k0 k1 k2 k3 n k5 hm hs
      simp only [Bool.and_eq_true, decide_eq_true_eq, Bool.not_eq_true'] at h
      obtain ⟨⟨⟨⟨⟨rfl, rfl⟩, rfl⟩, hdel⟩, hdict⟩, ht⟩ := h
      obtain ⟨nm, bs, mro, ns, qn, hd, sn, sub, ab, col, del⟩ := cd
      dsimp only at hm hdel hdict
      subst hm hdel hdict
      obtain ⟨l⟩ := sl
      have hl : l = [k0, k1, k2, k3, some (.builtin "ValueError.__new__"), k5] := hs
      subst hl
      exact ⟨nm, qn, ns, bs, bm, sn, sub, ab, col, dd, k0, k1, k2, k3, k5, ho, ht⟩
    · cases h
  · cases h
def codeB (prog : Program) (K : Fg) (cda : Addr) : Bool := match K.lookup cda with
  | some ⟨_, _, .fields vs, _⟩ => (match (vs[2]? : Option Value) with
    | some (.str file _) => ((prog.main.file : Str) == file)
    | _ => false)
  | _ => false
def celB (K : Fg) (C cc : Addr) : Bool := match K.lookup cc with
  | some ⟨_, _, .cell (some (.ref D)), _⟩ => decide (D = C)
  | _ => false
def iniF (prog : Program) (K : Fg) (C fI : Addr) (fs : List Str) : Bool := match K.lookup fI with
  | some ⟨_, _, .func fd, _⟩ => (match fd.body, fd.closure, fd.code, fd.defaults, posA fd.params with
    | .stmts body, [(cn, cc)], .ref cda, .none, some (sl :: ps) => decide (cn = "__class__") && decide (fd.globals = mainGlobals) && decide (fd.builtins = builtinsNs) && codeIn K (.ref cda) fd.qualname && codeB prog K cda && celB K C cc && decide (ps.length = fs.length) && decide (ps ≠ []) && decide (fs.Nodup) &&
        iniB sl ps fs body && kndB fd.scope (sl :: ps) && (fd.scope.names.all fun x => decide (x.2 ≠ .cell)) && !fd.scope.isCoroutine && !fd.scope.isGenerator && decide (fd.scope.kind = .function) && decide (fd.scope.names.lookup ("super" : Str) = some .globalImplicit) && decide (fd.scope.names.lookup ("__class__" : Str) = some .free)
    | _, _, _, _, _ => false)
  | _ => false
/-- all of it; x: the class's name -/
def xiB (prog : Program) (K : Fg) (x : Str) (fs : List Str) : Bool :=
  oexB K (He.ga K x) && He.eqO (findIn K (.ref (He.ga K x)) "__setattr__") (some (some (.builtin "object.__setattr__"))) && decide (subIn K (.ref (He.ga K x)) (.type "BaseException") = some true) && decide (typeIn K (.ref (He.ga K x)) = some (.type "type")) && keepIn K (.ref (He.ga K x)) &&
  He.eqO (findIn K (.ref (He.ga K x)) "__init__") (some (some (.ref (He.ma K (He.ga K x) "__init__")))) && decide (typeIn K (.ref (He.ma K (He.ga K x) "__init__")) = some (.type "function")) && iniF prog K (He.ga K x) (He.ma K (He.ga K x) "__init__") fs &&
  !(prog.main.scope.names.lookup ("super" : Str)).isSome && He.eqO (nsIn K cStatics "thirdparty.any") (some none) && He.eqO (ks_superIn K (He.ga K x) (He.ga K x) "__init__") (some (some (.builtin "ValueError.__init__"))) && decide (subIn K (.ref (He.ga K x)) (.type "ValueError") = some true) &&
  fs.all fun f => He.eqO (findIn K (.ref (He.ga K x)) f) (some none)
theorem kndB_ok {sc : Scope} {l : List Str} (h : kndB sc l = true) : (∀ x ∈ l, sc.names.lookup x = some .local) ∧ ∀ x ∈ l, okN x = true := by
  have := List.all_eq_true.mp h
  refine ⟨fun x hx => ?_, fun x hx => ?_⟩
  · exact of_decide_eq_true (ba2 (this x hx)).1
  · exact (ba2 (this x hx)).2
theorem iniF_ok {prog : Program} {K : Fg} {C fI : Addr} {fs : List Str} (h : iniF prog K C fI fs = true) : ∃ (name qual : Str) (params : Arguments) (body : List Stmt) (scope : Scope) (dV kV doc pm ct oc : Value) (an od : Option Addr) (osl : Array (Option Value)) (cda cc : Addr) (sl : Str) (ps : List Str) (ar : Arg),
    K.lookup fI = some ⟨oc, od, .func (ksFn name qual params body scope dV kV doc pm an (.ref cda) ct cc), osl⟩ ∧ codeIn K (.ref cda) qual = true ∧
    (∃ ccl cdd vs ccs file tf, K.lookup cda = some ⟨ccl, cdd, .fields vs, ccs⟩ ∧ vs[2]? = some (.str file tf) ∧ ((prog.main.file : Str) == file) = true) ∧
    (∃ cl cld csl, K.lookup cc = some ⟨cl, cld, .cell (some (.ref C)), csl⟩) ∧
    (params.posonlyargs ++ params.args).head? = some ar ∧ ar.arg = sl ∧ ps.length = fs.length ∧ ps ≠ [] ∧ fs.Nodup ∧
    (∀ us : List Value, us.length = ps.length + 1 → bindArgs (ksFn name qual params body scope dV kV doc pm an (.ref cda) ct cc) ⟨us, []⟩ = pure ((sl :: ps).zip us)) ∧
    iniB sl ps fs body = true ∧ (sl :: ps).Nodup ∧ (∀ x ∈ sl :: ps, scope.names.lookup x = some .local) ∧ (∀ x ∈ sl :: ps, okN x = true) ∧ (∀ x ∈ scope.names, x.2 ≠ .cell) ∧ scope.isCoroutine = false ∧ scope.isGenerator = false ∧ scope.kind = .function ∧
    scope.names.lookup ("super" : Str) = some .globalImplicit ∧ scope.names.lookup ("__class__" : Str) = some .free := by
  unfold iniF at h
  split at h
  · rename_i oc od fd osl ho
    split at h
    · rename_i body cn cc cda sl ps hbody hclo hcode hdf hpos
      simp only [Bool.and_eq_true, decide_eq_true_eq, Bool.not_eq_true'] at h
      obtain ⟨⟨⟨⟨⟨⟨⟨⟨⟨⟨⟨⟨⟨⟨⟨⟨rfl, hg⟩, hb⟩, h1⟩, h2⟩, h3⟩, h4⟩, h5⟩, h6⟩, h7⟩, h8⟩, h9⟩, h10⟩, h11⟩, h12⟩, h13⟩, h14⟩ := h
      obtain ⟨as, ep, eas, hnd⟩ := posA_ok hpos
      have bnd := posA_bind hpos hdf
      obtain ⟨n1, n2, n3, n4, n5, n6, n7, n8, n9, n10, n11, n12, n13, n14, n15⟩ := fd
      dsimp only at hbody hclo hcode hdf hpos hg hb h1 ep h8 h9 h10 h11 h12 h13 h14
      subst hbody hclo hcode hdf hg hb ep
      obtain ⟨k1, k2⟩ := kndB_ok h8
      refine ⟨n1, n2, ⟨[], as, none, [], [], none, []⟩, body, n5, .none, n9, n10, n11, n14, oc, n12, od, osl, cda, cc, sl, ps, ?_⟩
      cases as with
      | nil => cases eas
      | cons ar as =>
        refine ⟨ar, ho, h1, ?_, ?_, rfl, (List.cons.inj eas).1, h4, h5, h6, fun us hl => bnd us (by simpa using hl), h7, hnd, k1, k2, fun x hx => of_decide_eq_true (List.all_eq_true.mp h9 x hx), h10, h11, h12, h13, h14⟩
        · unfold codeB at h2
          split at h2
          · rename_i a b vs c e
            split at h2
            · rename_i file tf e2
              exact ⟨_, _, vs, _, file, tf, e, e2, h2⟩
            · cases h2
          · cases h2
        · unfold celB at h3
          split at h3
          · rename_i a b D c e
            cases of_decide_eq_true h3
            exact ⟨_, _, _, e⟩
          · cases h3
    · cases h
  · cases h
theorem xiB_ok {prog : Program} {K : Fg} {mg : Str → Option Value} {x : Str} {fs : List Str} (h : xiB prog K x fs = true) (hs : mg "super" = none) : XiC prog K mg (He.ga K x) (He.ma K (He.ga K x) "__init__") fs := by
  unfold xiB at h
  obtain ⟨h, a13⟩ := ba2 h
  obtain ⟨h, a12⟩ := ba2 h
  obtain ⟨h, a11⟩ := ba2 h
  obtain ⟨h, a10⟩ := ba2 h
  obtain ⟨h, a9⟩ := ba2 h
  obtain ⟨h, a8⟩ := ba2 h
  obtain ⟨h, a7⟩ := ba2 h
  obtain ⟨h, a6⟩ := ba2 h
  obtain ⟨h, a5⟩ := ba2 h
  obtain ⟨h, a4⟩ := ba2 h
  obtain ⟨h, a3⟩ := ba2 h
  obtain ⟨a1, a2⟩ := ba2 h
  exact ⟨⟨oexB_ok a1, He.eqO_ok a2, of_decide_eq_true a3, of_decide_eq_true a4, a5⟩, He.eqO_ok a6, of_decide_eq_true a7, iniF_ok a8, hs, by simpa using a9, He.eqO_ok a10, He.eqO_ok a11, of_decide_eq_true a12, fun f hf => He.eqO_ok (List.all_eq_true.mp a13 f hf)⟩
end DL
set_option maxHeartbeats 8000000
namespace DL
open PySem PySem.Spec PyProof.Rows L2
inductive Kc where
  | non | bl (b : Bool) | int (i : Int) | str (x : Str)
def Kc.D : Kc → D
  | .non => .non
  | .bl b => .bl b
  | .int i => .int i
  | .str x => .str x
def Kc.V : Kc → V
  | .non => .non
  | .bl b => .bl b
  | .int i => .int i
  | .str x => .str x
def Kc.chk : Kc → Stmt → Bool
  | .non, .Return (some (.Constant .none _ _)) _ => true
  | .bl b, .Return (some (.Constant (.bool c) _ _)) _ => decide (b = c)
  | .int b, .Return (some (.Constant (.int c) _ _)) _ => decide (b = c)
  | .str b, .Return (some (.Constant (.str c) _ _)) _ => decide (b = c)
  | _, _ => false
theorem Kc.ok {X : Cx} {k : Kc} {st : Stmt} (h : k.chk st = true) : PS X st (tRet (tC k.V)) := by
  cases k <;> (cases st <;> first | (simp [Kc.chk] at h; done) | skip) <;> rename_i o p <;> (rcases o with _ | e <;> first | (simp [Kc.chk] at h; done) | skip) <;> (cases e <;> first | (simp [Kc.chk] at h; done) | skip) <;> rename_i c j q <;> (cases c <;> first | (simp [Kc.chk] at h; done) | skip)
  · exact ps_ret pe_non
  · simp only [Kc.chk, decide_eq_true_eq] at h; subst h; exact ps_ret pe_bl
  · simp only [Kc.chk, decide_eq_true_eq] at h; subst h; exact ps_ret pe_int
  · simp only [Kc.chk, decide_eq_true_eq] at h; subst h; exact ps_ret pe_str
theorem Kc.rel {K : Fg} {R : Rg} {H : Hp} (k : Kc) : RelD K R H k.D k.V := by
  cases k <;> (unfold Kc.D Kc.V RelD; rfl)
section
variable {X : Cx} {C : Cn} {Wx : WX}
end
end DL
set_option maxHeartbeats 8000000
namespace DL
open PySem PySem.Spec PyProof.Rows L2
section
variable {X : Cx} {C : Cn} {Wx : WX}
end
end DL
set_option maxHeartbeats 8000000
namespace DL
open PySem PySem.Spec PyProof.Rows L2
theorem sw2 {a b : Expr} {x y : Str} {px py pt pt2 : Pos} {kt k2 : Nat} {env : PySem.Env} (hb : env.blockKind = .function) (hx : env.kindOf x = some .local) (hy : env.kindOf y = some .local) (hl : py.line = px.line) (hxy : x ≠ y) (sa : noStar a = true) (sb : noStar b = true)
    (hf : [a, b].all (foldedForSure 8) = false) (hc : [a, b].all (constantsAlone 8) = false) : swappedStores [.Tuple [.Name x px, .Name y py] kt pt] (.Tuple [a, b] k2 pt2) env = pure (some [x, y]) := by
  unfold swappedStores
  have hxy' : (y == x) = false := by simpa using Ne.symm hxy
  have e0 : ∀ (f : Expr → Bool), f a = false → f b = false → [a, b].any f = false := fun f h1 h2 => by simp [h1, h2]
  dsimp only
  rw [e0 _ (by cases a <;> first | rfl | cases sa) (by cases b <;> first | rfl | cases sb)]
  simp [hb, hx, hy, hl, hf, hc, Expr.pos, List.filterMap_cons, List.eraseDups, List.eraseDupsBy, List.eraseDupsBy.loop, hxy']
theorem sw3 {a b c : Expr} {x y z : Str} {px py pz pt pt2 : Pos} {kt k2 : Nat} {env : PySem.Env} (hb : env.blockKind = .function) (hx : env.kindOf x = some .local) (hy : env.kindOf y = some .local) (hz : env.kindOf z = some .local) (hl : py.line = px.line) (hl2 : pz.line = px.line) (hxy : x ≠ y) (hxz : x ≠ z) (hyz : y ≠ z) (sa : noStar a = true) (sb : noStar b = true) (sc : noStar c = true)
    (hf : [a, b, c].all (foldedForSure 8) = false) (hc : [a, b, c].all (constantsAlone 8) = false) : swappedStores [.Tuple [.Name x px, .Name y py, .Name z pz] kt pt] (.Tuple [a, b, c] k2 pt2) env = pure (some [x, y, z]) := by
  unfold swappedStores
  have hxy' : (y == x) = false := by simpa using Ne.symm hxy
  have hxz' : (z == x) = false := by simpa using Ne.symm hxz
  have hyz' : (z == y) = false := by simpa using Ne.symm hyz
  have e0 : ∀ (f : Expr → Bool), f a = false → f b = false → f c = false → [a, b, c].any f = false := fun f h1 h2 h3 => by simp [h1, h2, h3]
  dsimp only
  rw [e0 _ (by cases a <;> first | rfl | cases sa) (by cases b <;> first | rfl | cases sb) (by cases c <;> first | rfl | cases sc)]
  simp [hb, hx, hy, hz, hl, hl2, hf, hc, Expr.pos, List.filterMap_cons, List.eraseDups, List.eraseDupsBy, List.eraseDupsBy.loop, hxy', hxz', hyz']
def noLc : Expr → Bool
  | .ListComp _ _ _ _ => false
  | .SetComp _ _ _ _ => false
  | .DictComp _ _ _ _ _ => false
  | _ => true
def noTup : Expr → Bool
  | .Tuple _ _ _ => false
  | _ => true
theorem noLc_ok {e : Expr} {t : Option Expr} {n : Nat} {env : PySem.Env} (h : noLc e = true) : swapsWith e t n env = pure false := by
  cases e <;> first | rfl | cases h
theorem setNo_ok {e : Expr} {y : Str} {py : Pos} {n : Nat} {env : PySem.Env} (h : (noLc e || !lcB env.scope y) = true) : swapsWith e (some (.Name y py)) n env = pure false := by
  cases hn : noLc e with
  | true => exact noLc_ok hn
  | false =>
    rw [hn, Bool.false_or] at h
    have hk : (env.kindOf y == some NameKind.local) = false := by
      have e0 : env.kindOf y = env.scope.names.lookup y := rfl
      rw [e0]
      unfold lcB at h
      cases hl : env.scope.names.lookup y with
      | none => rfl
      | some k => rw [hl] at h; cases k <;> first | rfl | (simp at h)
    cases e <;> first | cases hn | skip
    all_goals
      unfold swapsWith
      simp [hk]
theorem sole_ok {e t : Expr} {n : Nat} {env : PySem.Env} (h : noLc e = true) : swapsWithSole [t] e n env = pure false := by
  unfold swapsWithSole
  exact noLc_ok h
theorem noTup_ok {ts : List Expr} {e : Expr} {env : PySem.Env} (h : noTup e = true) : swappedStores ts e env = pure none := by
  cases e <;> first | cases h | skip
  all_goals
    unfold swappedStores
    rcases ts with _ | ⟨t, _ | ⟨t2, r⟩⟩
    · rfl
    · cases t <;> rfl
    · cases t <;> rfl
def nlB (sc : Scope) : Expr → Bool
  | .Name x _ => !lcB sc x
  | _ => true
def nswB (sc : Scope) : Expr → Bool
  | .Tuple ts _ _ => decide (3 < ts.length) || ts.any (nlB sc)
  | _ => false
theorem fm_lt {α β : Type} {f : α → Option β} {b : α → Bool} (hb : ∀ a, b a = true → f a = none) : ∀ {l : List α}, l.any b = true → (l.filterMap f).length < l.length
  | [], h => by simp at h
  | a :: l, h => by
    have h1 : (l.filterMap f).length ≤ l.length := List.length_filterMap_le f l
    rw [List.any_cons, Bool.or_eq_true] at h
    rcases h with h | h
    · rw [List.filterMap_cons, hb a h]; simp only [List.length_cons]; omega
    · have := fm_lt hb h
      rw [List.filterMap_cons]
      split <;> simp only [List.length_cons] <;> omega
theorem nsw_ok {t e : Expr} {env : PySem.Env} (h : nswB env.scope t = true) : swappedStores [t] e env = pure none := by
  cases t <;> first | (cases h; done) | skip
  rename_i ts k p
  cases e <;> first | rfl | skip
  rename_i vs k2 p2
  unfold swappedStores
  dsimp only
  simp only [nswB, Bool.or_eq_true, decide_eq_true_eq] at h
  split
  · rfl
  · rename_i hc
    split
    · rfl
    · rcases h with h | h
      · exfalso
        apply hc
        simp; omega
      · have := fm_lt (f := fun t => match t with | .Name id pos => if env.kindOf id == some .local && pos.line == (ts.head?.map (·.pos.line)).getD 0 then some id else none | _ => none) (b := nlB env.scope) (by
          intro a ha
          cases a <;> first | rfl | skip
          rename_i x q
          simp only [nlB, Bool.not_eq_true', lcB] at ha
          have : (env.kindOf x == some .local) = false := by
            show (env.scope.names.lookup x == some .local) = false
            generalize env.scope.names.lookup x = o at ha
            rcases o with _ | o
            · rfl
            · cases o <;> first | rfl | (simp at ha; done)
          simp [this]) h
        split
        · rfl
        · rename_i h2
          exfalso
          apply h2
          simp only [Bool.or_eq_true, bne_iff_ne, ne_eq]
          left
          exact Nat.ne_of_lt this
def fldB : Expr → Bool
  | .Tuple vs _ _ => vs.all (foldedForSure 8)
  | _ => false
theorem fld_ok {t e : Expr} {env : PySem.Env} (h : fldB e = true) : swappedStores [t] e env = pure none := by
  cases e <;> first | (cases h; done) | skip
  rename_i vs k p
  have h : vs.all (foldedForSure 8) = true := h
  have go : ∀ (ts : List Expr), (do
      if !(ts.length == 2 || ts.length == 3) || vs.length != ts.length || env.blockKind != .function then return none
      if vs.any fun | .Starred .. => true | _ => false then return none
      let line := (ts.head?.map (·.pos.line)).getD 0
      let names := ts.filterMap fun
        | .Name id pos => if env.kindOf id == some .local && pos.line == line then some id else none
        | _ => none
      if names.length != ts.length || names.eraseDups.length != names.length then return none
      if vs.all (foldedForSure 8) then return none
      if vs.all (constantsAlone 8) then unsupported "assign.tuple-of-constant-expressions:order-of-the-stores"
      return some names : Sem (Option (List Str))) = pure none := by
    intro ts
    dsimp only
    split
    · rfl
    · split
      · rfl
      · split
        · rfl
        · first | rfl | (rw [if_pos h]; rfl) | rw [if_pos h]
  cases t <;> first | rfl | exact go _
theorem swap_sub {o j e : Expr} {p : Pos} {env : PySem.Env} : swappedStores [.Subscript o j p] e env = pure none := by
  unfold swappedStores
  cases e <;> rfl
def xnB (M : Xm) (sc : Scope) (c : Nat) (x : Str) : Bool := decide (M.names[c]? = some x) && decide (c < M.n) && glB sc x && okN x
/-- what stands around statements -/
structure StatS (M : Xm) (G : Gm) (F : Fns) (C : Cn) (gd : Bool) (k : Nat) (X : Cx) : Prop extends Stat G F C gd k X where
  k1 : 1 ≤ k
  pass : PassesOwn (model X.prog X.w) X.A X.env X.xe
  stk : X.stack = X.env :: X.outer
  frm : X.env.frame = some X.env.locals
  blk : X.env.blockKind = .function
  fnA : ∀ x, X.fn x = true
  xm : XmOk M C.K C.Cl
  xmg : ∀ c x, M.names[c]? = some x → X.mg x = some (.ref (C.Cl c))
  xmk : ∀ c x, M.names[c]? = some x → M.rs c = true → (∃ fI, XiC X.prog X.K X.mg (C.Cl c) fI (M.flds c)) ∧ (M.flds c).length ≤ 1000
theorem StatS.tr {M : Xm} {G : Gm} {F : Fns} {C : Cn} {gd : Bool} {k : Nat} {X : Cx} (Z : StatS M G F C gd k X) {pn : List (Addr × Obj)} {xe : Value → Shared → Prop} (hp : PassesOwn (model X.prog X.w) X.A X.env xe) : StatS M G F C gd k (X.tr pn xe) :=
  { toStat := ⟨Z.hK, Z.calm, Z.nd, Z.units, Z.room, Z.gdA, Z.sh, Z.free, Z.con, Z.fn, fun pn' xe' => Z.act pn' xe', Z.lam⟩, k1 := Z.k1, pass := hp, stk := Z.stk, frm := Z.frm, blk := Z.blk, fnA := Z.fnA, xm := Z.xm, xmg := Z.xmg, xmk := Z.xmk }
section
variable {M : Xm} {G : Gm} {F : Fns} {C : Cn} {gd : Bool} {k : Nat}
theorem xnB_ok {sc : Scope} {c : Nat} {x : Str} (h : xnB M sc c x = true) : M.names[c]? = some x ∧ c < M.n ∧ sc.names.lookup x = some .globalImplicit ∧ okN x = true := by
  unfold xnB at h
  obtain ⟨h, h4⟩ := ba2 h
  obtain ⟨h, h3⟩ := ba2 h
  obtain ⟨h1, h2⟩ := ba2 h
  exact ⟨of_decide_eq_true h1, of_decide_eq_true h2, glB_ok h3, h4⟩
theorem one_form {e : Expr} {cp : Pos} {env : PySem.Env} (h : noStar e = true) : (((backTo cp (starEach [e] env)).all (fun x => !x.1) && (backToKw cp (keywordEach [] env)).all fun x => x.1.isSome) && decide (([e].length + ([] : List Keyword).length + if ([] : List Keyword).isEmpty = true then 0 else 1) < 30)) = true := by
  rw [star_ok h]; rfl
theorem asg_sub {o j : Expr} {tp : Pos} {env : PySem.Env} (h : noSlice j = true) : ∀ v, assign (.Subscript o j tp) env v = (do
      let ov ← holding [v] (eval o env)
      let iv ← holding [v, ov] (eval j env)
      standAt tp
      holding [v, ov, iv] (setItem ov iv v)
      release [v, ov, iv] []) := by
  intro v
  cases j <;> first | rfl | cases h
end
abbrev SndS (c : Xm → Gm → List Str → Scope → Stmt → Bool) (d : Xm → Fns → TDS) : Prop := ∀ {C : Cn} {M : Xm} {G : Gm} {F : Fns} {gd : Bool} {k : Nat} (X : Cx) (Wx : WX) (st : Stmt), StatS M G F C gd k X → Takes X Wx → c M G X.N X.env.scope st = true → PS X st (liftS C Wx (d M F))
/-- a statement: how it is held against the text, how it reads, and that it reads right -/
structure S where
  chk : Xm → Gm → List Str → Scope → Stmt → Bool
  rd : Xm → Fns → TDS
  snd : SndS chk rd
inductive Ss where
  | nil | cons (s : S) (r : Ss)
def S.d (M : Xm) (F : Fns) (m : S) : TDS := m.rd M F
def Ss.d (M : Xm) (F : Fns) : Ss → TDS
  | .nil => dNext
  | .cons s r => dSeq (s.d M F) (r.d M F)
def Ss.chk (M : Xm) (G : Gm) (N : List Str) (sc : Scope) : Ss → List Stmt → Bool
  | .nil, [] => true
  | .cons s r, st :: rest => s.chk M G N sc st && r.chk M G N sc rest
  | _, _ => false
theorem Ss.snd {C : Cn} {M : Xm} {G : Gm} {F : Fns} {gd : Bool} {k : Nat} : ∀ (m : Ss) (X : Cx) (Wx : WX) (st : List Stmt), StatS M G F C gd k X → Takes X Wx → m.chk M G X.N X.env.scope st = true → PSs X st (liftS C Wx (m.d M F))
  | .nil, X, Wx, st, Z, tk, h => by
    cases st with
    | nil => exact dss_nil
    | cons a b => simp [Ss.chk] at h
  | .cons s r, X, Wx, st, Z, tk, h => by
    cases st with
    | nil => simp [Ss.chk] at h
    | cons a b =>
      unfold Ss.chk at h
      obtain ⟨h1, h2⟩ := ba2 h
      exact dss_cons (S.snd s X Wx a Z tk h1) (Ss.snd r X Wx b Z tk h2)
def cS_pass (M : Xm) (G : Gm) (N : List Str) (sc : Scope) (x0 : Stmt) : Bool := match x0 with
  | .Pass _ => true
  | _ => false
theorem sS_pass : SndS (cS_pass) (fun M F => dNext) := by
    intro C M G F gd k X Wx st Z tk h
    cases st <;> first | (exact absurd h Bool.false_ne_true) | (simp [cS_pass] at h; done) | skip
    exact ds_pass
def S.pass : S := ⟨cS_pass, fun M F => dNext, sS_pass⟩
@[simp] theorem rdS_pass {M : Xm} {F : Fns} : (S.pass).rd M F = dNext := rfl
def cS_brk (M : Xm) (G : Gm) (N : List Str) (sc : Scope) (x0 : Stmt) : Bool := match x0 with
  | .Break _ => true
  | _ => false
theorem sS_brk : SndS (cS_brk) (fun M F => dBrk) := by
    intro C M G F gd k X Wx st Z tk h
    cases st <;> first | (exact absurd h Bool.false_ne_true) | (simp [cS_brk] at h; done) | skip
    exact ds_brk
def S.brk : S := ⟨cS_brk, fun M F => dBrk, sS_brk⟩
@[simp] theorem rdS_brk {M : Xm} {F : Fns} : (S.brk).rd M F = dBrk := rfl
def cS_ret (e : E) (M : Xm) (G : Gm) (N : List Str) (sc : Scope) (x0 : Stmt) : Bool := match x0 with
  | .Return (some x) _ => e.chk G N sc x
  | _ => false
theorem sS_ret (e : E) : SndS (cS_ret e) (fun M F => dRet (e.d F)) := by
    intro C M G F gd k X Wx st Z tk h
    cases st <;> first | (exact absurd h Bool.false_ne_true) | (simp [cS_ret] at h; done) | skip
    rename_i o p
    cases o with
    | none => exact absurd h Bool.false_ne_true
    | some x => exact ds_ret (E.snd e X Wx x Z.toStat tk (h))
def S.ret (e : E) : S := ⟨cS_ret e, fun M F => dRet (e.d F), sS_ret e⟩
@[simp] theorem rdS_ret (e : E) {M : Xm} {F : Fns} : (S.ret e).rd M F = dRet (e.d F) := rfl
def cS_drop (e : E) (M : Xm) (G : Gm) (N : List Str) (sc : Scope) (x0 : Stmt) : Bool := match x0 with
  | .Expr x _ => noLc x && e.chk G N sc x
  | _ => false
theorem sS_drop (e : E) : SndS (cS_drop e) (fun M F => dDrop (e.d F)) := by
    intro C M G F gd k X Wx st Z tk h
    cases st <;> first | (exact absurd h Bool.false_ne_true) | (simp [cS_drop] at h; done) | skip
    obtain ⟨h1, h2⟩ := ba2 (h)
    exact ds_expr (E.snd e X Wx _ Z.toStat tk h2) (noLc_ok h1)
def S.drop (e : E) : S := ⟨cS_drop e, fun M F => dDrop (e.d F), sS_drop e⟩
@[simp] theorem rdS_drop (e : E) {M : Xm} {F : Fns} : (S.drop e).rd M F = dDrop (e.d F) := rfl
def cS_set (i : Nat) (e : E) (M : Xm) (G : Gm) (N : List Str) (sc : Scope) (x0 : Stmt) : Bool := match x0 with
  | .Assign [.Name y _] x _ => decide (N[i]? = some y) && locB sc y && (noLc x || !lcB sc y) && e.chk G N sc x
  | _ => false
theorem sS_set (i : Nat) (e : E) : SndS (cS_set i e) (fun M F => dSet i (e.d F)) := by
    intro C M G F gd k X Wx st Z tk h
    cases st <;> first | (exact absurd h Bool.false_ne_true) | (simp [cS_set] at h; done) | skip
    rename_i tgs v p
    rcases tgs with _ | ⟨t, _ | ⟨t2, tgs⟩⟩ <;> first | (exact absurd h Bool.false_ne_true) | (simp [cS_set] at h; done) | skip
    cases t <;> first | (exact absurd h Bool.false_ne_true) | (simp [cS_set] at h; done) | skip
    simp only [cS_set] at h
    obtain ⟨h, h4⟩ := ba2 h
    obtain ⟨h, h3⟩ := ba2 h
    obtain ⟨h1, h2⟩ := ba2 h
    exact ds_set Z.nd (of_decide_eq_true h1) (locB_ok h2) (.inl (Z.fnA _)) (E.snd e X Wx _ Z.toStat tk h4) (setNo_ok h3)
def S.set (i : Nat) (e : E) : S := ⟨cS_set i e, fun M F => dSet i (e.d F), sS_set i e⟩
@[simp] theorem rdS_set (i : Nat) (e : E) {M : Xm} {F : Fns} : (S.set i e).rd M F = dSet i (e.d F) := rfl
def cS_own (i : Nat) (e : E) (M : Xm) (G : Gm) (N : List Str) (sc : Scope) (x0 : Stmt) : Bool := match x0 with
  | .Assign [.Name y _] x _ => decide (N[i]? = some y) && locB sc y && (noLc x || !lcB sc y) && e.chk G N sc x
  | _ => false
theorem sS_own (i : Nat) (e : E) : SndS (cS_own i e) (fun M F => dOwn i (e.d F)) := by
    intro C M G F gd k X Wx st Z tk h
    cases st <;> first | (exact absurd h Bool.false_ne_true) | (simp [cS_own] at h; done) | skip
    rename_i tgs v p
    rcases tgs with _ | ⟨t, _ | ⟨t2, tgs⟩⟩ <;> first | (exact absurd h Bool.false_ne_true) | (simp [cS_own] at h; done) | skip
    cases t <;> first | (exact absurd h Bool.false_ne_true) | (simp [cS_own] at h; done) | skip
    simp only [cS_own] at h
    obtain ⟨h, h4⟩ := ba2 h
    obtain ⟨h, h3⟩ := ba2 h
    obtain ⟨h1, h2⟩ := ba2 h
    exact ds_own Z.nd (of_decide_eq_true h1) (locB_ok h2) (.inl (Z.fnA _)) (E.snd e X Wx _ Z.toStat tk h4) (setNo_ok h3)
def S.own (i : Nat) (e : E) : S := ⟨cS_own i e, fun M F => dOwn i (e.d F), sS_own i e⟩
@[simp] theorem rdS_own (i : Nat) (e : E) {M : Xm} {F : Fns} : (S.own i e).rd M F = dOwn i (e.d F) := rfl
def cS_ite (c : E) (a : Ss) (b : Ss) (M : Xm) (G : Gm) (N : List Str) (sc : Scope) (x0 : Stmt) : Bool := match x0 with
  | .If t p q _ => c.chk G N sc t && a.chk M G N sc p && b.chk M G N sc q
  | _ => false
theorem sS_ite (c : E) (a : Ss) (b : Ss) : SndS (cS_ite c a b) (fun M F => dIte (c.t F) (a.d M F) (b.d M F)) := by
    intro C M G F gd k X Wx st Z tk h
    cases st <;> first | (exact absurd h Bool.false_ne_true) | (simp [cS_ite] at h; done) | skip
    simp only [cS_ite] at h
    obtain ⟨h, h3⟩ := ba2 h
    obtain ⟨h1, h2⟩ := ba2 h
    exact ds_if (E.sndT c X Wx _ Z.toStat tk h1) (Ss.snd a X Wx _ Z tk h2) (Ss.snd b X Wx _ Z tk h3)
def S.ite (c : E) (a : Ss) (b : Ss) : S := ⟨cS_ite c a b, fun M F => dIte (c.t F) (a.d M F) (b.d M F), sS_ite c a b⟩
@[simp] theorem rdS_ite (c : E) (a : Ss) (b : Ss) {M : Xm} {F : Fns} : (S.ite c a b).rd M F = dIte (c.t F) (a.d M F) (b.d M F) := rfl
def cS_for_ (g : Tg) (it : Ic) (a : Ss) (M : Xm) (G : Gm) (N : List Str) (sc : Scope) (x0 : Stmt) : Bool := match x0 with
  | .For t x p [] _ => (!it.needT || tupE t) && it.chk G N sc x && noSet x && g.chk false N sc t && a.chk M G N sc p
  | _ => false
theorem sS_for_ (g : Tg) (it : Ic) (a : Ss) : SndS (cS_for_ g it a) (fun M F => dFor (it.d F) g (a.d M F)) := by
    intro C M G F gd k X Wx st Z tk h
    cases st <;> first | (exact absurd h Bool.false_ne_true) | (simp [cS_for_] at h; done) | skip
    rename_i t x p q pos
    cases q <;> first | (exact absurd h Bool.false_ne_true) | (simp [cS_for_] at h; done) | skip
    simp only [cS_for_] at h
    obtain ⟨h, h4⟩ := ba2 h
    obtain ⟨h, h3⟩ := ba2 h
    obtain ⟨h, h2⟩ := ba2 h
    obtain ⟨h0, h1⟩ := ba2 h
    exact ds_for Z.pass Z.calm (Ic.snd it X Wx _ _ Z.toStat tk h0 h1) (Tg.snd Z.hK Z.calm Z.nd (fun _ => Z.fnA) g _ h3) (Ss.snd a X Wx _ Z tk h4) (noSet_ok h2)
def S.for_ (g : Tg) (it : Ic) (a : Ss) : S := ⟨cS_for_ g it a, fun M F => dFor (it.d F) g (a.d M F), sS_for_ g it a⟩
@[simp] theorem rdS_for_ (g : Tg) (it : Ic) (a : Ss) {M : Xm} {F : Fns} : (S.for_ g it a).rd M F = dFor (it.d F) g (a.d M F) := rfl
def cS_asg (g : Tg) (e : E) (M : Xm) (G : Gm) (N : List Str) (sc : Scope) (x0 : Stmt) : Bool := match x0 with
  | .Assign [t] x _ => noStar t && noLc x && (noTup x || (nswB sc t || fldB x)) && g.chk false N sc t && e.chk G N sc x
  | _ => false
theorem sS_asg (g : Tg) (e : E) : SndS (cS_asg g e) (fun M F => dAsg g (e.d F)) := by
    intro C M G F gd k X Wx st Z tk h
    cases st <;> first | (exact absurd h Bool.false_ne_true) | (simp [cS_asg] at h; done) | skip
    rename_i tgs v p
    rcases tgs with _ | ⟨t, _ | ⟨t2, tgs⟩⟩ <;> first | (exact absurd h Bool.false_ne_true) | (simp [cS_asg] at h; done) | skip
    simp only [cS_asg] at h
    obtain ⟨h, h5⟩ := ba2 h
    obtain ⟨h, h4⟩ := ba2 h
    obtain ⟨h, h3⟩ := ba2 h
    obtain ⟨h1, h2⟩ := ba2 h
    have hw : swappedStores [t] v X.env = pure none := by
      rcases Bool.or_eq_true _ _ |>.mp h3 with h3 | h3
      · exact noTup_ok h3
      · rcases Bool.or_eq_true _ _ |>.mp h3 with h3 | h3
        · exact nsw_ok h3
        · exact fld_ok h3
    exact ds_asg (E.snd e X Wx _ Z.toStat tk h5) (Tg.snd Z.hK Z.calm Z.nd (fun _ => Z.fnA) g _ h4) (noLc_ok h2) hw (by rw [asgE_ok h1]; rfl)
def S.asg (g : Tg) (e : E) : S := ⟨cS_asg g e, fun M F => dAsg g (e.d F), sS_asg g e⟩
@[simp] theorem rdS_asg (g : Tg) (e : E) {M : Xm} {F : Fns} : (S.asg g e).rd M F = dAsg g (e.d F) := rfl
def cS_par2 (_q0 : Bool) (i : Nat) (a : E) (_q3 : Bool) (j : Nat) (b : E) (M : Xm) (G : Gm) (N : List Str) (sc : Scope) (x0 : Stmt) : Bool := match x0 with
  | .Assign [.Tuple [.Name x px, .Name y py] _ _] (.Tuple [l, r] _ _) _ => decide (N[i]? = some x) && decide (N[j]? = some y) && decide (i ≠ j) && decide (x ≠ y) && lcB sc x && lcB sc y && decide (py.line = px.line) && noStar l && noStar r &&
      !([l, r].all (foldedForSure 8)) && !([l, r].all (constantsAlone 8)) && a.chk G N sc l && b.chk G N sc r
  | _ => false
theorem sS_par2 (o1 : Bool) (i : Nat) (a : E) (o2 : Bool) (j : Nat) (b : E) : SndS (cS_par2 o1 i a o2 j b) (fun M F => dPar2 o1 i (a.d F) o2 j (b.d F)) := by
    intro C M G F gd k X Wx st Z tk h
    cases st <;> first | (exact absurd h Bool.false_ne_true) | (simp [cS_par2] at h; done) | skip
    rename_i tgs v p
    rcases tgs with _ | ⟨t, _ | ⟨t2, tgs⟩⟩ <;> first | (exact absurd h Bool.false_ne_true) | (simp [cS_par2] at h; done) | skip
    cases t <;> first | (exact absurd h Bool.false_ne_true) | (simp [cS_par2] at h; done) | skip
    rename_i els kt pt
    rcases els with _ | ⟨e1, _ | ⟨e2, _ | ⟨e3, els⟩⟩⟩ <;> first | (exact absurd h Bool.false_ne_true) | (simp [cS_par2] at h; done) | skip
    cases e1 <;> first | (exact absurd h Bool.false_ne_true) | (simp [cS_par2] at h; done) | skip
    cases e2 <;> first | (exact absurd h Bool.false_ne_true) | (simp [cS_par2] at h; done) | skip
    cases v <;> first | (exact absurd h Bool.false_ne_true) | (simp [cS_par2] at h; done) | skip
    rename_i vs k2 p2
    rcases vs with _ | ⟨v1, _ | ⟨v2, _ | ⟨v3, vs⟩⟩⟩ <;> first | (exact absurd h Bool.false_ne_true) | (simp [cS_par2] at h; done) | skip
    simp only [cS_par2, Bool.and_eq_true, decide_eq_true_eq, Bool.not_eq_true'] at h
    obtain ⟨⟨⟨⟨⟨⟨⟨⟨⟨⟨⟨⟨h1, h2⟩, h3⟩, h4⟩, h5⟩, h6⟩, h7⟩, h8⟩, h9⟩, h10⟩, h11⟩, h12⟩, h13⟩ := h
    exact ds_par2 Z.calm Z.nd h1 h2 h3 (lcB_ok h5) (lcB_ok h6) (E.snd a X Wx _ Z.toStat tk h12) (E.snd b X Wx _ Z.toStat tk h13) h8 h9 (sw2 Z.blk (lcB_ok h5) (lcB_ok h6) h7 h4 h8 h9 h10 h11)
def S.par2 (o1 : Bool) (i : Nat) (a : E) (o2 : Bool) (j : Nat) (b : E) : S := ⟨cS_par2 o1 i a o2 j b, fun M F => dPar2 o1 i (a.d F) o2 j (b.d F), sS_par2 o1 i a o2 j b⟩
@[simp] theorem rdS_par2 (o1 : Bool) (i : Nat) (a : E) (o2 : Bool) (j : Nat) (b : E) {M : Xm} {F : Fns} : (S.par2 o1 i a o2 j b).rd M F = dPar2 o1 i (a.d F) o2 j (b.d F) := rfl
def cS_par3 (_q0 : Bool) (i : Nat) (a : E) (_q3 : Bool) (j : Nat) (b : E) (_q6 : Bool) (l : Nat) (c : E) (M : Xm) (G : Gm) (N : List Str) (sc : Scope) (x0 : Stmt) : Bool := match x0 with
  | .Assign [.Tuple [.Name x px, .Name y py, .Name z pz] _ _] (.Tuple [p, q, r] _ _) _ => decide (N[i]? = some x) && decide (N[j]? = some y) && decide (N[l]? = some z) && decide (i ≠ j) && decide (i ≠ l) && decide (j ≠ l) && decide (x ≠ y) && decide (x ≠ z) && decide (y ≠ z) && lcB sc x && lcB sc y && lcB sc z &&
      decide (py.line = px.line) && decide (pz.line = px.line) && noStar p && noStar q && noStar r && !([p, q, r].all (foldedForSure 8)) && !([p, q, r].all (constantsAlone 8)) && a.chk G N sc p && b.chk G N sc q && c.chk G N sc r
  | _ => false
theorem sS_par3 (o1 : Bool) (i : Nat) (a : E) (o2 : Bool) (j : Nat) (b : E) (o3 : Bool) (l : Nat) (c : E) : SndS (cS_par3 o1 i a o2 j b o3 l c) (fun M F => dPar3 o1 i (a.d F) o2 j (b.d F) o3 l (c.d F)) := by
    intro C M G F gd k X Wx st Z tk h
    cases st <;> first | (exact absurd h Bool.false_ne_true) | (simp [cS_par3] at h; done) | skip
    rename_i tgs v p
    rcases tgs with _ | ⟨t, _ | ⟨t2, tgs⟩⟩ <;> first | (exact absurd h Bool.false_ne_true) | (simp [cS_par3] at h; done) | skip
    cases t <;> first | (exact absurd h Bool.false_ne_true) | (simp [cS_par3] at h; done) | skip
    rename_i els kt pt
    rcases els with _ | ⟨e1, _ | ⟨e2, _ | ⟨e3, _ | ⟨e4, els⟩⟩⟩⟩ <;> first | (exact absurd h Bool.false_ne_true) | (simp [cS_par3] at h; done) | skip
    · cases e1 <;> first | (exact absurd h Bool.false_ne_true) | (simp [cS_par3] at h; done) | skip
      cases e2 <;> first | (exact absurd h Bool.false_ne_true) | (simp [cS_par3] at h; done) | skip
      cases e3 <;> first | (exact absurd h Bool.false_ne_true) | (simp [cS_par3] at h; done) | skip
      cases v <;> first | (exact absurd h Bool.false_ne_true) | (simp [cS_par3] at h; done) | skip
      rename_i vs k2 p2
      rcases vs with _ | ⟨v1, _ | ⟨v2, _ | ⟨v3, _ | ⟨v4, vs⟩⟩⟩⟩ <;> first | (exact absurd h Bool.false_ne_true) | (simp [cS_par3] at h; done) | skip
      simp only [cS_par3, Bool.and_eq_true, decide_eq_true_eq, Bool.not_eq_true'] at h
      obtain ⟨⟨⟨⟨⟨⟨⟨⟨⟨⟨⟨⟨⟨⟨⟨⟨⟨⟨⟨⟨⟨h1, h2⟩, h3⟩, h4⟩, h5⟩, h6⟩, h7⟩, h8⟩, h9⟩, h10⟩, h11⟩, h12⟩, h13⟩, h14⟩, h15⟩, h16⟩, h17⟩, h18⟩, h19⟩, h20⟩, h21⟩, h22⟩ := h
      exact ds_par3 Z.calm Z.nd h1 h2 h3 h4 h5 h6 (lcB_ok h10) (lcB_ok h11) (lcB_ok h12) (E.snd a X Wx _ Z.toStat tk h20) (E.snd b X Wx _ Z.toStat tk h21) (E.snd c X Wx _ Z.toStat tk h22) h15 h16 h17
        (sw3 Z.blk (lcB_ok h10) (lcB_ok h11) (lcB_ok h12) h13 h14 h7 h8 h9 h15 h16 h17 h18 h19)
def S.par3 (o1 : Bool) (i : Nat) (a : E) (o2 : Bool) (j : Nat) (b : E) (o3 : Bool) (l : Nat) (c : E) : S := ⟨cS_par3 o1 i a o2 j b o3 l c, fun M F => dPar3 o1 i (a.d F) o2 j (b.d F) o3 l (c.d F), sS_par3 o1 i a o2 j b o3 l c⟩
@[simp] theorem rdS_par3 (o1 : Bool) (i : Nat) (a : E) (o2 : Bool) (j : Nat) (b : E) (o3 : Bool) (l : Nat) (c : E) {M : Xm} {F : Fns} : (S.par3 o1 i a o2 j b o3 l c).rd M F = dPar3 o1 i (a.d F) o2 j (b.d F) o3 l (c.d F) := rfl
def cS_app (i : Nat) (e : E) (M : Xm) (G : Gm) (N : List Str) (sc : Scope) (x0 : Stmt) : Bool := match x0 with
  | .Expr (.Call (.Attribute (.Name y _) m ap) [x] [] cp) _ => decide (m = "append") && decide (N[i]? = some y) && visB sc y && okN y && noStar x && (ap.endLine == cp.line) && e.chk G N sc x
  | _ => false
theorem sS_app (i : Nat) (e : E) : SndS (cS_app i e) (fun M F => dApp i (e.d F)) := by
    intro C M G F gd k X Wx st Z tk h
    cases st <;> first | (exact absurd h Bool.false_ne_true) | (simp [cS_app] at h; done) | skip
    rename_i v p
    cases v <;> first | (exact absurd h Bool.false_ne_true) | (simp [cS_app] at h; done) | skip
    rename_i fn args kws cp
    cases fn <;> first | (exact absurd h Bool.false_ne_true) | (simp [cS_app] at h; done) | skip
    rename_i o mname ap
    cases o <;> first | (exact absurd h Bool.false_ne_true) | (simp [cS_app] at h; done) | skip
    rcases args with _ | ⟨x, _ | ⟨x2, xs⟩⟩ <;> first | (exact absurd h Bool.false_ne_true) | (simp [cS_app] at h; done) | skip
    rcases kws with _ | ⟨kw, kws⟩ <;> first | (exact absurd h Bool.false_ne_true) | (simp [cS_app] at h; done) | skip
    simp only [cS_app, Bool.and_eq_true, decide_eq_true_eq] at h
    obtain ⟨⟨⟨⟨⟨⟨rfl, h2⟩, h3⟩, h4⟩, h5⟩, h6⟩, h7⟩ := h
    exact ds_app Z.hK h2 (visB_ok h3) (okN_ok h4).1 (okN_ok h4).2.1 (E.snd e X Wx _ Z.toStat tk h7) (star_ok h5) h6 (one_form h5) rfl rfl
def S.app (i : Nat) (e : E) : S := ⟨cS_app i e, fun M F => dApp i (e.d F), sS_app i e⟩
@[simp] theorem rdS_app (i : Nat) (e : E) {M : Xm} {F : Fns} : (S.app i e).rd M F = dApp i (e.d F) := rfl
def cS_hset (o : E) (j : E) (e : E) (M : Xm) (G : Gm) (N : List Str) (sc : Scope) (x0 : Stmt) : Bool := match x0 with
  | .Assign [.Subscript y s _] x _ => noSlice s && noLc x && true && o.chk G N sc y && j.chk G N sc s && e.chk G N sc x
  | _ => false
theorem sS_hset (o : E) (j : E) (e : E) : SndS (cS_hset o j e) (fun M F => dHset (o.d F) (j.d F) (e.d F)) := by
    intro C M G F gd k X Wx st Z tk h
    cases st <;> first | (exact absurd h Bool.false_ne_true) | (simp [cS_hset] at h; done) | skip
    rename_i tgs v p
    rcases tgs with _ | ⟨t, _ | ⟨t2, tgs⟩⟩ <;> first | (exact absurd h Bool.false_ne_true) | (simp [cS_hset] at h; done) | skip
    cases t <;> first | (exact absurd h Bool.false_ne_true) | (simp [cS_hset] at h; done) | skip
    simp only [cS_hset, Bool.and_eq_true] at h
    obtain ⟨⟨⟨⟨⟨h1, h2⟩, h3⟩, h4⟩, h5⟩, h6⟩ := h
    exact ds_hset (E.snd e X Wx _ Z.toStat tk h6) (E.snd o X Wx _ Z.toStat tk h4) (E.snd j X Wx _ Z.toStat tk h5) (asg_sub h1) (sole_ok h2) swap_sub rfl
def S.hset (o : E) (j : E) (e : E) : S := ⟨cS_hset o j e, fun M F => dHset (o.d F) (j.d F) (e.d F), sS_hset o j e⟩
@[simp] theorem rdS_hset (o : E) (j : E) (e : E) {M : Xm} {F : Fns} : (S.hset o j e).rd M F = dHset (o.d F) (j.d F) (e.d F) := rfl
def cS_pop (i : Nat) (j : Nat) (e : E) (M : Xm) (G : Gm) (N : List Str) (sc : Scope) (x0 : Stmt) : Bool := match x0 with
  | .Assign [.Name z _] (.Call (.Attribute (.Name y _) m ap) [x] [] cp) _ => decide (m = "pop") && decide (N[i]? = some y) && visB sc y && okN y && decide (N[j]? = some z) && locB sc z && noStar x && (ap.endLine == cp.line) && e.chk G N sc x
  | _ => false
theorem sS_pop (i : Nat) (j : Nat) (e : E) : SndS (cS_pop i j e) (fun M F => dPop i j (e.d F)) := by
    intro C M G F gd k X Wx st Z tk h
    cases st <;> first | (exact absurd h Bool.false_ne_true) | (simp [cS_pop] at h; done) | skip
    rename_i tgs v p
    rcases tgs with _ | ⟨t, _ | ⟨t2, tgs⟩⟩ <;> first | (exact absurd h Bool.false_ne_true) | (simp [cS_pop] at h; done) | skip
    cases t <;> first | (exact absurd h Bool.false_ne_true) | (simp [cS_pop] at h; done) | skip
    cases v <;> first | (exact absurd h Bool.false_ne_true) | (simp [cS_pop] at h; done) | skip
    rename_i fn args kws cp
    cases fn <;> first | (exact absurd h Bool.false_ne_true) | (simp [cS_pop] at h; done) | skip
    rename_i o mname ap
    cases o <;> first | (exact absurd h Bool.false_ne_true) | (simp [cS_pop] at h; done) | skip
    rcases args with _ | ⟨x, _ | ⟨x2, xs⟩⟩ <;> first | (exact absurd h Bool.false_ne_true) | (simp [cS_pop] at h; done) | skip
    rcases kws with _ | ⟨kw, kws⟩ <;> first | (exact absurd h Bool.false_ne_true) | (simp [cS_pop] at h; done) | skip
    simp only [cS_pop, Bool.and_eq_true, decide_eq_true_eq] at h
    obtain ⟨⟨⟨⟨⟨⟨⟨⟨rfl, h2⟩, h3⟩, h4⟩, h5⟩, h6⟩, h7⟩, h8⟩, h9⟩ := h
    exact ds_pop h2 (visB_ok h3) (okN_ok h4).1 (okN_ok h4).2.1 Z.nd h5 (locB_ok h6) (.inl (Z.fnA _)) (E.snd e X Wx _ Z.toStat tk h9) (star_ok h7) h8 (one_form h7) rfl rfl
def S.pop (i : Nat) (j : Nat) (e : E) : S := ⟨cS_pop i j e, fun M F => dPop i j (e.d F), sS_pop i j e⟩
@[simp] theorem rdS_pop (i : Nat) (j : Nat) (e : E) {M : Xm} {F : Fns} : (S.pop i j e).rd M F = dPop i j (e.d F) := rfl
def cS_setLc (_q0 : Bool) (i : Nat) (g : Tg) (src : Ic) (test : Oe) (elt : E) (own : List (Str × Nat)) (M : Xm) (G : Gm) (N : List Str) (sc : Scope) (x0 : Stmt) : Bool := match x0 with
  | .Assign [.Name y py] (.ListComp l [⟨t, it, ifs, as⟩] scope pos) _ => decide (as = 0) && decide (N[i]? = some y) && lcB sc y && (py.line == pos.line) && !(scope.names.any fun (n, k) => n == y && (k == .local || k == .cell)) && (!src.needT || tupE t) && src.chk G N sc it && noSet it && blkC N sc scope own &&
      g.chk true N (relS scope sc) t && test.chkT G.q N (relS scope sc) ifs && elt.chk G.q N (relS scope sc) l && (g.slots.all fun i => decide (i ∈ own.map (·.2)))
  | _ => false
theorem sS_setLc (o : Bool) (i : Nat) (g : Tg) (src : Ic) (test : Oe) (elt : E) (own : List (Str × Nat)) : SndS (cS_setLc o i g src test elt own) (fun M F => if o = true then dOwn i (dLc (src.d F) g (test.t F.q) (elt.d F.q) (own.map (·.2))) else dSet i (dLc (src.d F) g (test.t F.q) (elt.d F.q) (own.map (·.2)))) := by
    intro C M G F gd k X Wx st Z tk h
    cases st <;> first | (exact absurd h Bool.false_ne_true) | (simp [cS_setLc] at h; done) | skip
    rename_i tgs v p
    rcases tgs with _ | ⟨t, _ | ⟨t2, tgs⟩⟩ <;> first | (exact absurd h Bool.false_ne_true) | (simp [cS_setLc] at h; done) | skip
    cases t <;> first | (exact absurd h Bool.false_ne_true) | (simp [cS_setLc] at h; done) | skip
    rename_i y py
    cases v <;> first | (exact absurd h Bool.false_ne_true) | (simp [cS_setLc] at h; done) | skip
    rename_i l gs scope vp
    rcases gs with _ | ⟨⟨t, it, ifs, as⟩, _ | ⟨g2, gs⟩⟩ <;> first | (exact absurd h Bool.false_ne_true) | (simp [cS_setLc] at h; done) | skip
    simp only [cS_setLc] at h
    obtain ⟨h, g1⟩ := ba2 h
    obtain ⟨h, g2⟩ := ba2 h
    obtain ⟨h, g3⟩ := ba2 h
    obtain ⟨h, g4⟩ := ba2 h
    obtain ⟨h, g5⟩ := ba2 h
    obtain ⟨h, g6⟩ := ba2 h
    obtain ⟨h, g7⟩ := ba2 h
    obtain ⟨h, g12⟩ := ba2 h
    obtain ⟨h, g8⟩ := ba2 h
    obtain ⟨h, g9⟩ := ba2 h
    obtain ⟨h, g10⟩ := ba2 h
    obtain ⟨h, g11⟩ := ba2 h
    cases of_decide_eq_true h
    have hsw : swapsWith (.ListComp l [⟨t, it, ifs, 0⟩] scope vp) (some (.Name y py)) p.line X.env = pure true := by
      have hk : X.env.kindOf y = some .local := lcB_ok g10
      show (pure (X.env.blockKind == .function && X.env.kindOf y == some .local && py.line == vp.line && !(scope.names.any fun (n, k) => n == y && (k == .local || k == .cell))) : Sem Bool) = pure true
      rw [Z.blk, hk, g9, g8]
      rfl
    exact ds_setLc (own? := o) Z.calm Z.nd (of_decide_eq_true g11) (lcB_ok g10) hsw (Ic.snd src X Wx t it Z.toStat tk g12 g7) (blkOk_by g5)
      (fun s H A cl fp => Tg.snd (loc := true) (X := X.blk s H scope (compEnvC scope cl A X.env) fp) Z.hK Z.calm Z.nd (fun z => Bool.noConfusion z) g t g4)
      (fun s H A cl fp => Oe.sndT test _ ifs (Z.toStat.blk s H scope (compEnvC scope cl A X.env) fp) takesN g3)
      (fun s H A cl fp => E.snd elt _ noW l (Z.toStat.blk s H scope (compEnvC scope cl A X.env) fp) takesN g2) (fun i hi => of_decide_eq_true (List.all_eq_true.mp g1 i hi)) (noSet_ok g6)
def S.setLc (o : Bool) (i : Nat) (g : Tg) (src : Ic) (test : Oe) (elt : E) (own : List (Str × Nat)) : S := ⟨cS_setLc o i g src test elt own, fun M F => if o = true then dOwn i (dLc (src.d F) g (test.t F.q) (elt.d F.q) (own.map (·.2))) else dSet i (dLc (src.d F) g (test.t F.q) (elt.d F.q) (own.map (·.2))), sS_setLc o i g src test elt own⟩
@[simp] theorem rdS_setLc (o : Bool) (i : Nat) (g : Tg) (src : Ic) (test : Oe) (elt : E) (own : List (Str × Nat)) {M : Xm} {F : Fns} : (S.setLc o i g src test elt own).rd M F = if o = true then dOwn i (dLc (src.d F) g (test.t F.q) (elt.d F.q) (own.map (·.2))) else dSet i (dLc (src.d F) g (test.t F.q) (elt.d F.q) (own.map (·.2))) := rfl
def cS_ext (i : Nat) (e : E) (M : Xm) (G : Gm) (N : List Str) (sc : Scope) (x0 : Stmt) : Bool := match x0 with
  | .Expr (.Call (.Attribute (.Name y _) m ap) [x] [] cp) _ => decide (m = "extend") && decide (N[i]? = some y) && visB sc y && okN y && noStar x && (ap.endLine == cp.line) && e.chk G N sc x
  | _ => false
theorem sS_ext (i : Nat) (e : E) : SndS (cS_ext i e) (fun M F => dExt i (e.d F)) := by
    intro C M G F gd k X Wx st Z tk h
    cases st <;> first | (exact absurd h Bool.false_ne_true) | (simp [cS_ext] at h; done) | skip
    rename_i v p
    cases v <;> first | (exact absurd h Bool.false_ne_true) | (simp [cS_ext] at h; done) | skip
    rename_i fn args kws cp
    cases fn <;> first | (exact absurd h Bool.false_ne_true) | (simp [cS_ext] at h; done) | skip
    rename_i o mname ap
    cases o <;> first | (exact absurd h Bool.false_ne_true) | (simp [cS_ext] at h; done) | skip
    rcases args with _ | ⟨x, _ | ⟨x2, xs⟩⟩ <;> first | (exact absurd h Bool.false_ne_true) | (simp [cS_ext] at h; done) | skip
    rcases kws with _ | ⟨kw, kws⟩ <;> first | (exact absurd h Bool.false_ne_true) | (simp [cS_ext] at h; done) | skip
    simp only [cS_ext, Bool.and_eq_true, decide_eq_true_eq] at h
    obtain ⟨⟨⟨⟨⟨⟨rfl, h2⟩, h3⟩, h4⟩, h5⟩, h6⟩, h7⟩ := h
    exact ds_ext h2 (visB_ok h3) (okN_ok h4).1 (okN_ok h4).2.1 (E.snd e X Wx _ Z.toStat tk h7) (star_ok h5) h6 (one_form h5) rfl rfl
def S.ext (i : Nat) (e : E) : S := ⟨cS_ext i e, fun M F => dExt i (e.d F), sS_ext i e⟩
@[simp] theorem rdS_ext (i : Nat) (e : E) {M : Xm} {F : Fns} : (S.ext i e).rd M F = dExt i (e.d F) := rfl
def cS_raise (c : Nat) (m1 : Es) (M : Xm) (G : Gm) (N : List Str) (sc : Scope) (x0 : Stmt) : Bool := match m1, x0 with
  | .cons a es, .Raise (some (.Call (.Name x _) (l :: ls) [] _)) none _ => xnB M sc c x && M.rs c && noStar l && a.chk G N sc l && es.chk G N sc ls
  | _, _ => false
theorem sS_raise (c : Nat) (es : Es) : SndS (cS_raise c es) (fun M F => dRaise c (M.flds c) (es.d F)) := by
    intro C M G F gd k X Wx st Z tk h
    cases es with
    | nil => cases st <;> exact absurd h Bool.false_ne_true
    | cons a es =>
    cases st <;> first | (exact absurd h Bool.false_ne_true) | (simp [cS_raise] at h; done) | skip
    rename_i v cause p
    cases v <;> first | (exact absurd h Bool.false_ne_true) | (simp [cS_raise] at h; done) | skip
    rename_i v
    cases cause <;> first | (exact absurd h Bool.false_ne_true) | (simp [cS_raise] at h; done) | skip
    · cases v <;> first | (exact absurd h Bool.false_ne_true) | (simp [cS_raise] at h; done) | skip
      rename_i fn args kws cp
      cases fn <;> first | (exact absurd h Bool.false_ne_true) | (simp [cS_raise] at h; done) | skip
      rcases args with _ | ⟨x, xs⟩ <;> first | (exact absurd h Bool.false_ne_true) | (simp [cS_raise] at h; done) | skip
      rcases kws with _ | ⟨kw, kws⟩ <;> first | (exact absurd h Bool.false_ne_true) | (simp [cS_raise] at h; done) | skip
      simp only [cS_raise, Bool.and_eq_true] at h
      obtain ⟨⟨⟨⟨h1, h2⟩, h3⟩, h4⟩, h5⟩ := h
      obtain ⟨a1, a2, a3, a4⟩ := xnB_ok h1
      obtain ⟨⟨fI, zi⟩, hfl⟩ := Z.xmk c _ a1 h2
      exact ds_raise Z.calm tk (mkx_of zi (L2H.roomH_of (Z.room.mono Z.k1)) a3 (Z.xmg c _ a1) (okN_ok a4).1 hfl) (da_cons (E.snd a X Wx _ Z.toStat tk h4) (Es.snd es X Wx _ Z.toStat tk h5) (star_ok h3)) (star_ok h3) (any_ok h5)
def S.raise (c : Nat) (es : Es) : S := ⟨cS_raise c es, fun M F => dRaise c (M.flds c) (es.d F), sS_raise c es⟩
@[simp] theorem rdS_raise (c : Nat) (es : Es) {M : Xm} {F : Fns} : (S.raise c es).rd M F = dRaise c (M.flds c) (es.d F) := rfl
def cS_frz (_q0 : Nat) (s : S) (M : Xm) (G : Gm) (N : List Str) (sc : Scope) (x0 : Stmt) : Bool := match x0 with
  | st => s.chk M G N sc st
theorem sS_frz (i : Nat) (s : S) : SndS (cS_frz i s) (fun M F => dFrz i (s.d M F)) := by
    intro C M G F gd k X Wx st Z tk h
    refine ds_frz (S.snd s X Wx st Z tk ?_)
    simp only [cS_frz] at h
    exact h
def S.frz (i : Nat) (s : S) : S := ⟨cS_frz i s, fun M F => dFrz i (s.d M F), sS_frz i s⟩
@[simp] theorem rdS_frz (i : Nat) (s : S) {M : Xm} {F : Fns} : (S.frz i s).rd M F = dFrz i (s.d M F) := rfl
def cS_fzd (_q0 : Nat) (s : S) (M : Xm) (G : Gm) (N : List Str) (sc : Scope) (x0 : Stmt) : Bool := match x0 with
  | st => s.chk M G N sc st
theorem sS_fzd (i : Nat) (s : S) : SndS (cS_fzd i s) (fun M F => dFzd i (s.d M F)) := by
    intro C M G F gd k X Wx st Z tk h
    refine ds_fzd (S.snd s X Wx st Z tk ?_)
    simp only [cS_fzd] at h
    exact h
def S.fzd (i : Nat) (s : S) : S := ⟨cS_fzd i s, fun M F => dFzd i (s.d M F), sS_fzd i s⟩
@[simp] theorem rdS_fzd (i : Nat) (s : S) {M : Xm} {F : Fns} : (S.fzd i s).rd M F = dFzd i (s.d M F) := rfl
end DL
set_option maxHeartbeats 4000000
namespace DL
open PySem PySem.Spec PyProof.Rows L2
section
variable {X : Cx} {C : Cn} {Wx : WX}
end
end DL
set_option maxHeartbeats 8000000
namespace DL
open PySem PySem.Spec PyProof.Rows L2
section
variable {X : Cx} {C : Cn} {Wx : WX} {M : Xm}
open Classical in
end
end DL
set_option maxHeartbeats 4000000
namespace DL
open PySem PySem.Spec PyProof.Rows L2
section
variable {X : Cx} {C : Cn} {Wx : WX}
def Rg.shr (R : Rg) (a : Addr) : Rg := ⟨R.n + 1, fun i => if i = R.n then a else R.at_ i, R.fz⟩
theorem Rg.shr_lt {R : Rg} {a : Addr} {i : Nat} (h : i < R.n) : (R.shr a).at_ i = R.at_ i := if_neg (Nat.ne_of_lt h)
theorem Rg.shr_n {R : Rg} {a : Addr} : (R.shr a).at_ R.n = a := if_pos rfl
theorem Mo.shr {K : Fg} {R : Rg} {H : Hp} {a : Addr} : Mo K R H (R.shr a) H := ⟨Nat.le_succ _, fun _ hi => Rg.shr_lt hi, fun _ _ r => r, fun _ _ r => r, fun _ _ r => r, fun _ _ _ r => r⟩
theorem Env.shr {R : Rg} {ds : DSt} {σ : Sl} {H : Hp} {h : Hs} {xs : List D} {i : Nat} (e : Env C R ds σ H h) (hi : ds[i]? = some (some (.own xs))) :
    ∃ R', Env C R' (ds.set i (some (.d (.ref h.length)))) σ H (h ++ [.lst xs]) ∧ Mo C.K R H R' H := by
  obtain ⟨v, s1, a, vs, ev, q, nf, o, t⟩ := e.slot i _ hi
  subst ev
  have hl : i < ds.length := (List.getElem?_eq_some_iff.mp hi).1
  have h0 := e.own0 i xs a hi s1
  have m : Mo C.K R H (R.shr a) H := Mo.shr
  have hn := e.ok.len
  have ok : HOk' C.K C.Cl (R.shr a) H (h ++ [.lst xs]) := by
    refine ⟨by show (h ++ [O.lst xs]).length = R.n + 1; simp [hn], fun j o' hj => ?_, fun j k hj hk z => ?_, fun j hj z => ?_, e.ok.fzd, e.ok.tab⟩
    · by_cases hjl : j < h.length
      · rw [List.getElem?_append_left hjl] at hj
        obtain ⟨u, e1, r⟩ := e.ok.obj j o' hj
        exact ⟨u, by rw [Rg.shr_lt (by omega)]; exact e1, relO_mo m r⟩
      · have hb : j < (h ++ [O.lst xs]).length := (List.getElem?_eq_some_iff.mp hj).1
        have ej : j = h.length := by simp at hb; omega
        subst ej
        simp at hj
        subst hj
        refine ⟨.lst vs, by rw [hn, Rg.shr_n]; exact q, vs, rfl, relDs_mo m t⟩
    · have hj' : j < R.n + 1 := hj
      have hk' : k < R.n + 1 := hk
      by_cases ej : j = R.n
      · by_cases ek : k = R.n
        · omega
        · subst ej
          rw [Rg.shr_n, Rg.shr_lt (by omega)] at z
          exact absurd z.symm (o k (by omega))
      · by_cases ek : k = R.n
        · subst ek
          rw [Rg.shr_n, Rg.shr_lt (by omega)] at z
          exact absurd z (o j (by omega))
        · rw [Rg.shr_lt (by omega), Rg.shr_lt (by omega)] at z
          exact e.ok.inj j k (by omega) (by omega) z
    · have hj' : j < R.n + 1 := hj
      by_cases ej : j = R.n
      · subst ej
        rw [Rg.shr_n] at z
        exact nf z
      · rw [Rg.shr_lt (by omega)] at z
        exact e.ok.nfz j (by omega) z
  have ex : Ex C.R₀ C.H₀ (R.shr a) H := by
    refine ⟨Nat.le_trans e.ex.le (Nat.le_succ _), fun j hj => ?_, e.ex.fz, fun j hj hj2 => ?_, e.ex.nfz, e.ex.frm, e.ex.dom, e.ex.lk⟩
    · rw [Rg.shr_lt (Nat.lt_of_lt_of_le hj e.ex.le)]
      exact e.ex.at_ j hj
    · have hj2 : j < R.n + 1 := hj2
      by_cases ej : j = R.n
      · subst ej
        rw [Rg.shr_n]
        exact h0
      · rw [Rg.shr_lt (by omega)]
        exact e.ex.nat j hj (by omega)
  refine ⟨R.shr a, ⟨ok, ex, by simp [e.len], fun j w q1 => ?_, fun j zs q1 => ?_, fun j k zs ws b q1 t1 q2 t2 => ?_, fun j zs b q1 t1 => ?_⟩, m⟩
  · by_cases hj : j = i
    · subst hj
      rw [List.getElem?_set_self hl] at q1
      cases q1
      refine ⟨.ref a, s1, ?_⟩
      show RelD C.K (R.shr a) H (.ref h.length) (.ref a)
      unfold RelD
      exact ⟨by show h.length < R.n + 1; omega, by rw [hn, Rg.shr_n]⟩
    · rw [List.getElem?_set_ne (Ne.symm hj)] at q1
      obtain ⟨v2, s2, r2⟩ := e.slot j w q1
      refine ⟨v2, s2, ?_⟩
      cases w with
      | d y => exact relD_mo m r2
      | new zs => exact absurd q1 (e.nnew j zs)
      | fn _ => exact r2
      | own zs =>
        obtain ⟨b, ws, ev2, q2, nf2, o2, t2⟩ := r2
        subst ev2
        refine ⟨b, ws, rfl, q2, nf2, fun k hk z => ?_, relDs_mo m t2⟩
        have hk : k < R.n + 1 := hk
        by_cases ek : k = R.n
        · subst ek
          rw [Rg.shr_n] at z
          subst z
          exact hj (e.own j i zs xs a q1 s2 hi s1)
        · rw [Rg.shr_lt (by omega)] at z
          exact o2 k (by omega) z
  · by_cases hj : j = i
    · subst hj; rw [List.getElem?_set_self hl] at q1; cases q1
    · rw [List.getElem?_set_ne (Ne.symm hj)] at q1; exact e.nnew j zs q1
  · by_cases hj : j = i
    · subst hj; rw [List.getElem?_set_self hl] at q1; cases q1
    by_cases hk : k = i
    · subst hk; rw [List.getElem?_set_self hl] at q2; cases q2
    rw [List.getElem?_set_ne (Ne.symm hj)] at q1
    rw [List.getElem?_set_ne (Ne.symm hk)] at q2
    exact e.own j k zs ws b q1 t1 q2 t2
  · by_cases hj : j = i
    · subst hj; rw [List.getElem?_set_self hl] at q1; cases q1
    · rw [List.getElem?_set_ne (Ne.symm hj)] at q1; exact e.own0 j zs b q1 t1
/-- an own list becomes a shared object, ahead of a statement -/
def dShr (i : Nat) (t : TDS) : TDS := fun ds h P => ∃ xs, ds[i]? = some (some (.own xs)) ∧ t (ds.set i (some (.d (.ref h.length)))) (h ++ [.lst xs]) P
theorem ds_shr {i : Nat} {st : Stmt} {t : TDS} (hs : PS X st (liftS C Wx t)) : PS X st (liftS C Wx (dShr i t)) := hs.imD fun D σ H q => by
  obtain ⟨R, ds, h, P, e, ⟨xs, hi, p⟩, k⟩ := q
  obtain ⟨R', e', m⟩ := e.shr hi
  exact ⟨R', _, _, P, e', p, k.later m⟩
end
def cS_shr (_q0 : Nat) (s : S) (M : Xm) (G : Gm) (N : List Str) (sc : Scope) (x0 : Stmt) : Bool := match x0 with
  | st => s.chk M G N sc st
theorem sS_shr (i : Nat) (s : S) : SndS (cS_shr i s) (fun M F => dShr i (s.d M F)) := by
    intro C M G F gd k X Wx st Z tk h
    refine ds_shr (S.snd s X Wx st Z tk ?_)
    simp only [cS_shr] at h
    exact h
def S.shr (i : Nat) (s : S) : S := ⟨cS_shr i s, fun M F => dShr i (s.d M F), sS_shr i s⟩
@[simp] theorem rdS_shr (i : Nat) (s : S) {M : Xm} {F : Fns} : (S.shr i s).rd M F = dShr i (s.d M F) := rfl
section
variable {X : Cx} {C : Cn} {Wx : WX}
end
end DL
set_option maxHeartbeats 4000000
namespace DL
open PySem PySem.Spec PyProof.Rows L2
section
variable {X : Cx} {C : Cn} {Wx : WX}
end
end DL
set_option maxHeartbeats 4000000
namespace L2
open PySem PySem.Spec PyProof.Rows
def mergeT (acc : List (List Key × V)) (kvs : List (List Key × V)) : List (List Key × V) := kvs.foldl (fun acc p => putK acc p.1 p.2) acc
section
variable {X : Cx}
theorem KT.all {H : Hp} : ∀ {kvs : List (List Key × V)} {xs : List (List Key × Addr × Value)} {acc : List (List Key × V)} {acs : List (List Key × Addr × Value)}, KT H kvs xs → KT H acc acs → KT H (mergeT acc kvs) (storedAllH acs xs)
  | _, _, _, _, .nil, r => r
  | _, _, acc, acs, .cons (a := p) (b := q) h t, r => by
    obtain ⟨e, hb, rv⟩ := h
    have := KT.all t (r.put p.1 hb rv)
    show KT H (mergeT (putK acc p.1 p.2) _) (storedAllH (storedH acs q.1 q.2.1 q.2.2) _)
    rw [← e]
    exact this
end
end L2
namespace DL
open PySem PySem.Spec PyProof.Rows L2
section
variable {K : Fg} {R : Rg} {H : Hp}
end
section
variable {X : Cx} {C : Cn} {Wx : WX}
end
end DL
set_option maxHeartbeats 4000000
namespace DL
open PySem PySem.Spec PyProof.Rows L2
section
variable {X : Cx} {C : Cn} {Wx : WX}
/-- a.split(b) -/
def dSpl (ta tb : TDE) : TDE := fun ds h P Z => ta ds h (fun x h1 => (∃ a, x = .d (.str a)) ∧ tb ds h1 (fun y h2 => ∃ a b, x = .d (.str a) ∧ y = .d (.str b) ∧ (b.length == 0) = false ∧ a.length + 2 ≤ sizeLine ∧ P (.new ((Txt.split a b).map D.str)) h2) Z) Z
theorem de_spl {o b : Expr} {ta tb : TDE} {apos pos : Pos} (ha : PE X o (lift C Wx ta)) (hb : PE X b (lift C Wx tb)) (hs : starEach [b] X.env = [(false, eval b X.env)]) (hbase : attributeBase o "split" X.env (eval o X.env) = eval o X.env) (hline : (apos.endLine == pos.line) = true) :
    PE X (.Call (.Attribute o "split" apos) [b] [] pos) (lift C Wx (dSpl ta tb)) :=
  (pe_split ha hb hs hbase hline).imD fun σ H Q q => by
    obtain ⟨R, ds, h, P, Z, e, p, kk, z⟩ := q
    refine ⟨R, ds, h, _, Z, e, p, fun R1 H1 h1 w1 v1 ⟨⟨a, ex⟩, p1⟩ x1 e1 r1 => ?_, z⟩
    subst ex
    cases rw_str r1
    refine ⟨⟨_, rfl⟩, R1, ds, h1, _, Z, e1, p1, fun R2 H2 h2 w2 v2 ⟨a', y, ea, ey, b1, b2, p2⟩ x2 e2 r2 => ?_, fun R' H' h' x cls dd a b c d => z R' H' h' x cls dd a (x1.trans b) c d⟩
    cases ea
    subst ey
    cases rw_str r2
    exact ⟨_, _, rfl, rfl, b1, b2, fun l nl => kk R2 _ h2 _ _ p2 ((x1.trans x2).trans (Ex.fresh nl)) (e2.fresh nl) (m_new e2 (x1.trans x2) nl (relDs_mkstrs id _))⟩
/-- x.insert(a, b) as a statement, x an own list -/
def dIns (i : Nat) (ta tb : TDE) : TDS := fun ds h P => ∃ xs, ds[i]? = some (some (.own xs)) ∧ xs.length < sizeLine ∧ dD ta ds h (fun w h1 => ∃ k : Nat, w = .int k ∧ (k : Int) < 2 ^ 63 ∧ dD tb ds h1 (fun d h2 => P.nx (ds.set i (some (.own (xs.take k ++ [d] ++ xs.drop k)))) h2) (fun x h' => P.ex x ds h')) (fun x h' => P.ex x ds h')
theorem ds_ins {i : Nat} {x : Str} {e f : Expr} {t u : TDE} {p1 apos cpos pos : Pos} (hN : X.N[i]? = some x) (hv : Vis X.env.scope x) (hd : (x == ("__debug__" : Str)) = false) (hcd : (x == ("__classdict__" : Str)) = false) (he : PE X e (lift C Wx t)) (hf : PE X f (lift C Wx u))
    (hs : starEach (e :: [f]) X.env = (false, eval e X.env) :: starEach [f] X.env) (hs2 : starEach [f] X.env = (false, eval f X.env) :: starEach [] X.env) (hline : (apos.endLine == cpos.line) = true) (hpl : (((backTo cpos (starEach (e :: [f]) X.env)).all (fun x => !x.1) && (backToKw cpos (keywordEach [] X.env)).all fun x => x.1.isSome) && decide (((e :: [f]).length + ([] : List Keyword).length + if ([] : List Keyword).isEmpty = true then 0 else 1) < 30)) = true)
    (hpl2 : (backTo cpos (starEach [f] X.env)).any (·.1) = false)
    (hb : attributeBase (.Name x p1) "insert" X.env (eval (.Name x p1) X.env) = eval (.Name x p1) X.env)
    (hsw : swapsWith (.Call (.Attribute (.Name x p1) "insert" apos) [e, f] [] cpos) none pos.line X.env = pure false) :
    PS X (.Expr (.Call (.Attribute (.Name x p1) "insert" apos) [e, f] [] cpos) pos) (liftS C Wx (dIns i t u)) :=
  (ps_expr (pe_bm PySem.F.plainAttrs_list PySem.F.slot_list_insert PySem.F.type_list_insert mt_insert (pe_var hN hv hd hcd) (pa_cons (pe_D he) (pa_cons (pe_D hf) pa_nil hs2) hs) hb hpl hline hs hpl2) hsw).imD fun D σ H q => by
    obtain ⟨R, ds, h, P, e, ⟨xs, hi, hl, p⟩, k⟩ := q
    obtain ⟨v, hv, a, vs, rfl, q, nf, o, tt⟩ := e.slot i _ hi
    refine ⟨.ref a, hv, .inl ⟨rfl, vs, .inl (.inl q)⟩, R, ds, h, _, _, e, p, fun R1 H1 h1 w u ⟨n, hw, hn, p'⟩ x1 e1 r1 => ?_, k.exE e⟩
    subst hw
    cases r_int r1
    refine ⟨R1, ds, h1, _, _, e1, p', fun R2 H2 h2 d u2 p2 x2 e2 r2 => ?_, (k.later (x1.mo e.ok)).exE e1⟩
    have rs := e2.relW hi hv
    obtain ⟨a', vs', ea, q', nf', o', tt'⟩ := rs
    cases ea
    obtain ⟨e3, m3⟩ := e2.wr hi hv (relDs_append (relDs_append (relDs_take n tt') (relDs_one r2)) (relDs_drop n tt'))
    exact ⟨a, vs', (n : Int), u2, rfl, rfl, q', by rw [← relDs_len tt']; exact hl, Int.natCast_nonneg n, hn, k.nx R2 _ σ _ h2 e3 (((x1.trans x2).mo e.ok).trans m3) p2⟩
/-- a starred item ahead of others -/
def dStarC (t : TDE) (u : TDA) : TDA := fun ds h P Z => t ds h (fun w h1 => ∃ xs, seqW w = some xs ∧ u ds h1 (fun ys h2 => P (xs ++ ys) h2) Z) Z
theorem da_starC {e : Expr} {es : List Expr} {t : TDE} {u : TDA} {p : Pos} (hK : C.K = X.K) (he : PE X e (lift C Wx t)) (hr : PA X es (liftA C Wx u)) : PA X (.Starred e p :: es) (liftA C Wx (dStarC t u)) :=
  (StX.pa_star he hr).imD fun σ H Q q => by
    obtain ⟨R, ds, h, P, Z, e, p, k, z⟩ := q
    refine ⟨R, ds, h, _, Z, e, p, fun R1 H1 h1 w1 v1 ⟨xs, hx, p1⟩ x1 e1 r1 => ?_, z⟩
    obtain ⟨a, vs, rfl, q, t⟩ := rel_seq r1 hx
    refine ⟨a, vs, rfl, hK ▸ q.symm, R1, ds, h1, _, Z, e1, p1, fun R2 H2 h2 ys us p2 x2 e2 r2 => ?_, fun R' H' h' x cls dd a b c d => z R' H' h' x cls dd a (x1.trans b) c d⟩
    exact k R2 H2 h2 _ _ p2 (x1.trans x2) e2 (relDs_append (relDs_ex e1.ok x2 t) r2)
end
end DL
namespace L2
open PySem PySem.Spec PyProof.Rows
section
variable {X : Cx}
end
end L2
namespace DL
open PySem PySem.Spec PyProof.Rows L2
section
variable {X : Cx} {C : Cn} {Wx : WX}
end
end DL
namespace DL
open PySem PySem.Spec PyProof.Rows L2
def cE_spl (a : E) (b : E) (G : Gm) (N : List Str) (sc : Scope) (x0 : Expr) : Bool := match x0 with
  | .Call (.Attribute l m ap) [r] [] cp => decide (m = "split") && (ap.endLine == cp.line) && noC0 l && noStar r && a.chk G N sc l && b.chk G N sc r
  | _ => false
theorem sE_spl (a : E) (b : E) : SndE (cE_spl a b) (fun F => dSpl (a.d F) (b.d F)) := by
    intro C G F gd kq X Wx e S tk h
    cases e <;> first | (exact absurd h Bool.false_ne_true) | skip
    rename_i f ls kw p
    cases f <;> rcases ls with _ | ⟨r, _ | ⟨r2, ls⟩⟩ <;> rcases kw with _ | ⟨k1, kw⟩ <;> first | (exact absurd h Bool.false_ne_true) | skip
    simp only [cE_spl] at h
    obtain ⟨h, g1⟩ := ba2 h
    obtain ⟨h, g2⟩ := ba2 h
    obtain ⟨h, g3⟩ := ba2 h
    obtain ⟨h, g4⟩ := ba2 h
    obtain ⟨g6, g5⟩ := ba2 h
    cases of_decide_eq_true g6
    exact de_spl (E.snd a X Wx _ S tk g2) (E.snd b X Wx r S tk g1) (star_ok g3) (base_ok g4) g5
def E.spl (a : E) (b : E) : E := ⟨cE_spl a b, fun F => dSpl (a.d F) (b.d F), fun _ _ _ _ _ => False, sE_spl a b, noT⟩
@[simp] theorem rdE_spl (a : E) (b : E) {F : Fns} : (E.spl a b).rd F = dSpl (a.d F) (b.d F) := rfl
@[simp] theorem rtE_spl (a : E) (b : E) {F : Fns} : (E.spl a b).rt F = (fun _ _ _ _ => False) := rfl
def starD (F : Fns) : List (Bool × E) → TDA
  | [] => dNil
  | (true, e) :: r => dStarC (e.d F) (starD F r)
  | (false, e) :: r => dCons (e.d F) (starD F r)
def starB (G : Gm) (N : List Str) (sc : Scope) : List (Bool × E) → List Expr → Bool
  | [], [] => true
  | (true, e) :: r, .Starred x _ :: ls => e.chk G N sc x && starB G N sc r ls
  | (false, e) :: r, x :: ls => noStar x && e.chk G N sc x && starB G N sc r ls
  | _, _ => false
theorem st_snd {C : Cn} {G : Gm} {F : Fns} {gd : Bool} {k : Nat} {X : Cx} {Wx : WX} (S : Stat G F C gd k X) (tk : Takes X Wx) : ∀ (l : List (Bool × E)) (ls : List Expr), starB G X.N X.env.scope l ls = true → PA X ls (liftA C Wx (starD F l))
  | [], [], _ => da_nil
  | [], _ :: _, h => by simp [starB] at h
  | (true, e) :: r, [], h => by simp [starB] at h
  | (false, e) :: r, [], h => by simp [starB] at h
  | (true, e) :: r, x :: ls, h => by
    cases x <;> first | (simp [starB] at h; done) | skip
    unfold starB at h
    obtain ⟨h1, h2⟩ := ba2 h
    exact da_starC S.hK (E.snd e X Wx _ S tk h1) (st_snd S tk r ls h2)
  | (false, e) :: r, x :: ls, h => by
    unfold starB at h
    obtain ⟨h, h2⟩ := ba2 h
    obtain ⟨h0, h1⟩ := ba2 h
    exact da_cons (E.snd e X Wx x S tk h1) (st_snd S tk r ls h2) (star_ok h0)
def cE_tupM (l : List (Bool × E)) (G : Gm) (N : List Str) (sc : Scope) (x0 : Expr) : Bool := match x0 with
  | .Tuple ls _ _ => starB G N sc l ls
  | _ => false
theorem sE_tupM (l : List (Bool × E)) : SndE (cE_tupM l) (fun F => dTup (starD F l)) := by
    intro C G F gd k X Wx e S tk h
    cases e <;> first | (exact absurd h Bool.false_ne_true) | skip
    exact de_tup (st_snd S tk l _ h)
def E.tupM (l : List (Bool × E)) : E := ⟨cE_tupM l, fun F => dTup (starD F l), fun _ _ _ _ _ => False, sE_tupM l, noT⟩
@[simp] theorem rdE_tupM (l : List (Bool × E)) {F : Fns} : (E.tupM l).rd F = dTup (starD F l) := rfl
@[simp] theorem rtE_tupM (l : List (Bool × E)) {F : Fns} : (E.tupM l).rt F = (fun _ _ _ _ => False) := rfl
end DL
namespace DL
open PySem PySem.Spec PyProof.Rows L2
theorem two_form {e f : Expr} {cp : Pos} {env : PySem.Env} (h : noStar e = true) (h2 : noStar f = true) : (((backTo cp (starEach (e :: [f]) env)).all (fun x => !x.1) && (backToKw cp (keywordEach [] env)).all fun x => x.1.isSome) && decide (((e :: [f]).length + ([] : List Keyword).length + if ([] : List Keyword).isEmpty = true then 0 else 1) < 30)) = true := by
  rw [star_ok h, star_ok h2]; rfl
theorem one_any {f : Expr} {cp : Pos} {env : PySem.Env} (h2 : noStar f = true) : (backTo cp (starEach [f] env)).any (·.1) = false := by
  rw [star_ok h2]; rfl
def cS_ins (i : Nat) (a b : E) (M : Xm) (G : Gm) (N : List Str) (sc : Scope) (x0 : Stmt) : Bool := match x0 with
  | .Expr (.Call (.Attribute (.Name y _) m ap) [x, z] [] cp) _ => decide (m = "insert") && decide (N[i]? = some y) && visB sc y && okN y && noStar x && noStar z && (ap.endLine == cp.line) && a.chk G N sc x && b.chk G N sc z
  | _ => false
theorem sS_ins (i : Nat) (a b : E) : SndS (cS_ins i a b) (fun M F => dIns i (a.d F) (b.d F)) := by
    intro C M G F gd k X Wx st Z tk h
    cases st <;> first | (exact absurd h Bool.false_ne_true) | (simp [cS_ins] at h; done) | skip
    rename_i v p
    cases v <;> first | (exact absurd h Bool.false_ne_true) | (simp [cS_ins] at h; done) | skip
    rename_i fn args kws cp
    cases fn <;> first | (exact absurd h Bool.false_ne_true) | (simp [cS_ins] at h; done) | skip
    rename_i o mname ap
    cases o <;> first | (exact absurd h Bool.false_ne_true) | (simp [cS_ins] at h; done) | skip
    rcases args with _ | ⟨x, _ | ⟨z, _ | ⟨x3, xs⟩⟩⟩ <;> first | (exact absurd h Bool.false_ne_true) | (simp [cS_ins] at h; done) | skip
    rcases kws with _ | ⟨kw, kws⟩ <;> first | (exact absurd h Bool.false_ne_true) | (simp [cS_ins] at h; done) | skip
    simp only [cS_ins, Bool.and_eq_true, decide_eq_true_eq] at h
    obtain ⟨⟨⟨⟨⟨⟨⟨⟨rfl, h2⟩, h3⟩, h4⟩, h5⟩, h6⟩, h7⟩, h8⟩, h9⟩ := h
    exact ds_ins h2 (visB_ok h3) (okN_ok h4).1 (okN_ok h4).2.1 (E.snd a X Wx _ Z.toStat tk h8) (E.snd b X Wx _ Z.toStat tk h9) (star_ok h5) (star_ok h6) h7 (two_form h5 h6) (one_any h6) rfl rfl
def S.ins (i : Nat) (a b : E) : S := ⟨cS_ins i a b, fun M F => dIns i (a.d F) (b.d F), sS_ins i a b⟩
@[simp] theorem rdS_ins (i : Nat) (a b : E) {M : Xm} {F : Fns} : (S.ins i a b).rd M F = dIns i (a.d F) (b.d F) := rfl
end DL
set_option maxHeartbeats 8000000
namespace DL
open PySem PySem.Spec PyProof.Rows L2
/-- x in y: data of any kind in a list or tuple of data -/
def wInA (neg : Bool) (x y : W) (Q : W → Prop) : Prop := ∃ d ds, pyW x = some d ∧ (pyW y = some (.list ds) ∨ pyW y = some (.tuple ds)) ∧ SeqAt.shaped d = true ∧ SeqAt.shaped (.list ds) = true ∧ SeqAt.shaped (.tuple ds) = true ∧
  Q (.d (.bl (if neg then !(ds.any fun z => PyData.eqv z d) else ds.any fun z => PyData.eqv z d)))
section
variable {X : Cx} {C : Cn} {Wx : WX}
def rInA (K : Fg) (neg : Bool) : R2 := fun x y H Q => ∃ d ds, Dp K H x d ∧ (Dp K H y (.list ds) ∨ Dp K H y (.tuple ds)) ∧ SeqAt.shaped d = true ∧ SeqAt.shaped (.list ds) = true ∧ SeqAt.shaped (.tuple ds) = true ∧
  Q (.bl (if neg then !(ds.any fun z => PyData.eqv z d) else ds.any fun z => PyData.eqv z d)) H
def inOp (neg : Bool) : CmpOp := if neg then .NotIn else .In
theorem op_inA (neg : Bool) (hu : X.A.units + 65 < cLine) : OpR X (compareOp (inOp neg)) (rInA X.K neg) := by
  intro pins s σ H x y v u Q I rx ry h
  obtain ⟨d, ds, hd, he, sd, sl, st, q⟩ := h
  obtain ⟨as, r1⟩ := Dp.reads I d x v hd rx
  rcases he with he | he
  · obtain ⟨bs, r2⟩ := Dp.reads I (.list ds) y u he ry
    cases neg with
    | true => exact SeqAt.notIn_list_reads r2 r1 (SeqAt.canLay_of_shaped sl) (SeqAt.canLay_of_shaped sd) (room_in_shaped sd hu) ⟨.bl _, H, I, rfl, q⟩
    | false => exact SeqAt.in_list_reads r2 r1 (SeqAt.canLay_of_shaped sl) (SeqAt.canLay_of_shaped sd) (room_in_shaped sd hu) ⟨.bl _, H, I, rfl, q⟩
  · obtain ⟨bs, r2⟩ := Dp.reads I (.tuple ds) y u he ry
    cases neg with
    | true => exact SeqAt.notIn_tuple_reads r2 r1 (SeqAt.canLay_of_shaped sl) (SeqAt.canLay_of_shaped sd) (room_in_shaped sd hu) ⟨.bl _, H, I, rfl, q⟩
    | false => exact SeqAt.in_tuple_reads r2 r1 (SeqAt.canLay_of_shaped sl) (SeqAt.canLay_of_shaped sd) (room_in_shaped sd hu) ⟨.bl _, H, I, rfl, q⟩
theorem de_inA {a b : Expr} {ta tb : TDE} {pos : Pos} (neg : Bool) (hK : C.K = X.K) (hu : X.A.units + 65 < cLine) (hm : behindInMarks (inOp neg) b = false) (ha : PE X a (lift C Wx ta)) (hb : PE X b (lift C Wx tb)) :
    PE X (.Compare a [inOp neg] [b] pos) (lift C Wx (dOp2 (wInA neg) ta tb)) :=
  (pe_cmpR (op_inA neg hu) ha hb hm).imD fun σ H Q q => op2 (fun R ds σ H h R0 H0 x y v u Pw Q e ex _ rx ry p k => by
    obtain ⟨d, es, e1, e2, s1, s2, s3, p⟩ := p
    rw [← hK]
    exact ⟨d, es, dpW_of rx e1, e2.imp (dpW_of ry) (dpW_of ry), s1, s2, s3, k R H _ _ p (Ex.refl _ _) e mw_bl⟩) q
def dInAT (neg : Bool) (ta tb : TDE) : TDT := fun ds h P Z => ta ds h (fun x h1 => tb ds h1 (fun y h2 => ∃ d es, pyW x = some d ∧ (pyW y = some (.list es) ∨ pyW y = some (.tuple es)) ∧ SeqAt.shaped d = true ∧ SeqAt.shaped (.list es) = true ∧ SeqAt.shaped (.tuple es) = true ∧
  P (if neg then !(es.any fun z => PyData.eqv z d) else es.any fun z => PyData.eqv z d) h2) Z) Z
theorem dt_inA {a b : Expr} {ta tb : TDE} {pos : Pos} (neg : Bool) (hK : C.K = X.K) (hu : X.A.units + 65 < cLine) (hm : behindInMarks (inOp neg) b = false) (ha : PE X a (lift C Wx ta)) (hb : PE X b (lift C Wx tb)) :
    PT X (.Compare a [inOp neg] [b] pos) (liftT C Wx (dInAT neg ta tb)) :=
  (pt_cmpR (op_inA neg hu) ha hb hm).imD fun σ H Q q => by
    obtain ⟨R, ds, h, P, Z, e, p, k, z⟩ := q
    refine ⟨R, ds, h, _, Z, e, p, fun R1 H1 h1 w1 v1 p1 x1 e1 r1 => ?_, z⟩
    refine ⟨R1, ds, h1, _, Z, e1, p1, fun R2 H2 h2 w2 v2 ⟨d, es, g1, g2, s1, s2, s3, p2⟩ x2 e2 r2 => ?_, fun R' H' h' x cls dd a b c d => z R' H' h' x cls dd a (x1.trans b) c d⟩
    rw [← hK]
    exact ⟨d, es, dpW_of (relW_ex e1.ok x2 r1) g1, g2.imp (dpW_of r2) (dpW_of r2), s1, s2, s3, _, rfl, k R2 H2 h2 _ p2 (x1.trans x2) e2⟩
end
def cE_inA (neg : Bool) (a b : E) (G : Gm) (N : List Str) (sc : Scope) (x0 : Expr) : Bool := match x0 with
  | .Compare l [.In] [r] _ => !neg && noSet r && a.chk G N sc l && b.chk G N sc r
  | .Compare l [.NotIn] [r] _ => neg && noSet r && a.chk G N sc l && b.chk G N sc r
  | _ => false
theorem sE_inA (neg : Bool) (a b : E) : SndE (cE_inA neg a b) (fun F => dOp2 (wInA neg) (a.d F) (b.d F)) := by
    intro C G F gd k X Wx e S tk h
    unfold cE_inA at h
    split at h
    · simp only [Bool.and_eq_true, Bool.not_eq_true'] at h
      obtain ⟨⟨⟨hn, h4⟩, h3⟩, h2⟩ := h
      subst hn
      exact de_inA false S.hK S.units (nomk h4) (E.snd a X Wx _ S tk h3) (E.snd b X Wx _ S tk h2)
    · simp only [Bool.and_eq_true] at h
      obtain ⟨⟨⟨hn, h4⟩, h3⟩, h2⟩ := h
      subst hn
      exact de_inA true S.hK S.units (nomk h4) (E.snd a X Wx _ S tk h3) (E.snd b X Wx _ S tk h2)
    · cases h
theorem uE_inA (neg : Bool) (a b : E) : SndT (cE_inA neg a b) (fun F => dInAT neg (a.d F) (b.d F)) := by
    intro C G F gd k X Wx e S tk h
    unfold cE_inA at h
    split at h
    · simp only [Bool.and_eq_true, Bool.not_eq_true'] at h
      obtain ⟨⟨⟨hn, h4⟩, h3⟩, h2⟩ := h
      subst hn
      exact dt_inA false S.hK S.units (nomk h4) (E.snd a X Wx _ S tk h3) (E.snd b X Wx _ S tk h2)
    · simp only [Bool.and_eq_true] at h
      obtain ⟨⟨⟨hn, h4⟩, h3⟩, h2⟩ := h
      subst hn
      exact dt_inA true S.hK S.units (nomk h4) (E.snd a X Wx _ S tk h3) (E.snd b X Wx _ S tk h2)
    · cases h
def E.inA (neg : Bool) (a b : E) : E := ⟨cE_inA neg a b, fun F => dOp2 (wInA neg) (a.d F) (b.d F), fun F => dInAT neg (a.d F) (b.d F), sE_inA neg a b, uE_inA neg a b⟩
@[simp] theorem rdE_inA (neg : Bool) (a b : E) {F : Fns} : (E.inA neg a b).rd F = dOp2 (wInA neg) (a.d F) (b.d F) := rfl
@[simp] theorem rtE_inA (neg : Bool) (a b : E) {F : Fns} : (E.inA neg a b).rt F = dInAT neg (a.d F) (b.d F) := rfl
end DL
set_option maxHeartbeats 8000000
namespace DL
open PySem PySem.Spec PyProof.Rows L2
section
variable {prog : Program} {w : World} {A : Around} {E : Value → Shared → Prop} {s : Shared}
theorem adjust_rev (n : Nat) : Builtin.Slice.sliceAdjust none none (-1) (n : Int) = ((n : Int) - 1, -1) := by
  unfold Builtin.Slice.sliceAdjust
  simp
theorem places_rev (n : Nat) : Builtin.Slice.slicePlaces ((n : Int) - 1) (-1) (-1) = n := by
  unfold Builtin.Slice.slicePlaces
  simp
  omega
theorem pick_revU (xs : List Value) : ((List.range xs.length).filterMap fun (m : Nat) => xs.toArray[(((xs.length : Int) - 1) + (m : Int) * (-1)).toNat]?) = xs.reverse := by
  have e : ∀ m ∈ List.range xs.length, (fun (m : Nat) => xs.toArray[(((xs.length : Int) - 1) + (m : Int) * (-1)).toNat]?) m = some (xs.reverse.getD m .none) := fun m hm => by
    have hm := List.mem_range.mp hm
    have : (((xs.length : Int) - 1) + (m : Int) * (-1)).toNat = xs.length - 1 - m := by omega
    have h2 : xs.length - 1 - m < xs.length := by omega
    simp only [this, List.getElem?_toArray, List.getElem?_eq_getElem h2]
    rw [List.getD_eq_getElem?_getD, List.getElem?_eq_getElem (by simpa using hm)]
    simp
  have : (List.range xs.length).filterMap (fun (m : Nat) => xs.toArray[(((xs.length : Int) - 1) + (m : Int) * (-1)).toNat]?) = (List.range xs.length).map fun m => xs.reverse.getD m .none := by
    generalize List.range xs.length = l at e ⊢
    induction l with
    | nil => rfl
    | cons m l ih =>
      have em : xs.toArray[(((xs.length : Int) - 1) + (m : Int) * (-1)).toNat]? = some (xs.reverse.getD m .none) := e m (by simp)
      rw [List.filterMap_cons, em, List.map_cons, ih fun y hy => e y (List.mem_cons_of_mem _ hy)]
  rw [this]
  refine List.ext_getElem (by simp) fun i h1 h2 => ?_
  simp at h1
  simp [h1]
theorem getItem_tuple_rev {t sl : Addr} {items : List Value} {vl vu vs : Value} {Q : Value → Shared → Prop} (ht : IsTup s.heap t items.toArray) (hs : s.heap.IsSliceOf sl vl vu vs) (pl : IsPart vl none) (pu : IsPart vu none) (ps : IsPart vs (some (-1))) 
    (h : Q (.ref s.heap.objs.size) { s with heap := s.heap.push { cls := .type "tuple", data := .seq items.reverse.toArray } })
    (hsz : items.length ≤ sizeLine) : wpAny (model prog w) A (getItem (.ref t) (.ref sl)) Q E s := by
  have hsz2 : sizeOk (.seq items.reverse.toArray) := by
    show items.reverse.toArray.size ≤ sizeLine
    rw [List.size_toArray, List.length_reverse]
    exact hsz
  obtain ⟨os, hos, hcs, hds⟩ := id hs
  have hTs : s.TypeIs (.ref sl) "slice" := ⟨os, hos, hcs⟩
  unfold getItem
  try with_reducible refine wpAny_holding ?_
  first | refine wpAny_bind (wpAny_pure ?_) | skip
  refine wpAny_bind (wpAny_sequenceKey ht.typeIs (by decide) ?_)
  refine wpAny_bind (wpAny_callSpecial?_slot (name := Str.ofString "__getitem__") ht.typeIs PyProof.Rows.slot_tuple_getitem
    (wpAny_call_entry PyProof.Rows.slot_tuple_getitem ht.typeIs entry_tuple_getitem ?_ (args_tuple_getitem _ _)))
  show wpAny _ _ (Builtin.Tuple.tupleItemsOf (.ref t) >>= _) _ _ s
  refine wpAny_bind (tupleItemsOf_ ht ?_)
  refine wpAny_bind (wpAny_typeOf hTs ?_)
  rw [if_pos (by decide)]
  refine wpAny_bind ?_
  · unfold Builtin.Slice.sliceApplied Builtin.Slice.sliceFields
    refine wpAny_bind (wpAny_bind (wpAny_field hos hds (x := vl) rfl (wpAny_bind (wpAny_field hos hds (x := vu) rfl (wpAny_bind (wpAny_field hos hds (x := vs) rfl (wpAny_pure ?_)))))))
    refine wpAny_bind (HT.slicePart_ ps ?_)
    show wpAny _ _ (if ((-1 : Int) == 0) = true then _ else _) _ _ s
    rw [if_neg (by decide)]
    refine wpAny_bind (HT.slicePart_ pl (wpAny_bind (HT.slicePart_ pu (wpAny_bind (wpAny_pure ?_)))))
    have en : (items.toArray.size : Int) = (items.length : Int) := by simp
    show wpAny _ _ (match Builtin.Slice.sliceAdjust none none (-1) (items.toArray.size : Int) with | (lo, hi) => pure (lo, (-1 : Int), Builtin.Slice.slicePlaces lo hi (-1))) _ _ s
    rw [en, adjust_rev]
    show wpAny _ _ (pure (((items.length : Int) - 1), (-1 : Int), Builtin.Slice.slicePlaces ((items.length : Int) - 1) (-1) (-1))) _ _ s
    rw [places_rev]
    refine wpAny_pure ?_
    show wpAny _ _ (if (((items.length : Int) - 1) == 0 && (-1 : Int) == 1 && items.length == items.toArray.size) = true then _ else _) _ _ s
    rw [if_neg (by simp), pick_revU]
    first
      | exact wpAny_bind (m := Builtin.Tuple.tupleExact _) (wpAny_newObj_type (wpAny_pure ⟨_, rfl, wpAny_pure h⟩) hsz2)
      | exact wpAny_bind (m := Builtin.Tuple.tupleExact _) (wpAny_newObj_type (wpAny_bind (wpAny_pure (wpAny_pure ⟨_, rfl, wpAny_pure h⟩))) hsz2)
      | exact wpAny_bind (wpAny_bind (m := Builtin.Tuple.tupleExact _) (wpAny_newObj_type (wpAny_pure (wpAny_pure ⟨_, rfl, wpAny_pure h⟩)) hsz2))
      | exact wpAny_bind (wpAny_bind (m := Builtin.Tuple.tupleExact _) (wpAny_newObj_type (wpAny_pure ⟨_, rfl, wpAny_pure h⟩) hsz2))
      | trace_state
end
def tRevU (K : Fg) (te : TE) : TE := fun σ H Q => te σ H fun x H1 => ∃ a xs, x = .ref a ∧ SqT K H1 a xs ∧ ∀ p, H1 p = none → Q (.ref p) (upd H1 p (.tup xs.reverse))
theorem pe_revU {X : Cx} {e : Expr} {te : TE} {k : Nat} {p1 p2 p3 pos : Pos} (he : PE X e te) : PE X (.Subscript e (.Slice none none (some (.UnaryOp .USub (.Constant (.int 1) k p1) p2)) p3) pos) (tRevU X.K te) := by
  refine ⟨fun pins s σ H Q I h => ?_⟩
  refine Subscript_ (thn (he.run pins s σ H _ I h) fun v s1 ⟨x, H1, I1, r1, q1⟩ => ?_)
  obtain ⟨a, xs, ex, hx, q⟩ := q1
  subst ex
  cases r1
  have hst : PO X (some (.UnaryOp .USub (.Constant (.int 1) k p1) p2)) (tPart (tUn (rU fun i => .int (-i)) (tC (.int 1)))) := po_some (pe_un un_neg pe_int)
  refine wpAny_Slice (thn (po_none.run pins s1 σ H1 (fun o H2 => o = none ∧ H2 = H1) I1 ⟨rfl, rfl⟩) fun vl s2 ⟨l, H2, I2, pl, el, e2⟩ => ?_)
  subst el e2
  refine thn (po_none.run pins s2 σ H2 (fun o H3 => o = none ∧ H3 = H2) I2 ⟨rfl, rfl⟩) fun vu s3 ⟨u, H3, I3, pu, eu, e3⟩ => ?_
  subst eu e3
  refine thn (hst.run pins s3 σ H3 (fun o H4 => o = some (-1) ∧ H4 = H3) I3 ⟨1, rfl, -1, rfl, rfl, rfl⟩) fun vs s4 ⟨o, H4, I4, ps, eo, e4⟩ => ?_
  subst eo e4
  have I5 : Inv X pins σ H4 { s4 with heap := s4.heap.push { cls := .type "slice", data := .fields #[vl, vu, vs] } } := I4.kept (t' := s4.toks) fun b ob q => Heap.get?_push_of_some _ q
  obtain ⟨its, r, ht, hz⟩ := I5.tuple hx
  have hlen := r.length
  show wpAny (model X.prog X.w) X.A (subscriptTail e (.Slice none none (some (.UnaryOp .USub (.Constant (.int 1) k p1) p2)) p3) (.ref a) (.ref s4.heap.objs.size)) (EP X pins σ Q) X.xe { s4 with heap := s4.heap.push { cls := .type "slice", data := .fields #[vl, vu, vs] } }
  refine tail_any (ops := [.ref a, .ref s4.heap.objs.size]) ht.typeIs (PyProof.Rows.slot_tuple_getitem.lookup) ?_ (by with_unfolding_all rfl)
  refine getItem_tuple_rev ht (Heap.IsSliceOf.new _ vl vu vs) pl pu ps ?_ (by omega)
  refine ⟨.ref _, _, I5.laid (t' := s4.toks) (o := .tup xs.reverse) (fun b ob q => Heap.get?_push_of_some _ q) (Nat.le_refl _) ?_, rfl, q _ (I5.hok.fresh (Nat.le_refl _))⟩
  exact ⟨by rw [List.length_reverse]; exact hz, _, r.reverse, ⟨_, Heap.get?_push_size _ rfl, rfl, 0, rfl⟩⟩
section
variable {X : Cx} {C : Cn} {Wx : WX}
def wRevU (x : W) (Q : W → Prop) : Prop := ∃ xs, x = .d (.tup xs) ∧ Q (.d (.tup xs.reverse))
theorem de_revU {a : Expr} {ta : TDE} {k : Nat} {p1 p2 p3 pos : Pos} (hK : C.K = X.K) (ha : PE X a (lift C Wx ta)) : PE X (.Subscript a (.Slice none none (some (.UnaryOp .USub (.Constant (.int 1) k p1) p2)) p3) pos) (lift C Wx (dOp1 wRevU ta)) :=
  (pe_revU ha).imD fun σ H Q q => by
    obtain ⟨R, ds, h, P, Z, e, p, k, z⟩ := q
    refine ⟨R, ds, h, _, Z, e, p, fun R1 H1 h1 w1 v1 ⟨xs, e1, pq⟩ x1 e1' r1 => ?_, z⟩
    subst e1
    obtain ⟨l, vs, rfl, q, t⟩ := rw_tup r1
    exact ⟨l, vs, rfl, hK ▸ q.sq, fun pp np => k R1 _ h1 _ _ pq (x1.trans (Ex.fresh np)) (e1'.fresh np) (mw_tup upd_same (relDs_ex e1'.ok (Ex.fresh np) (relDs_rev t)))⟩
end
def cE_revU (a : E) (G : Gm) (N : List Str) (sc : Scope) (x0 : Expr) : Bool := match x0 with
  | .Subscript l (.Slice none none (some m) _) _ => isOne m && a.chk G N sc l
  | _ => false
theorem sE_revU (a : E) : SndE (cE_revU a) (fun F => dOp1 wRevU (a.d F)) := by
    intro C G F gd k X Wx e S tk h
    cases e <;> first | (exact absurd h Bool.false_ne_true) | skip
    rename_i l r p
    cases r <;> first | (exact absurd h Bool.false_ne_true) | skip
    rename_i x y st p2
    cases x <;> cases y <;> cases st <;> first | (exact absurd h Bool.false_ne_true) | skip
    simp only [cE_revU] at h
    obtain ⟨h1, h2⟩ := ba2 h
    obtain ⟨kk, q1, q2, rfl⟩ := isOne_ok h1
    exact de_revU S.hK (E.snd a X Wx _ S tk h2)
def E.revU (a : E) : E := ⟨cE_revU a, fun F => dOp1 wRevU (a.d F), fun _ _ _ _ _ => False, sE_revU a, noT⟩
@[simp] theorem rdE_revU (a : E) {F : Fns} : (E.revU a).rd F = dOp1 wRevU (a.d F) := rfl
@[simp] theorem rtE_revU (a : E) {F : Fns} : (E.revU a).rt F = (fun _ _ _ _ => False) := rfl
section
variable {X : Cx} {C : Cn} {Wx : WX}
end
section
variable {X : Cx} {C : Cn} {Wx : WX}
end
end DL
set_option maxHeartbeats 8000000
namespace DL
open PySem PySem.Spec PyProof.Rows L2
/-- isinstance(n, c), n the exception that the suite holds, with its dict -/
def rIsX (K : Fg) (D a : Addr) (d : Option Addr) : List V → Hp → VK → Prop := fun xs H Q => ∃ (c : V) (cv : Value) (b : Bool) (dd : Addr) (ks : List (Str × V)), xs = [.ref a, c] ∧ (∀ u, RelV c u → u = cv) ∧ d = some dd ∧ H dd = some (.xd ks) ∧ PySem.W.kitOne K (.ref D) cv = some b ∧ Q (.bl b) H
section
variable {X : Cx} {C : Cn} {Wx : WX} {M : Xm}
open Classical in
end
end DL
set_option maxHeartbeats 8000000
namespace DL
open PySem PySem.Spec PyProof.Rows L2
/-- the different ones, in order -/
def hasK (l : List Key) (k : Key) : Bool := l.any fun x => decide (x = k)
theorem hasK_app (l : List Key) (k j : Key) : hasK (l ++ [k]) j = (hasK l j || decide (k = j)) := by simp [hasK]
def ddS (acc : List Key) (k : Key) : List Key := if hasK acc k then acc else acc ++ [k]
def dd (l : List Key) : List Key := l.foldl ddS []
theorem dd_take {l : List Key} {i : Nat} {k : Key} (h : l[i]? = some k) : dd (l.take (i + 1)) = ddS (dd (l.take i)) k := by
  unfold dd
  rw [List.take_add_one, h, List.foldl_append] <;> rfl
theorem ddS_len (acc : List Key) (k : Key) : (ddS acc k).length ≤ acc.length + 1 := by
  unfold ddS; split <;> simp
theorem dd_len : ∀ (l acc : List Key), (l.foldl ddS acc).length ≤ acc.length + l.length
  | [], acc => by simp
  | k :: l, acc => by
    have := dd_len l (ddS acc k)
    have := ddS_len acc k
    simp only [List.foldl_cons, List.length_cons]
    omega
theorem dd_le (l : List Key) : (dd l).length ≤ l.length := by have := dd_len l []; simpa [dd] using this
theorem setOf_cg {prog : Program} {w : World} {h : Heap} {a : Addr} {S S' : Key → Bool} {n n' : Nat} (q : h.SetOf (mixKind prog w) a S n) (e : ∀ k, S k = S' k) (en : n = n') : h.SetOf (mixKind prog w) a S' n' := by
  obtain rfl : S = S' := funext e
  subst en
  exact q
def KsAt (ks : List Key) (i : Nat) (v : Value) : Prop := ∃ k, ks[i]? = some k ∧ RelV (kV k) v
section
variable {prog : Program} {w : World} {A : Around} {R : Result → Shared → Prop} {I : Addr} {fp wr : List Addr} {G : Array GenState → Array GenState → Prop} {n : Nat} {P : Nat → Value → Prop} {St : Nat → Shared → Prop}
theorem loopKeys (W : WalksS prog w A.in1 I fp wr G n P St) (D : Addr) (hf : D ∉ fp) (ks : List Key) (hval : ∀ i v, P i v → KsAt ks i v) (hb : n + 1 < scanBound) (hl : ks.length = n) :
    ∀ (m i : Nat) (s : Shared), i + m = n → St i s → s.heap.SetOf (mixKind prog w) D (fun j => hasK (dd (ks.take i)) j) (dd (ks.take i)).length →
      (∀ s', Moved (D :: wr) G s s' → s'.heap.SetOf (mixKind prog w) D (fun j => hasK (dd (ks.take n)) j) (dd (ks.take n)).length → R (.ok (.ret .none)) s') →
      codeAny (model prog w) A (.builtin "set.update.loop" ⟨[.ref D, .ref I], []⟩) R s := by
  have hw : D ∉ wr := fun h => hf (W.sub _ h)
  have sub : ∀ b ∈ wr, b ∈ D :: wr := fun b hb => List.mem_cons_of_mem _ hb
  intro m
  induction m with
  | zero =>
    intro i s hm st hS hR
    obtain rfl : i = n := by omega
    refine codeAny_builtin PyProof.Rows.F.entry_set_update_loop ?_
    rw [Around.under_plainId PyProof.Rows.F.plain_set_update_loop _]
    show wpAny _ A.in1 (pyNext (.ref I) >>= _) _ _ s
    refine wpAny_bind (W.done s _ _ st fun s' mv => ?_)
    show wpAny _ A.in1 (ret Value.none) _ _ s'
    refine wpAny_pure (hR s' (mv.mono sub) ?_)
    obtain ⟨o, es, ep, t, ho, q⟩ := hS
    exact ⟨o, es, ep, t, mv.heap D _ hw ho, q⟩
  | succ m ih =>
    intro i s hm st hS hR
    have hlt : i < n := by omega
    refine codeAny_builtin PyProof.Rows.F.entry_set_update_loop ?_
    rw [Around.under_plainId PyProof.Rows.F.plain_set_update_loop _]
    show wpAny _ A.in1 (pyNext (.ref I) >>= _) _ _ s
    refine wpAny_bind (W.item i s _ _ hlt st fun v s' hP st' mv => ?_)
    obtain ⟨k, hk, rk⟩ := hval i v hP
    have hS' : s'.heap.SetOf (mixKind prog w) D (fun j => hasK (dd (ks.take i)) j) (dd (ks.take i)).length := by
      obtain ⟨o, es, ep, t, ho, q⟩ := hS
      exact ⟨o, es, ep, t, mv.heap D _ hw ho, q⟩
    show wpAny _ A.in1 (holding [v] (setAdd D v) >>= _) _ _ s'
    refine wpAny_bind (wpAny_holding ?_)
    unfold setAdd
    refine wpAny_holding ?_
    refine wpAny_bind ((mixKind prog w).pyHash (k := k) (kV_is rk) ?_)
    have room : (dd (ks.take i)).length + 1 < scanBound := by
      have a1 := dd_le (ks.take i)
      have a2 : (ks.take i).length ≤ n := by rw [List.length_take]; omega
      omega
    refine wpAny_setAddHashed_of (knd := mixKind prog w) (s := { s' with toks := s'.toks + 1 }) (kV_is rk) (key_scan rk) hS' room fun h' sb hS2 => ?_
    have hS3 : h'.SetOf (mixKind prog w) D (fun j => hasK (dd (ks.take (i + 1))) j) (dd (ks.take (i + 1))).length := by
      refine setOf_cg hS2 (fun j => ?_) ?_
      · rw [dd_take hk]
        unfold ddS
        cases hj : hasK (dd (ks.take i)) k with
        | true =>
          rw [if_pos rfl]
          by_cases e : j = k
          · subst e; simp [hj]
          · simp [e]
        | false =>
          rw [if_neg Bool.false_ne_true, hasK_app]
          by_cases e : j = k
          · subst e; simp
          · have e2 : ¬ k = j := fun z => e z.symm
            simp [e, e2]
      · rw [dd_take hk]
        unfold ddS
        cases hj : hasK (dd (ks.take i)) k with
        | true => rw [if_pos rfl, if_pos rfl]
        | false => rw [if_neg Bool.false_ne_true, if_neg Bool.false_ne_true, List.length_append] <;> rfl
    refine wpAny_pure ⟨plainId_quiet PyProof.Rows.F.plain_set_update_loop _, ih (i + 1) _ (by omega) (W.frame _ s' _ _ st' (Nat.le_succ _) fun b hb o e => ?_) hS3 fun s2 mv2 hS4 => ?_⟩
    · rw [sb.2 b (fun h : b = D => hf (by rw [← h]; exact hb))]; exact e
    · refine hR s2 (Moved.trans W.gtrans ((mv.mono sub).then_heap (Nat.le_succ _) fun b o hb e => ?_) mv2) hS4
      rw [sb.2 b (fun h : b = D => hb (by rw [h]; exact List.mem_cons_self))]; exact e
end
theorem keys_at : ∀ {ks : List Key} {us : List Value}, Vals (ks.map kV) us → ∀ (i : Nat) (v : Value), us[i]? = some v → KsAt ks i v
  | [], _, .nil, i, v, h => by simp at h
  | k :: ks, _, .cons r t, 0, v, h => by simp at h; subst h; exact ⟨k, by simp, r⟩
  | k :: ks, _, .cons r t, i + 1, v, h => by
    obtain ⟨k', e, rk⟩ := keys_at t i v (by simpa using h)
    exact ⟨k', by simpa using e, rk⟩
section
variable {prog : Program} {w : World} {A : Around} {E : Value → Shared → Prop} {s : Shared}
set_option maxHeartbeats 8000000 in
theorem call_set_keys {l : Addr} {items : Array Value} {ks : List Key} {Q : Value → Shared → Prop}
    (hh : A.handled = none) (hl : s.heap.IsList l items) (hi : Vals (ks.map kV) items.toList) (hb : items.size + 1 < scanBound)
    (h : ∀ (h' : Heap) (tk : Nat), h'.SetOf (mixKind prog w) s.heap.objs.size (fun j => hasK (dd ks) j) (dd ks).length →
      (∀ b o, b < s.heap.objs.size → s.heap.get? b = some o → h'.get? b = some o) → Q (.ref s.heap.objs.size) { s with heap := h', toks := tk }) :
    wpAny (model prog w) A (call (.type "set") [.ref l]) Q E s := by
  obtain ⟨c, tl, hmro⟩ := PySem.F.called_set.mro
  have hmade := PySem.F.called_set.made
  have hsub := PySem.F.called_set.sub
  have hsz : ks.length = items.size := by have := hi.length; simpa using this
  refine wpAny_call (codeAny_of_tree ?_)
  show wpAny _ _ (callAny (.type "set") _) _ _ _
  refine wpAny_pure ⟨Code.quiet_builtin _ (by decide +kernel), codeAny_builtin PySem.F.entry_type_call ?_⟩
  rw [Around.under_plain (weight_type_call_type "set" [.ref l] []) rfl]
  have h1 := PySem.F.called_set.notType
  have h2 := PySem.F.called_set.canCreate
  have hct := PySem.F.typeCall_set_1 (.ref l)
  repeat (any_goals (first | assumption | wp_step))
  refine codeAny_mono (code_set_new_1 (.ref l) (E := E) (Q₁ := fun obj s₁ => ∃ led : Bool, obj = .ref s.heap.objs.size ∧ s₁ = { s with heap := s.heap.push { cls := .type "set", dict := none, data := .set #[] 0 (.fresh 0 0 led) } }) fun led => ⟨led, rfl, rfl⟩) fun r s₁ hr => ?_
  cases r with
  | error e => exact hr
  | ok fl =>
    cases fl with
    | ret obj =>
      obtain ⟨led, rfl, rfl⟩ := hr
      generalize hn : ({ cls := .type "set", dict := none, data := .set #[] 0 (.fresh 0 0 led) } : Obj) = nw
      have hS : (s.heap.push nw).get? s.heap.objs.size = some nw := Heap.get?_push_size _ (by subst hn; rfl)
      have hT : Shared.TypeIs { s with heap := s.heap.push nw } (.ref s.heap.objs.size) "set" := ⟨_, hS, by subst hn; rfl⟩
      have hli := PySem.F.called_set.init.lookup
      have hbi := PySem.F.called_set.init.bind (.ref s.heap.objs.size)
      subst hn
      repeat (any_goals (first | assumption | wp_step))
      refine codeAny_mono (codeAny_call_builtin (R := wants (fun r s₂ => r = .none ∧ ∃ h' tk, s₂ = { s with heap := h', toks := tk } ∧
          h'.SetOf (mixKind prog w) s.heap.objs.size (fun j => hasK (dd ks) j) (dd ks).length ∧
          (∀ b o, b < s.heap.objs.size → s.heap.get? b = some o → h'.get? b = some o)) E) PySem.F.called_set.init.plain PySem.F.entry_set_init (check_set_init_1 hT ?_)) fun r₂ s₂ hr₂ => ?_
      · obtain ⟨ol, hol, hcl, nl, hdl⟩ := hl
        obtain ⟨ocls, odict, odata, oslots⟩ := ol
        simp only at hcl hdl
        subst hcl; subst hdl
        have hol' : (s.heap.push { cls := .type "set", dict := none, data := .set #[] 0 (.fresh 0 0 led) }).get? l = some { cls := .type "list", dict := odict, data := .seq items nl, slots := oslots } := Heap.get?_push_of_some _ hol
        have hsls := PySem.F.sub_list_set
        have hslf := PySem.F.sub_list_frozenset
        have hne : (Value.type "list" == Value.type "dict") = false := by decide
        have hl1 : (s.heap.push { cls := .type "set", dict := none, data := .set #[] 0 (.fresh 0 0 led) }).IsList l items := ⟨_, hol', rfl, nl, rfl⟩
        unfold Builtin.«set.__init__» noKeywords Builtin.Frozenset.updateFrom
        generalize hPI : pyIter = PI
        wp_walk
        subst hPI
        refine wpAny_pyIter_list hl1 ?_
        refine wpAny_bind (wpAny_runValue ?_)
        have lS : l < s.heap.objs.size := Heap.lt_size hol
        have h3 : A.in1.in1.in1.handled = none := by simp [hh]
        have neI : l ≠ (s.heap.push { cls := .type "set", dict := none, data := .set #[] 0 (.fresh 0 0 led) }).objs.size := by
          rw [Heap.size_push]; exact Nat.ne_of_lt (Nat.lt_succ_of_lt lS)
        have nin : s.heap.objs.size ∉ [(s.heap.push { cls := .type "set", dict := none, data := .set #[] 0 (.fresh 0 0 led) }).objs.size, l] := by
          rw [Heap.size_push]; simp only [List.mem_cons, List.mem_singleton, List.not_mem_nil, or_false, not_or]
          exact ⟨Nat.ne_of_lt (Nat.lt_succ_self _), Nat.ne_of_gt lS⟩
        refine loopKeys ((Walks.list h3 _ l neI items).toS) s.heap.objs.size nin ks (fun i v hv => keys_at hi i v (by rw [Array.getElem?_toList]; exact hv)) hb hsz items.size 0 _ (by omega)
          ⟨⟨_, Heap.get?_push_size _ rfl, rfl, rfl⟩, (hl1.push _)⟩ ?s0 ?sR
        case s0 =>
          have hget : ((s.heap.push { cls := .type "set", dict := none, data := .set #[] 0 (.fresh 0 0 led) }).push { cls := .type "list_iterator", data := .fields #[.ref l, .int 0 0] }).get? s.heap.objs.size
              = some { cls := .type "set", dict := none, data := .set #[] 0 (.fresh 0 0 led) } := Heap.get?_push_of_some _ hS
          exact ⟨_, #[], 0, _, hget, ⟨rfl, rfl, rfl⟩, rfl, (fun e he => by simp at he), (fun k => by simp [dd, hasK]), by decide, by rfl, by simp [dd]⟩
        case sR =>
          intro s' mv hS'
          obtain ⟨h', g', d', tk', os'⟩ := s'
          have eg : g' = s.gens := mv.gens
          have ed : d' = s.drawn := mv.drawn
          have eo : os' = s.os := mv.os
          subst eg; subst ed; subst eo
          rw [← hsz, List.take_length] at hS'
          show wpAny _ _ _ _ _ _
          refine wpAny_pure ?_
          show wpAny _ _ (ret Value.none) _ _ _
          refine wpAny_pure ⟨rfl, h', tk', rfl, hS', fun b o hb e => ?_⟩
          have b1 : b ≠ s.heap.objs.size := Nat.ne_of_lt hb
          have b2 : b ≠ (s.heap.push { cls := .type "set", dict := none, data := .set #[] 0 (.fresh 0 0 led) }).objs.size := by
            rw [Heap.size_push]; exact Nat.ne_of_lt (Nat.lt_succ_of_lt hb)
          exact mv.heap b o (by simp only [List.mem_cons, List.mem_singleton, List.not_mem_nil, or_false, not_or]; exact ⟨b1, b2⟩) (Heap.get?_push_of_some _ (Heap.get?_push_of_some _ e))
      · cases r₂ with
        | error e => exact hr₂
        | ok fl₂ =>
          cases fl₂ with
          | ret r =>
            obtain ⟨rfl, h', tk, rfl, hS', hk'⟩ := hr₂
            repeat (any_goals (first | assumption | wp_step))
            exact h _ _ hS' hk'
          | _ => exact hr₂.elim
    | _ => exact hr.elim
end
end DL
set_option maxHeartbeats 8000000
namespace DL
open PySem PySem.Spec PyProof.Rows L2
def kD : Key → D
  | .inl i => .int i
  | .inr x => .str x
theorem relDs_keys {K : Fg} {R : Rg} {H : Hp} : ∀ {ks : List Key} {vs : List V}, RelDs K R H (ks.map kD) vs → vs = ks.map kV
  | [], vs, r => by cases r_nil r; rfl
  | .inl i :: ks, vs, r => by
    obtain ⟨v, q, rfl, r1, r2⟩ := r_cons r
    rw [r_int r1, relDs_keys r2] <;> rfl
  | .inr i :: ks, vs, r => by
    obtain ⟨v, q, rfl, r1, r2⟩ := r_cons r
    rw [r_str r1, relDs_keys r2] <;> rfl
def tLenK (K : Fg) (ta : TE) : TE := fun σ H Q => ta σ H fun x H1 => ∃ (l : Addr) (ks : List Key), x = .ref l ∧ SqL K H1 l (ks.map kV) ∧ ks.length ≤ 4000 ∧ Q (.int ((dd ks).length : Nat)) H1
theorem pe_lenK {X : Cx} {a : Expr} {ta : TE} {p p2 q pos : Pos} (hg : Gl X "len") (hm : X.mg "len" = none) (hg2 : Gl X "set") (hm2 : X.mg "set" = none) (ha : PE X a ta) (hc : X.calm = true)
    (na : starEach [a] X.env = (false, eval a X.env) :: starEach [] X.env) : PE X (.Call (.Name "len" p) [.Call (.Name "set" p2) [a] [] q] [] pos) (tLenK X.K ta) := by
  refine ⟨fun pins s σ H Q I h => ?_⟩
  refine Call_ (ld_blt I hg hm boot_len ?_)
  refine PyProof.Rows.callWith_builtin1 (PyProof.Rows.args_cons ?_ rfl) rfl rfl
  refine Call_ (ld_blt I hg2 hm2 boot_set ?_)
  refine PyProof.Rows.callWith_type1 (PyProof.Rows.args_cons (thn (ha.run pins s σ H _ I h) fun v s1 ⟨x, H1, I1, r1, q1⟩ => PyProof.Rows.args_nil ?_) na) na rfl
  obtain ⟨l, ks, rfl, hq, hl, q1⟩ := q1
  cases r1
  obtain ⟨its, r, pl, hz⟩ := I1.list hq
  have hlen : its.toArray.size = ks.length := by rw [List.size_toArray, ← r.length, List.length_map]
  refine call_set_keys (I1.ok.hd hc) pl.isList (ks := ks) (by simpa using r) (by rw [hlen]; unfold scanBound; omega) fun h' tk hS hk => ?_
  refine PyProof.Rows.args_nil ?_
  have hd := dd_le ks
  obtain ⟨o, es, ep, t, ho, hex, hdt, _, _, _, hf, hn⟩ := hS
  have I2 : Inv X pins σ H1 { s1 with heap := h', toks := tk } := I1.kept fun b o e => hk b o (Heap.lt_size e) e
  exact call_len_set ho hex hdt hf (by rw [hn]; omega) ⟨.int ((dd ks).length : Nat), H1, I2.tok _, ⟨_, by rw [hn]⟩, q1⟩
section
variable {X : Cx} {C : Cn} {Wx : WX}
def wLenK (x : W) (Q : W → Prop) : Prop := ∃ ks : List Key, lstW x = some (ks.map kD) ∧ ks.length ≤ 4000 ∧ Q (.d (.int ((dd ks).length : Nat)))
theorem de_lenK {a : Expr} {ta : TDE} {p p2 q pos : Pos} (hK : C.K = X.K) (hg : Gl X "len") (hm : X.mg "len" = none) (hg2 : Gl X "set") (hm2 : X.mg "set" = none) (ha : PE X a (lift C Wx ta)) (hc : X.calm = true)
    (na : starEach [a] X.env = (false, eval a X.env) :: starEach [] X.env) : PE X (.Call (.Name "len" p) [.Call (.Name "set" p2) [a] [] q] [] pos) (lift C Wx (dOp1 wLenK ta)) :=
  (pe_lenK hg hm hg2 hm2 ha hc na).imD fun σ H Q q => by
    obtain ⟨R, ds, h, P, Z, e, p, k, z⟩ := q
    refine ⟨R, ds, h, _, Z, e, p, fun R1 H1 h1 w1 v1 ⟨ks, e1, hl, pq⟩ x1 e1' r1 => ?_, z⟩
    obtain ⟨l, vs, rfl, q, t⟩ := rel_lst r1 e1
    cases relDs_keys t
    exact ⟨l, ks, rfl, hK ▸ q, hl, k R1 H1 h1 _ _ pq x1 e1' mw_int⟩
end
def cE_lenK (a : E) (G : Gm) (N : List Str) (sc : Scope) (x0 : Expr) : Bool := match x0 with
  | .Call (.Name x _) [.Call (.Name y _) [l] [] _] [] _ => decide (x = "len") && decide (y = "set") && glB sc x && glB sc y && decide (x ∈ G.free) && decide (y ∈ G.free) && noStar l && a.chk G N sc l
  | _ => false
theorem sE_lenK (a : E) : SndE (cE_lenK a) (fun F => dOp1 wLenK (a.d F)) := by
    intro C G F gd k X Wx e S tk h
    cases e <;> first | (exact absurd h Bool.false_ne_true) | (simp [cE_lenK] at h; done) | skip
    rename_i f ls kw p
    cases f <;> first | (exact absurd h Bool.false_ne_true) | (simp [cE_lenK] at h; done) | skip
    rcases ls with _ | ⟨l, _ | ⟨l2, ls⟩⟩ <;> rcases kw with _ | ⟨k1, kw⟩ <;> first | (exact absurd h Bool.false_ne_true) | (simp [cE_lenK] at h; done) | (cases l <;> first | (exact absurd h Bool.false_ne_true) | (simp [cE_lenK] at h; done)) | skip
    cases l <;> first | (exact absurd h Bool.false_ne_true) | (simp [cE_lenK] at h; done) | skip
    rename_i f2 ls2 kw2 p2
    cases f2 <;> first | (exact absurd h Bool.false_ne_true) | (simp [cE_lenK] at h; done) | skip
    rcases ls2 with _ | ⟨l, _ | ⟨l2, ls2⟩⟩ <;> rcases kw2 with _ | ⟨k1, kw2⟩ <;> first | (exact absurd h Bool.false_ne_true) | (simp [cE_lenK] at h; done) | skip
    simp only [cE_lenK, Bool.and_eq_true, decide_eq_true_eq] at h
    obtain ⟨⟨⟨⟨⟨⟨⟨rfl, rfl⟩, h3⟩, h4⟩, h5⟩, h6⟩, h7⟩, h8⟩ := h
    exact de_lenK S.hK (glB_ok h3) (S.free _ h5) (glB_ok h4) (S.free _ h6) (E.snd a X Wx l S tk h8) S.calm (star_ok h7)
def E.lenK (a : E) : E := ⟨cE_lenK a, fun F => dOp1 wLenK (a.d F), fun _ _ _ _ _ => False, sE_lenK a, noT⟩
@[simp] theorem rdE_lenK (a : E) {F : Fns} : (E.lenK a).rd F = dOp1 wLenK (a.d F) := rfl
@[simp] theorem rtE_lenK (a : E) {F : Fns} : (E.lenK a).rt F = (fun _ _ _ _ => False) := rfl
section
variable {X : Cx} {C : Cn} {Wx : WX}
theorem Env.wrK {R : Rg} {ds : DSt} {σ : Sl} {H : Hp} {h : Hs} {vs us : List (Key × V)} {a : Addr} (e : Env C R ds σ H h) (q : H a = some (.dK vs)) (o : Out R a) (h0 : C.H₀ a = none) :
    Env C R ds σ (upd H a (.dK us)) h ∧ Mo C.K R H R (upd H a (.dK us)) := by
  have ne : ∀ b u, H b = some u → (∀ k, u ≠ .dK k) → b ≠ a := fun b u e n z => by subst z; rw [q] at e; cases e; exact n _ rfl
  have nfz : ∀ b, R.fz b → b ≠ a := fun b z y => by obtain ⟨ws, e2⟩ := e.ok.fzd b z; rw [y, q] at e2; cases e2
  have m : Mo C.K R H R (upd H a (.dK us)) := by
    refine ⟨Nat.le_refl _, fun _ _ => rfl, fun b us q => ?_, fun b us q => ⟨q.1, by rw [upd_ne (nfz b q.1)]; exact q.2⟩, fun b us q => ?_, fun b o' u' q => by rw [upd_ne (ne b _ q fun _ => HO.noConfusion)]; exact q⟩
    · show upd H a _ b = _
      rw [upd_ne (ne b _ q fun _ => HO.noConfusion)]; exact q
    · rcases q with ⟨o', q⟩ | q
      · exact .inl ⟨o', by rw [upd_ne (ne b _ q fun _ => HO.noConfusion)]; exact q⟩
      · exact .inr q
  refine ⟨⟨⟨e.ok.len, fun j o' hj => ?_, e.ok.inj, e.ok.nfz, fun b z => ?_, tabs_wr q (fun _ => HO.noConfusion) (fun _ => HO.noConfusion) e.ok.tab⟩, ⟨e.ex.le, e.ex.at_, e.ex.fz, e.ex.nat, e.ex.nfz, fun b u q1 o1 n1 => ?_, fun b q1 => ?_, fun b o' u' q1 => by rw [upd_ne (fun y => by subst y; rw [h0] at q1; cases q1)]; exact e.ex.lk b o' u' q1⟩, e.len, fun j w q1 => ?_, e.nnew, e.own, e.own0⟩, m⟩
  · obtain ⟨u, e2, r2⟩ := e.ok.obj j o' hj
    have hjn : j < R.n := by rw [← e.ok.len]; exact (List.getElem?_eq_some_iff.mp hj).1
    exact ⟨u, by rw [upd_ne (o j hjn)]; exact e2, relO_mo m r2⟩
  · obtain ⟨ws, e2⟩ := e.ok.fzd b z
    exact ⟨ws, by rw [upd_ne (nfz b z)]; exact e2⟩
  · rw [upd_ne (fun y => by subst y; rw [h0] at q1; cases q1)]
    exact e.ex.frm b u q1 o1 n1
  · by_cases y : b = a
    · subst y; exact h0
    · rw [upd_ne y] at q1; exact e.ex.dom b q1
  · obtain ⟨v2, s2, r2⟩ := e.slot j w q1
    refine ⟨v2, s2, ?_⟩
    cases w with
    | d y => exact relD_mo m r2
    | new zs => exact absurd q1 (e.nnew j zs)
    | fn _ => exact r2
    | own zs =>
      obtain ⟨b, ws, ev2, q2, nf2, o2, t2⟩ := r2
      exact ⟨b, ws, ev2, by rw [upd_ne (ne b _ q2 fun _ => HO.noConfusion)]; exact q2, nf2, o2, relDs_mo m t2⟩
/-- the items in turn; the entries so far -/
def dkD (ds : DSt) (vs : List Nat) (g : Tg) (tt : TDT) (tk tv : TDE) (P : List (Key × D) → Hs → Prop) : List D → List (Key × D) → Hs → Prop
  | [], acc, h => P acc h
  | x :: xs, acc, h => g.put x (wipeD ds vs) fun ds2 => tt ds2 h (fun b h2 => if b = true then tk ds2 h2 (fun y h3 => dD tv ds2 h3 (fun d h4 => ∃ k, keyW y = some k ∧ acc.length < sizeLine ∧ dkD ds vs g tt tk tv P xs (putD acc k d) h4) noX) noX else dkD ds vs g tt tk tv P xs acc h2) noX
def dDk (ti : TDI) (g : Tg) (tt : TDT) (tk tv : TDE) (vs : List Nat) : TDE := fun ds h P Z => ti ds h (fun xs h1 => dkD ds vs g tt tk tv (fun acc h2 => P (.d (.ref h2.length)) (h2 ++ [.dic acc])) xs [] h1) Z
theorem lift_dk {ti : TDI} {g : Tg} {tt : TDT} {tk tv : TDE} {vs : List Nat} (hv : ∀ i ∈ g.slots, i ∈ vs) {σ : Sl} {H : Hp} {Q : VK} (q : lift C Wx (dDk ti g tt tk tv vs) σ H Q) :
    tDc (liftI C Wx ti) (liftG C g) (liftT C noW tt) (lift C noW tk) (liftV C noW (dD tv)) vs σ H Q := by
  obtain ⟨R, ds, h, P, Z, e, p, k, z⟩ := q
  refine ⟨R, ds, h, _, Z, e, p, fun R1 H1 h1 xs J p1 x1 e1 src => ?_, z⟩
  intro A nA
  have nf := e1.ok.nfresh nA
  have hA0 : H A = none := x1.dom A nA
  have h0A : C.H₀ A = none := e.ex.dom A hA0
  refine ⟨fun i m H' => m = xs.length - i ∧ i ≤ xs.length ∧ ∃ R' h' acc us, Env C R' ds σ H' h' ∧ Mo C.K R1 H1 R' H' ∧ Ex R H R' H' ∧ H' A = some (.dK us) ∧ Out R' A ∧ RelKd C.K R' H' acc us ∧ dkD ds vs g tt tk tv (fun acc h2 => P (.d (.ref h2.length)) (h2 ++ [.dic acc])) (xs.drop i) acc h',
    ⟨xs.length, by simp, Nat.zero_le _, R1, h1, [], [], e1.fresh nA, (Ex.fresh nA).mo e1.ok, x1.trans (Ex.fresh nA), upd_same, nf.2, rfl, by simpa using p1⟩, ?_⟩
  rintro i m H2 ⟨rfl, hle, R2, h2, acc, us, e2, m2, x2, hA, oA, rA, p2⟩
  by_cases hlt : i < xs.length
  · right
    rw [List.drop_eq_getElem_cons hlt] at p2
    refine ⟨src.go i R2 H2 m2 hlt, fun H' => ∃ R' h' acc us, Env C R' ds σ H' h' ∧ Mo C.K R1 H1 R' H' ∧ Ex R H R' H' ∧ H' A = some (.dK us) ∧ Out R' A ∧ RelKd C.K R' H' acc us ∧ dkD ds vs g tt tk tv (fun acc h2 => P (.d (.ref h2.length)) (h2 ++ [.dic acc])) (xs.drop (i + 1)) acc h',
      fun H' z => ⟨xs.length - (i + 1), by omega, rfl, hlt, z⟩, fun v H3 y => ?_⟩
    obtain ⟨x3, e3, r3⟩ := src.yld i R2 H2 v H3 xs[i] ds σ h2 m2 e2 (List.getElem?_eq_getElem hlt) y
    unfold dkD at p2
    refine ⟨R2, wipeD ds vs, h2, xs[i], _, e3.wiped vs, r3, p2, fun ds4 σ4 e4 kp p4 => ⟨wipe_kept kp hv, ?_⟩⟩
    have hA3 : H3 A = some (.dK us) := x3.frm A _ hA oA fun _ => HO.noConfusion
    have stay : ∀ R' H', Ex R2 H3 R' H' → H' A = some (.dK us) ∧ Out R' A ∧ RelKd C.K R' H' acc us := fun R' H' x =>
      ⟨x.frm A _ hA3 oA fun _ => HO.noConfusion, x.out hA3 oA, relKd_ex e3.ok x (relKd_ex e2.ok x3 rA)⟩
    refine ⟨R2, ds4, h2, _, noX, e4, p4, fun R5 H5 h5 b p5 x5 e5 => ?_, fun _ _ _ _ _ _ z => z.elim⟩
    have e5o : Env C R5 ds σ H5 h5 := e3.step x5 e5.ok
    obtain ⟨hA5, oA5, rA5⟩ := stay R5 H5 x5
    have m5 : Mo C.K R1 H1 R5 H5 := (m2.trans (x3.mo e2.ok)).trans (x5.mo e3.ok)
    have x05 : Ex R H R5 H5 := (x2.trans x3).trans x5
    cases b with
    | false => exact ⟨R5, h5, acc, us, e5o, m5, x05, hA5, oA5, rA5, p5⟩
    | true =>
      refine ⟨R5, ds4, h5, _, noX, e5, p5, fun R6 H6 h6 y6 u6 p6 x6 e6 r6 => ?_, fun _ _ _ _ _ _ z => z.elim⟩
      refine ⟨R6, ds4, h6, _, noX, e6, p6, fun R7 H7 h7 d u7 ⟨ky, hk, hl, p7⟩ x7 e7 r7 => ?_, fun _ _ _ _ _ _ z => z.elim⟩
      have x67 := x6.trans x7
      have e7o : Env C R7 ds σ H7 h7 := e5o.step x67 e7.ok
      have hA7 : H7 A = some (.dK us) := x67.frm A _ hA5 oA5 fun _ => HO.noConfusion
      have oA7 := x67.out hA5 oA5
      have rA7 : RelKd C.K R7 H7 acc us := relKd_ex e5.ok x67 rA5
      obtain ⟨e8, m8⟩ := e7o.wrK (us := putK us ky u7) hA7 oA7 h0A
      refine ⟨us, ky, key_of r6 hk, hA7, by rw [← relKd_len rA7]; exact hl, R7, h7, putD acc ky d, putK us ky u7, e8, (m5.trans (x67.mo e5.ok)).trans m8, ?_, upd_same, oA7, relKd_mo m8 (relKd_put rA7 r7), p7⟩
      have x07 := x05.trans x67
      exact ⟨x07.le, x07.at_, x07.fz, x07.nat, x07.nfz, fun b u q1 o1 n1 => by rw [upd_ne (ne_of_none q1 hA0)]; exact x07.frm b u q1 o1 n1, fun b q1 => by
        by_cases y : b = A
        · subst y; exact hA0
        · rw [upd_ne y] at q1; exact x07.dom b q1, fun b o' u' q1 => by rw [upd_ne (ne_of_none q1 hA0)]; exact x07.lk b o' u' q1⟩
  · left
    have ei : i = xs.length := by omega
    subst ei
    rw [List.drop_length] at p2
    unfold dkD at p2
    refine ⟨src.stop R2 H2 m2, ?_⟩
    obtain ⟨R3, e3, x3, a3, n3⟩ := e2.haP (o := .dic acc) (u := .dK us) hA oA h0A ⟨_, rfl, rA⟩
    have eu : upd H2 A (.dK us) = H2 := by
      funext b
      by_cases y : b = A
      · subst y; rw [upd_same, hA]
      · rw [upd_ne y]
    rw [eu] at e3 x3
    refine k R3 H2 _ (.d (.ref h2.length)) (.ref A) p2 (x3 R H x2 hA0) e3 ?_
    unfold RelW RelD
    exact ⟨by rw [n3]; omega, by rw [a3]⟩
theorem de_dk {kx vx tg iter : Expr} {ifs : List Expr} {scope : Scope} {own : List (Str × Nat)} {pos : Pos} {ti : TDI} {g : Tg} {tt : TDT} {tk tv : TDE} (hc : X.calm = true) (hN : X.N.Nodup) (hi : PI X tg iter (liftI C Wx ti)) (ok : BlkOk X.N X.env.scope scope own)
    (hg : ∀ (s : Shared) (H : Hp) (A : Addr) (cl : List (Str × Addr)) (fp : List Addr), PG (X.blk s H scope (compEnvC scope cl A X.env) fp) tg (liftG C g)) (ht : ∀ (s : Shared) (H : Hp) (A : Addr) (cl : List (Str × Addr)) (fp : List Addr), PTs (X.blk s H scope (compEnvC scope cl A X.env) fp) ifs (liftT C noW tt))
    (hk : ∀ (s : Shared) (H : Hp) (A : Addr) (cl : List (Str × Addr)) (fp : List Addr), PE (X.blk s H scope (compEnvC scope cl A X.env) fp) kx (lift C noW tk))
    (he : ∀ (s : Shared) (H : Hp) (A : Addr) (cl : List (Str × Addr)) (fp : List Addr), PE (X.blk s H scope (compEnvC scope cl A X.env) fp) vx (lift C noW tv)) (hv : ∀ i ∈ g.slots, i ∈ own.map (·.2)) (hs : ∀ x, foldedSetIterable iter X.env x = pure x) :
    PE X (.DictComp kx vx [⟨tg, iter, ifs, 0⟩] scope pos) (lift C Wx (dDk ti g tt tk tv (own.map (·.2)))) :=
  (pe_dc hc hN hi ok hg ht hk (fun s H A cl fp => pe_D (he s H A cl fp)) hs).imD fun σ H Q q => lift_dk hv q
/-- d.get(k, x), the keys ints and texts -/
def dCgetD (ta tk tx : TDE) : TDE := fun ds h P Z => ta ds h (fun x h1 => (∃ n kvs, x = .d (.ref n) ∧ h1[n]? = some (.dic kvs)) ∧ tk ds h1 (fun y h2 => dD tx ds h2 (fun d h3 => ∃ n kvs k, x = .d (.ref n) ∧ h3[n]? = some (.dic kvs) ∧ keyW y = some k ∧ P (.d ((valD kvs k).getD d)) h3) Z) Z) Z
theorem de_cgetD {o a b : Expr} {to ta tb : TDE} {apos pos : Pos} (hu : X.A.units + 1 < cLine) (ho : PE X o (lift C Wx to)) (ha : PE X a (lift C Wx ta)) (hb : PE X b (lift C Wx tb)) (m : M2 X o "get" apos a b pos) :
    PE X (.Call (.Attribute o "get" apos) [a, b] [] pos) (lift C Wx (dCgetD to ta tb)) :=
  (pe_dget2 hu ho ha (pe_D hb) m).imD fun σ H Q q => by
    obtain ⟨R, ds, h, P, Z, e, p, k, z⟩ := q
    refine ⟨R, ds, h, _, Z, e, p, fun R1 H1 h1 w1 v1 ⟨⟨n0, kvs0, hx0, hn0⟩, p1⟩ x1 e1 r1 => ?_, z⟩
    subst hx0
    have r1' : RelD C.K R1 H1 (.ref n0) v1 := r1
    obtain ⟨hlt, rfl⟩ := r_ref r1'
    obtain ⟨u0, hu0, ks0, rfl, t0⟩ := e1.ok.obj n0 _ hn0
    refine ⟨_, rfl, .inl ⟨ks0, .inl hu0⟩, R1, ds, h1, _, Z, e1, p1, fun R2 H2 h2 w2 v2 p2 x2 e2 r2 => ?_, fun R' H' h' x cls dd a b c d => z R' H' h' x cls dd a (x1.trans b) c d⟩
    refine ⟨R2, ds, h2, _, Z, e2, p2, fun R3 H3 h3 d v3 ⟨n, kvs, ky, hx, hn, hk, p3⟩ x3 e3 r3 => ?_, fun R' H' h' x cls dd a b c d => z R' H' h' x cls dd a ((x1.trans x2).trans b) c d⟩
    cases hx
    have x23 := x2.trans x3
    obtain ⟨u, hu', ks, rfl, t⟩ := e3.ok.obj n0 _ hn
    rw [x23.at_ n0 hlt] at hu'
    rw [key_of r2 hk]
    refine ⟨_, DGet.k hu', k R3 H3 h3 _ _ p3 (x1.trans x23) e3 ?_⟩
    show RelD C.K R3 H3 ((valD kvs ky).getD d) ((valV ks ky).getD v3)
    cases g : valD kvs ky with
    | none => rw [relKd_no t g]; exact r3
    | some d' => obtain ⟨v, e3', rv⟩ := relKd_val t g; rw [e3']; exact rv
end
def cE_dcK (tg : Tg) (src : Ic) (test : Oe) (ky : E) (vl : E) (own : List (Str × Nat)) (G : Gm) (N : List Str) (sc : Scope) (x0 : Expr) : Bool := match x0 with
  | .DictComp lk lv [⟨t, it, ifs, as⟩] scope _ => decide (as = 0) && (!src.needT || tupE t) && src.chk G N sc it && noSet it && blkC N sc scope own && tg.chk true N (relS scope sc) t && test.chkT G.q N (relS scope sc) ifs && ky.chk G.q N (relS scope sc) lk && vl.chk G.q N (relS scope sc) lv && (tg.slots.all fun i => decide (i ∈ own.map (·.2)))
  | _ => false
theorem sE_dcK (tg : Tg) (src : Ic) (test : Oe) (ky : E) (vl : E) (own : List (Str × Nat)) : SndE (cE_dcK tg src test ky vl own) (fun F => dDk (src.d F) tg (test.t F.q) (ky.d F.q) (vl.d F.q) (own.map (·.2))) := by
    intro C G F gd k X Wx e S tk h
    cases e <;> first | (exact absurd h Bool.false_ne_true) | skip
    rename_i lk lv gs scope p
    rcases gs with _ | ⟨⟨t, it, ifs, as⟩, _ | ⟨g2, gs⟩⟩ <;> first | (exact absurd h Bool.false_ne_true) | skip
    simp only [cE_dcK] at h
    obtain ⟨h, g1⟩ := ba2 h
    obtain ⟨h, gv⟩ := ba2 h
    obtain ⟨h, g2⟩ := ba2 h
    obtain ⟨h, g3⟩ := ba2 h
    obtain ⟨h, g4⟩ := ba2 h
    obtain ⟨h, g5⟩ := ba2 h
    obtain ⟨h, g6⟩ := ba2 h
    obtain ⟨h, g7⟩ := ba2 h
    obtain ⟨h, g8⟩ := ba2 h
    cases of_decide_eq_true h
    refine de_dk S.calm S.nd (Ic.snd src X Wx t it S tk g8 g7) (blkOk_by g5) (fun s H A cl fp => ?_) (fun s H A cl fp => ?_) (fun s H A cl fp => ?_) (fun s H A cl fp => ?_) (fun i hi => of_decide_eq_true (List.all_eq_true.mp g1 i hi)) (noSet_ok g6)
    · exact Tg.snd (loc := true) (X := X.blk s H scope (compEnvC scope cl A X.env) fp) S.hK S.calm S.nd (fun z => Bool.noConfusion z) tg t g4
    · exact Oe.sndT test _ ifs (S.blk s H scope (compEnvC scope cl A X.env) fp) takesN g3
    · exact E.snd ky _ noW lk (S.blk s H scope (compEnvC scope cl A X.env) fp) takesN g2
    · exact E.snd vl _ noW lv (S.blk s H scope (compEnvC scope cl A X.env) fp) takesN gv
def E.dcK (tg : Tg) (src : Ic) (test : Oe) (ky : E) (vl : E) (own : List (Str × Nat)) : E := ⟨cE_dcK tg src test ky vl own, fun F => dDk (src.d F) tg (test.t F.q) (ky.d F.q) (vl.d F.q) (own.map (·.2)), fun _ _ _ _ _ => False, sE_dcK tg src test ky vl own, noT⟩
@[simp] theorem rdE_dcK (tg : Tg) (src : Ic) (test : Oe) (ky : E) (vl : E) (own : List (Str × Nat)) {F : Fns} : (E.dcK tg src test ky vl own).rd F = dDk (src.d F) tg (test.t F.q) (ky.d F.q) (vl.d F.q) (own.map (·.2)) := rfl
@[simp] theorem rtE_dcK (tg : Tg) (src : Ic) (test : Oe) (ky : E) (vl : E) (own : List (Str × Nat)) {F : Fns} : (E.dcK tg src test ky vl own).rt F = (fun _ _ _ _ => False) := rfl
def cE_cgetD (a : E) (k : E) (x : E) (G : Gm) (N : List Str) (sc : Scope) (x0 : Expr) : Bool := match x0 with
  | .Call (.Attribute l m ap) [r, q] [] cp => decide (m = "get") && (ap.endLine == cp.line) && noC0 l && noStar r && noStar q && a.chk G N sc l && k.chk G N sc r && x.chk G N sc q
  | _ => false
theorem sE_cgetD (a : E) (k : E) (x : E) : SndE (cE_cgetD a k x) (fun F => dCgetD (a.d F) (k.d F) (x.d F)) := by
    intro C G F gd kq X Wx e S tk h
    cases e <;> first | (exact absurd h Bool.false_ne_true) | (simp [cE_cgetD] at h; done) | skip
    rename_i f ls kw p
    cases f <;> rcases ls with _ | ⟨r, _ | ⟨q, _ | ⟨r3, ls⟩⟩⟩ <;> rcases kw with _ | ⟨k1, kw⟩ <;> first | (exact absurd h Bool.false_ne_true) | (simp [cE_cgetD] at h; done) | skip
    simp only [cE_cgetD] at h
    obtain ⟨h, g1⟩ := ba2 h
    obtain ⟨h, g2⟩ := ba2 h
    obtain ⟨h, g7⟩ := ba2 h
    obtain ⟨h, g3⟩ := ba2 h
    obtain ⟨h, g8⟩ := ba2 h
    obtain ⟨h, g4⟩ := ba2 h
    obtain ⟨g6, g5⟩ := ba2 h
    cases of_decide_eq_true g6
    have st : ∀ cp : Pos, backTo cp (starEach [r, q] X.env) = [(false, eval r X.env), (false, eval q X.env)] := fun cp => by
      rw [star_ok g8, star_ok g3] <;> rfl
    exact de_cgetD (Nat.lt_of_le_of_lt (by omega) S.units) (E.snd a X Wx _ S tk g7) (E.snd k X Wx r S tk g2) (E.snd x X Wx q S tk g1) ⟨base_ok g4, by rw [st] <;> rfl, g5, st _⟩
def E.cgetD (a : E) (k : E) (x : E) : E := ⟨cE_cgetD a k x, fun F => dCgetD (a.d F) (k.d F) (x.d F), fun _ _ _ _ _ => False, sE_cgetD a k x, noT⟩
@[simp] theorem rdE_cgetD (a : E) (k : E) (x : E) {F : Fns} : (E.cgetD a k x).rd F = dCgetD (a.d F) (k.d F) (x.d F) := rfl
@[simp] theorem rtE_cgetD (a : E) (k : E) (x : E) {F : Fns} : (E.cgetD a k x).rt F = (fun _ _ _ _ => False) := rfl
end DL
set_option maxHeartbeats 8000000
namespace DL
open PySem PySem.Spec PyProof.Rows L2
/-- what the module gives, apart from any frame -/
structure ModD (M : Xm) (G : Gm) (F : Fns) (Cl : Cm) (gd : Bool) (k : Nat) (P : Program) (w : World) (K : Fg) (mg : Str → Option Value) (base : Heap) : Prop where
  sh : G.sh = true → gd = true
  k1 : 1 ≤ k
  free : ∀ x ∈ G.free, mg x = none
  con : ∀ j x, G.con[j]? = some x → ∃ v u, mg x = some u ∧ RelV v u ∧ ∀ R H, RelD K R H (F.c j) v
  fn : ∀ C : Cn, C.K = K → C.Cl = Cl → FnAll G F C gd k P w K mg base
  ho : ∀ C : Cn, C.K = K → C.Cl = Cl → ∀ k2, k ≤ k2 → HoAll G F C gd k2 P w K mg base
  xm : XmOk M K Cl
  xmg : ∀ c x, M.names[c]? = some x → mg x = some (.ref (Cl c))
  xmk : ∀ c x, M.names[c]? = some x → M.rs c = true → (∃ fI, XiC P K mg (Cl c) fI (M.flds c)) ∧ (M.flds c).length ≤ 1000
theorem FnAll.mono {G : Gm} {F : Fns} {C : Cn} {gd : Bool} {j k : Nat} {P : Program} {w : World} {K : Fg} {mg : Str → Option Value} {base : Heap} (h : FnAll G F C gd j P w K mg base) (l : j ≤ k) : FnAll G F C gd k P w K mg base := fun i p e => by
  obtain ⟨fa, fd, ps, a1, a2, a3, a4, a5, a6⟩ := h i p e
  exact ⟨fa, fd, ps, a1, a2, a3, a4, a5.mono l, a6⟩
theorem ModD.mono {M : Xm} {G : Gm} {F : Fns} {Cl : Cm} {gd : Bool} {j k : Nat} {P : Program} {w : World} {K : Fg} {mg : Str → Option Value} {base : Heap} (m : ModD M G F Cl gd j P w K mg base) (l : j ≤ k) : ModD M G F Cl gd k P w K mg base :=
  ⟨m.sh, Nat.le_trans m.k1 l, m.free, m.con, fun C a b => (m.fn C a b).mono l, fun C a b k2 h => m.ho C a b k2 (Nat.le_trans l h), m.xm, m.xmg, m.xmk⟩
/-- the table of a def that makes lambdas, of a def called x, its code object the value cdv -/
def TabX (Cl : Cm) (base : Heap) (mg : Str → Option Value) (cdv : Value) (q : Str) : Prop := ∃ c Pt, LamX.TabB base mg c Pt ∧ cdv = .ref c ∧ (Pt, q) ∈ Cl.T ∧ ∀ p ∈ Cl.T, p.1 = Pt → p.2 = q
def scB (N ps : List Str) (sc : Scope) : Bool := decide (sc.kind = .function) && !sc.isCoroutine && !sc.isGenerator && decide N.Nodup && decide (N.take ps.length = ps) && (ps.all fun x => locB sc x) && (sc.names.all fun y => decide (y.2 ≠ .free))
theorem scB_ok {N ps : List Str} {sc : Scope} (h : scB N ps sc = true) : FnScope N ps sc := by
  unfold scB at h
  simp only [Bool.and_eq_true, decide_eq_true_eq, Bool.not_eq_true', List.all_eq_true] at h
  obtain ⟨⟨⟨⟨⟨⟨h1, h2⟩, h3⟩, h4⟩, h5⟩, h6⟩, h7⟩ := h
  exact ⟨h1, h2, h3, h4, h5, fun x hx => locB_ok (h6 x hx), h7⟩
/-- the whole check of a def -/
def parB (ko : Option (Nat × List (Str × Kq))) (ps : List Str) (a : Arguments) : Bool := match ko with
  | none => decide (posA a = some ps)
  | some (np, dfl) => decide (koA a = some (ps, np)) && decide (dfl.map (·.1)).Nodup
def defB (M : Xm) (G : Gm) (N ps : List Str) (m : Ss) (st : Stmt) (ko : Option (Nat × List (Str × Kq))) : Bool := scB N ps (defScope st) && m.chk M G N (defScope st) (defBody st) && parB ko ps (defArgs st)
theorem funD_binds {K : Fg} {x qual : Str} {st : Stmt} {ps : List Str} {f : Addr} {fd : FuncData} {kws : List (Str × V)} (Fu : FunD K x qual (defArgs st) (defBody st) (defScope st) [] kws f fd) (h : posA (defArgs st) = some ps) : Binds K fd ps [] := by
  obtain ⟨oc, od, dV, kV, doc, pm, an, cdv, ct, osl, rfl, lk, hcd, hdv, hkw⟩ := Fu.ex
  have hd : dV = .none := by
    rcases hdv with ⟨_, z⟩ | ⟨z, _⟩
    · exact z
    · exact absurd rfl z
  subst hd
  exact .all fun us hl => posA_bind (fd := PySem.W.fnOf x qual (defArgs st) (defBody st) (defScope st) .none kV doc pm an cdv ct) h rfl us hl
theorem fun_of {K : Fg} {x qual : Str} {st : Stmt} {f : Addr} {fd : FuncData} {kws : List (Str × V)} (Fu : FunD K x qual (defArgs st) (defBody st) (defScope st) [] kws f fd) : Fun K x qual st f fd := by
  obtain ⟨oc, od, dV, kV, doc, pm, an, cdv, ct, osl, e, lk, hcd, hdv, hkw⟩ := Fu.ex
  have hd : dV = .none := by
    rcases hdv with ⟨_, z⟩ | ⟨z, _⟩
    · exact z
    · exact absurd rfl z
  subst hd
  exact ⟨⟨oc, od, kV, doc, pm, an, cdv, ct, osl, e, lk, hcd⟩, Fu.kp⟩
section
variable {M : Xm} {G : Gm} {F : Fns} {Cl : Cm} {gd : Bool} {k : Nat} {P : Program} {w : World} {K : Fg} {mg : Str → Option Value} {base : Heap}
theorem ModD.stat (md : ModD M G F Cl gd k P w K mg base) {C : Cn} (hK : C.K = K) (hC : C.Cl = Cl) {N ps : List Str} {qual : Str} {scope : Scope} (S : FnScope N ps scope) {f : Addr} {cdv : Value} {A : Around} {outer : List PySem.Env} {s : Shared} {H : Hp} {E : XK} (hr : Room k (A.deeper (envOfC qual scope s.heap.objs.size f cdv))) (hg : Gd gd A)
    (hlm : G.lm = true → ∃ k', k' + 2 ≤ k ∧ ModD M G F Cl gd k' P w K mg base ∧ TabX Cl base mg cdv ((envOfC qual scope s.heap.objs.size f cdv).qual ++ "<lambda>")) (ha : F.a = noA) :
    StatS M G F C gd k (cxOf (CX K P w) P w K mg base N qual scope f cdv A outer s H E) := by
  subst hC
  subst hK
  exact { toStat := ⟨rfl, rfl, S.nd, (room65 hr), hr, fun z => hg z, md.sh, md.free, md.con, md.fn C rfl rfl, fun _ _ _ _ _ _ _ _ _ _ _ => by rw [ha]; exact de_noact, fun z => by
            obtain ⟨k', l, md', c, Pt, t1, t2, t3, t4⟩ := hlm z
            exact ⟨k', l, md'.fn C rfl rfl, md'.ho C rfl rfl _ (by omega), c, Pt, t1, t2, t3, t4⟩⟩, k1 := md.k1, pass := passes_of rfl, stk := rfl, frm := rfl, blk := by
            show (if scope.kind.isAnnotationScope then ScopeKind.function else scope.kind) = .function
            rw [S.kind]; rfl
          , fnA := fun _ => rfl, xm := md.xm, xmg := md.xmg, xmk := md.xmk }
/-- a def keeps its promise over trees -/
theorem def_ok {x qual : Str} {st : Stmt} {f : Addr} {fd : FuncData} {N ps : List Str} {m : Ss} {sp : FnD} {kws : List (Str × V)} (md : ModD M G F Cl gd k P w K mg base) (Fu : FunD K x qual (defArgs st) (defBody st) (defScope st) [] kws f fd) {ko : Option (Nat × List (Str × Kq))} (hc : defB M G N ps m st ko = true)
    (hsp : ∀ xs h Q Z, xs.length = ps.length → sp xs h Q Z → m.d M F (startD N.length xs) h ⟨fun _ h' => Q .non h', Q, fun y _ h' => Z y h', fun _ _ => False, fun _ _ => False⟩) (hlm : G.lm = false) (ha : F.a = noA) :
    FnG P w K mg base gd (k + 1) f fd ps (liftF K Cl ps.length sp) ∧ (ko = none → Binds K fd ps []) := by
  unfold defB at hc
  obtain ⟨hc, h3⟩ := ba2 hc
  obtain ⟨h1, h2⟩ := ba2 hc
  refine ⟨fnG_body (fun_of Fu) (scB_ok h1) (t := m.d M F) (fun C cdv A outer s H E lk hK hC hr hg => ?_) hsp, fun z => by subst z; exact funD_binds Fu (of_decide_eq_true h3)⟩
  exact Ss.snd m _ _ _ (md.stat hK hC (scB_ok h1) hr hg (fun z => by rw [hlm] at z; cases z) ha) (takes_of rfl rfl rfl rfl) h2
/-- one that makes lambdas -/
theorem def_okL {x qual : Str} {st : Stmt} {f : Addr} {fd : FuncData} {N ps : List Str} {m : Ss} {sp : FnD} {kws : List (Str × V)} (md : ModD M G F Cl gd k P w K mg base) (Fu : FunD K x qual (defArgs st) (defBody st) (defScope st) [] kws f fd) {ko : Option (Nat × List (Str × Kq))} (hc : defB M G N ps m st ko = true)
    (hsp : ∀ xs h Q Z, xs.length = ps.length → sp xs h Q Z → m.d M F (startD N.length xs) h ⟨fun _ h' => Q .non h', Q, fun y _ h' => Z y h', fun _ _ => False, fun _ _ => False⟩) (ha : F.a = noA)
    (htab : ∀ cdv, (∃ oc od osl fd0, K.lookup f = some ⟨oc, od, .func fd0, osl⟩ ∧ fd0.code = cdv ∧ PySem.W.codeIn K cdv qual = true) → TabX Cl base mg cdv (qual ++ ".<locals>." ++ "<lambda>")) :
    FnG P w K mg base gd (k + 3) f fd ps (liftF K Cl ps.length sp) ∧ (ko = none → Binds K fd ps []) := by
  unfold defB at hc
  obtain ⟨hc, h3⟩ := ba2 hc
  obtain ⟨h1, h2⟩ := ba2 hc
  refine ⟨fnG_body (k := k + 2) (fun_of Fu) (scB_ok h1) (t := m.d M F) (fun C cdv A outer s H E lk hK hC hr hg => ?_) hsp, fun z => by subst z; exact funD_binds Fu (of_decide_eq_true h3)⟩
  exact Ss.snd m _ _ _ ((md.mono (by omega)).stat hK hC (scB_ok h1) hr hg (fun z => ⟨k, Nat.le_refl _, md, htab cdv lk⟩) ha) (takes_of rfl rfl rfl rfl) h2
end
theorem rel0 {K : Fg} {Cl : Cm} {H : Hp} (hT : LamX.Tabs Cl.T H) : HOk' K Cl ⟨0, fun _ => 0, fun _ => False⟩ H [] :=
  ⟨rfl, fun i o z => by simp at z, fun i j z => absurd z (Nat.not_lt_zero _), fun i z => absurd z (Nat.not_lt_zero _), fun a z => z.elim, hT⟩
theorem end_sp {K : Fg} {Cl : Cm} {H : Hp} {f : FnD} {a : Addr} {ns : List Int} (hT : LamX.Tabs Cl.T H) (hf : FoL K H a (ns.map V.int)) (spec : f [.fro (ns.map D.int)] [] (fun d _ => d = .bl true) fun _ _ => False) : liftF K Cl 1 f [.ref a] H (fun v _ => v = .bl true) fun _ _ _ => False := by
  refine ⟨⟨0, fun _ => 0, fun _ => False⟩, [.fro (ns.map D.int)], [], _, _, rel0 hT, ?_, rfl, spec, fun R' H' h' d v hd _ _ r => ?_, fun _ _ _ _ _ _ z => z.elim⟩
  · exact m_cons (by unfold RelD; exact ⟨a, ns.map V.int, rfl, hf, relDs_mkints ns⟩) m_nil
  · subst hd; exact r_bl r
abbrev emptyT : Obj := { cls := .none, data := .fields #[] }
theorem end_call {P : Program} {w : World} {K : Fg} {Cl : Cm} {mg mb : Str → Option Value} {gd : Bool} {k : Nat} {fa a : Addr} {fd : FuncData} {x : Str} {f : FnD} {st : Shared} {us : List Value} {ns : List Int} {cs : List (Addr × Addr)}
    (kin : K.In st.heap) (gl : st.heap.Ns mainGlobals mg) (bl : st.heap.Ns builtinsNs mb) (bb : ∀ y : Str, y ≠ "__name__" → mb y = bootBuiltins y) (nl : st.heap.NoLimit) (ge : st.gens = #[])
    (hT : ∀ p ∈ cs, st.heap.get? p.2 = some emptyT) (nT : ∀ p ∈ cs, K.lookup p.2 = none) (hC : ∀ p ∈ cs, PySem.W.CodeHd st.heap p.1 p.2) (hTl : ∀ q ∈ Cl.T, ∃ p ∈ cs, p.2 = q.1)
    (hbm : ∃ (bm : Addr) (ob : Obj), mg "__builtins__" = some (.ref bm) ∧ bm ≠ builtinsNs ∧ st.heap.get? bm = some ob ∧ ob.cls = .type "module" ∧ ob.dict = some builtinsNs ∧ ob.data = .plain)
    (oa : st.heap.get? a = some { cls := .type "list", data := .seq us.toArray }) (ia : IntsAre us ns) (sz : ns.length ≤ sizeLine) (rm : Room k callerA)
    (Fg : ∀ base : Heap, K.In base → base.Ns mainGlobals mg → (∀ p ∈ cs, LamX.TabB base mg p.1 p.2) → FnG P w K mg base gd k fa fd [x] (liftF K Cl 1 f)) (bd : ∀ (s : Shared) (u : Value), BindsTo s fd ⟨[u], []⟩ [(x, u)])
    (spec : f [.fro (ns.map D.int)] [] (fun d _ => d = .bl true) fun _ _ => False) :
    codeAny (model P w) callerA (.call (.ref fa) ⟨[.ref a], []⟩) (fun r s' => r = .ok (.ret (.bool true)) ∧ OldK st.heap s'.heap ∧ s'.os = st.os ∧ AllBare s'.gens) st := by
  have rv := vals_ints ia
  have tob : ∀ b, b ∈ cs.map (·.2) → st.heap.get? b = some emptyT := fun b hb => by
    obtain ⟨p, hp, rfl⟩ := List.mem_map.mp hb
    exact hT p hp
  have na : a ∉ cs.map (·.2) := fun z => by
    have q := tob a z
    rw [oa] at q
    cases q
  have main : ∀ H : Hp, (∀ b u, H b = some u → (b = a ∧ K.lookup a = none ∧ u = .frz { cls := .type "list", data := .seq us.toArray } (.lst (ns.map V.int))) ∨ (b ∈ cs.map (·.2) ∧ u = .tbl #[])) → (∀ b ∈ cs.map (·.2), H b = some (.tbl #[])) → FoL K H a (ns.map V.int) → HOk P w H st.heap →
      codeAny (model P w) callerA (.call (.ref fa) ⟨[.ref a], []⟩) (fun r s' => r = .ok (.ret (.bool true)) ∧ OldK st.heap s'.heap ∧ s'.os = st.os ∧ AllBare s'.gens) st := by
    intro H only tabs fo hok
    have up : ∀ {b : Addr} {o : Obj}, st.heap.get? b = some o → H b = none → (hidT st.heap H).get? b = some o := fun z n => hidT_get z n
    have free : ∀ {b : Addr} {o : Obj}, st.heap.get? b = some o → (∀ us n, o.data ≠ .seq us n) → o.data ≠ .fields #[] → H b = none := fun {b o} z n1 n2 => by
      cases q : H b with
      | none => rfl
      | some u =>
        rcases only b u q with ⟨rfl, _⟩ | ⟨m, _⟩
        · rw [oa] at z; cases z; exact absurd rfl (n1 _ _)
        · rw [tob b m] at z; cases z; exact absurd rfl n2
    have nsU : ∀ {b : Addr} {m : Str → Option Value}, st.heap.Ns b m → (hidT st.heap H).Ns b m := fun {b m} z => by
      obtain ⟨o, es, ep, e1, e2, r⟩ := z
      refine ⟨o, es, ep, up e1 (free e1 (fun _ _ y => ?_) fun y => ?_), e2, r⟩
      · rw [e2] at y; cases y
      · rw [e2] at y; cases y
    have kinU : K.In (hidT st.heap H) := fun b o z => up (kin b o z) (by
      cases q : H b with
      | none => rfl
      | some u =>
        rcases only b u q with ⟨rfl, kn, _⟩ | ⟨m, _⟩
        · rw [kn] at z; cases z
        · obtain ⟨p, hp, rfl⟩ := List.mem_map.mp m
          rw [nT p hp] at z; cases z)
    have limU : (hidT st.heap H).NoLimit := by
      obtain ⟨mc, z1, z2⟩ := nl
      exact ⟨mc, nsU z1, z2⟩
    have tabU : ∀ p ∈ cs, LamX.TabB (hidT st.heap H) mg p.1 p.2 := fun p hp => by
      have tp := hT p hp
      refine ⟨?_, ?_, fun z => ?_⟩
      · obtain ⟨o, vs, file, tf, flags, tg, inF, text, tt, e1, r1, r2, r3, r4⟩ := hC p hp
        refine ⟨o, vs, file, tf, flags, tg, inF, text, tt, up e1 (free e1 (fun _ _ y => ?_) fun y => ?_), r1, r2, r3, r4⟩
        · rw [r2] at y; cases y
        · rw [r2] at y; cases y; simp at r3
      · obtain ⟨bm, ob, b1, b2, b3, b4, b5, b6⟩ := hbm
        refine ⟨bm, ob, b1, b2, fun y => ?_, fun y => ?_, up b3 (free b3 (fun _ _ y => ?_) fun y => ?_), b4, b5, b6⟩
        · obtain ⟨o, es, ep, e1, e2, _⟩ := gl
          rw [y, e1] at b3; cases b3; rw [e2] at b6; cases b6
        · rw [y, tp] at b3; cases b3; cases b6
        · rw [b6] at y; cases y
        · rw [b6] at y; cases y
      · obtain ⟨o, es, ep, e1, e2, _⟩ := gl
        rw [z, tp] at e1; cases e1; cases e2
    have tabs0 : LamX.Tabs Cl.T H := fun q hq => by
      obtain ⟨p, hp, e⟩ := hTl q hq
      exact LamX.TabS.nil (tabs q.1 (List.mem_map.mpr ⟨p, hp, e⟩))
    have env : Env0 P w K mg (hidT st.heap H) callerA [] st H := ⟨rfl, ⟨kinU, nsU gl, ⟨mb, nsU bl, bb⟩, limU⟩, fun _ _ z => of_hidT z, Nat.le_of_eq (hidT_size _ _), trivial, fun b z => (by simp [frs] at z), hok, .of_eq ge⟩
    have go := (Fg _ kinU (nsU gl) tabU).run callerA [] st H ⟨[.ref a], []⟩ [.ref a] [.ref a] _ _ rm (fun _ => rfl) env (bd st (.ref a)) (.cons rfl .nil) (end_sp (Cl := Cl) tabs0 fo spec)
    refine codeAny_mono go fun r s' z => ?_
    cases r with
    | error er =>
      rcases z with z | z
      · obtain ⟨_, _, _, _, _, _, _, _, _, _, _, _, q⟩ := z
        exact q.2.elim
      · obtain ⟨_, _, _, _, _, _, _, _, _, _, _, _, q⟩ := z
        exact q.2.elim
    | ok fl =>
      cases fl with
      | next => exact False.elim z
      | brk => exact False.elim z
      | cont => exact False.elim z
      | ret u =>
        obtain ⟨v, H', eo, ba, un, hok', rl, q⟩ := z
        have q' : v = .bl true := q
        subst q'
        cases (show u = Value.bool true from rl)
        have same : ∀ b o, b ∉ cs.map (·.2) → st.heap.get? b = some o → s'.heap.get? b = some o := fun b o nb e => by
          cases qb : H b with
          | none => exact un.keep b o e qb (by simp [frs]) (by simp)
          | some y =>
            rcases only b y qb with ⟨_, _, rfl⟩ | ⟨m, _⟩
            · obtain ⟨w1, _⟩ := hok b _ qb
              obtain ⟨w2, _⟩ := hok' b _ (un.frzs b _ _ qb)
              rw [e] at w1
              cases w1
              exact w2
            · exact absurd m nb
        have grow : ∀ p ∈ cs, ∃ more : Array Value, s'.heap.get? p.2 = some { cls := .none, data := .fields more } := fun p hp => by
          obtain ⟨more, y⟩ := un.tbls p.2 #[] (tabs p.2 (List.mem_map.mpr ⟨p, hp, rfl⟩))
          exact ⟨_, hok' p.2 _ y⟩
        refine ⟨rfl, ⟨fun b o e => ?_, fun b o e => ?_⟩, eo, ba⟩
        · by_cases hb : b ∈ cs.map (·.2)
          · obtain ⟨p, hp, rfl⟩ := List.mem_map.mp hb
            obtain ⟨more, hm⟩ := grow p hp
            rw [hT p hp] at e
            cases e
            exact .inr (.inl ⟨((hC p hp).tab (hT p hp)).isCodeTable, rfl, #[], more, rfl, by rw [Array.empty_append]; exact hm⟩)
          · exact .inl (same b o hb e)
        · by_cases hb : b ∈ cs.map (·.2)
          · obtain ⟨p, hp, rfl⟩ := List.mem_map.mp hb
            obtain ⟨more, hm⟩ := grow p hp
            exact ⟨_, hm⟩
          · exact ⟨o, same b o hb e⟩
  cases hk : K.lookup a with
  | some o =>
    have z := kin a o hk
    rw [oa] at z
    cases z
    refine main (fun b => if b ∈ cs.map (·.2) then some (.tbl #[]) else none) (fun b u y => ?_) (fun b hb => if_pos hb) (.inr ⟨_, us.toArray, _, hk, rfl, rfl, rfl, by rw [List.size_toArray, ia.length]; exact sz, by simpa using rv⟩) (fun b u y => ?_)
    · by_cases hb : b ∈ cs.map (·.2)
      · have y' := (if_pos hb).symm.trans y; cases y'; exact .inr ⟨hb, rfl⟩
      · have y' := (if_neg hb).symm.trans y; cases y'
    · by_cases hb : b ∈ cs.map (·.2)
      · have y' := (if_pos hb).symm.trans y; cases y'; exact tob b hb
      · have y' := (if_neg hb).symm.trans y; cases y'
  | none =>
    refine main (fun b => if b = a then some (.frz { cls := .type "list", data := .seq us.toArray } (.lst (ns.map V.int))) else if b ∈ cs.map (·.2) then some (.tbl #[]) else none) (fun b u y => ?_) (fun b hb => ?_) (.inl ⟨_, if_pos rfl⟩) (fun b u y => ?_)
    · by_cases hb : b = a
      · have y' := (if_pos hb).symm.trans y; cases y'; exact .inl ⟨hb, hk, rfl⟩
      · have y1 := (if_neg hb).symm.trans y
        by_cases hb2 : b ∈ cs.map (·.2)
        · have y' := (if_pos hb2).symm.trans y1; cases y'; exact .inr ⟨hb2, rfl⟩
        · have y' := (if_neg hb2).symm.trans y1; cases y'
    · have hba : ¬ b = a := fun z => na (z ▸ hb)
      exact (if_neg hba).trans (if_pos hb)
    · by_cases hb : b = a
      · have y' := (if_pos hb).symm.trans y
        cases y'
        subst hb
        exact ⟨oa, by rw [List.length_map]; exact sz, us, _, rv, oa⟩
      · have y1 := (if_neg hb).symm.trans y
        by_cases hb2 : b ∈ cs.map (·.2)
        · have y' := (if_pos hb2).symm.trans y1; cases y'; exact tob b hb2
        · have y' := (if_neg hb2).symm.trans y1; cases y'
/-- a law by its own def's promise over trees -/
theorem walk_D {l : PySem.W.OpenLaw} {n k : Nat} {q : Program} {loose : List Str} {XP : (Str → Option Value) → Heap → Prop} {YP : World → Heap → Prop} {d : DefRec} {x : Str} {gd : Bool} {f : FnD}
    (hn : l.most = some n) (hn2 : n ≤ sizeLine) (hdf : d.params.defaults = []) (rm : Room k callerA)
    (spec : ∀ ns : List Int, ns.length ≤ n → f [.fro (ns.map D.int)] [] (fun d _ => d = .bl true) fun _ _ => False)
    (F : ∀ (w : World) (mg : Str → Option Value) (fa : Addr) (h : Heap), YP w h → h.Ns mainGlobals mg → mg d.name = some (.ref fa) → ∃ (K : Fg) (fd : FuncData) (Cl : Cm) (cs : List (Addr × Addr)), K.In h ∧ (∀ (s : Shared) (u : Value), BindsTo s fd ⟨[u], []⟩ [(x, u)]) ∧
      (∀ p ∈ cs, h.get? p.2 = some emptyT) ∧ (∀ p ∈ cs, K.lookup p.2 = none) ∧ (∀ p ∈ cs, PySem.W.codeHdIn K p.1 p.2 = true) ∧ (∀ q ∈ Cl.T, ∃ p ∈ cs, p.2 = q.1) ∧
      ∀ base : Heap, K.In base → base.Ns mainGlobals mg → (∀ p ∈ cs, LamX.TabB base mg p.1 p.2) → FnG l.prog w K mg base gd k fa fd [x] (liftF K Cl 1 f)) :
    PySem.W.WalkO q loose XP YP l.row.toRowW d [] (fun f vs => PySem.call f vs) := by
  refine Att.attach_call hn hdf fun w t₀ t₁ mg mb fa o pm cd doc a us ns Gr Y ho hd hcd hm hobj hints hlen hgn => ?_
  obtain ⟨K, fd, Cl, cs, kx, hb, c1, c2, c3, c4, hF⟩ := F w mg fa _ Y Gr.T.g hm
  exact end_call kx Gr.T.g Gr.T.b Gr.T.builtins Gr.T.nolimit hgn c1 c2 (fun p hp => PySem.W.codeHd_of_K kx (c3 p hp)) c4 Gr.T.bmain hobj hints (Nat.le_trans hlen hn2) rm hF hb (spec ns hlen)
end DL
set_option maxHeartbeats 8000000
namespace DL
open PySem PySem.Spec PyProof.Rows L2
def frX (n : Nat) (g : Addr → Option Obj) : Fg := He.frT g (He.asD g n ++ [PySem.cStatics])
def obsX (n : Nat) (fa : List He.Fa) (fn : List He.DefD) (xt : Fg → Bool) (tf : List He.Defn) (g : Addr → Option Obj) : He.AlD := ((He.obsD fa fn (frX n g)).1 && (xt (frX n g) && He.tabsB g tf (frX n g)), (He.obsD fa fn (frX n g)).2)
structure SaysX (fa : List He.Fa) (fn : List He.DefD) (xt : Fg → Bool) (tf : List He.Defn) (h : Heap) (K : Fg) : Prop where
  d : He.SaysD fa fn K
  x : xt K = true
  hd : ∀ p ∈ tf, PySem.W.codeHdIn K (He.cT K p).1 (He.cT K p).2 = true
  out : ∀ p ∈ tf, K.lookup (He.cT K p).2 = none
  emp : ∀ p ∈ tf, h.get? (He.cT K p).2 = some { cls := .none, data := .fields #[] }
def hookX (n : Nat) (fa : List He.Fa) (fn : List He.DefD) (xt : Fg → Bool) (tf : List He.Defn) : PySem.W.Hook where
  α := He.AlD
  obs := fun s => obsX n fa fn xt tf s.heap.get?
  val := fun _ => He.valD fn
  says := fun _ h => ∃ K : Fg, K.In h ∧ SaysX fa fn xt tf h K
  of := fun _ s e => by
    refine ⟨frX n s.heap.get?, He.frT_in, ?_⟩
    have e0 : (((He.obsD fa fn (frX n s.heap.get?)).1 && (xt (frX n s.heap.get?) && He.tabsB s.heap.get? tf (frX n s.heap.get?)), (He.obsD fa fn (frX n s.heap.get?)).2) : He.AlD) = He.valD fn := e
    have e1 : ((He.obsD fa fn (frX n s.heap.get?)).1 && (xt (frX n s.heap.get?) && He.tabsB s.heap.get? tf (frX n s.heap.get?))) = true := (Prod.mk.inj e0).1
    have e2 : (He.obsD fa fn (frX n s.heap.get?)).2 = (He.valD fn).2 := (Prod.mk.inj e0).2
    obtain ⟨a, b⟩ := ba2 e1
    obtain ⟨b, c⟩ := ba2 b
    have key : ∀ p ∈ tf, PySem.W.codeHdIn (frX n s.heap.get?) (He.cT (frX n s.heap.get?) p).1 (He.cT (frX n s.heap.get?) p).2 = true ∧ ∃ o, s.heap.get? (He.cT (frX n s.heap.get?) p).2 = some o ∧ He.emptyTab o = true := fun p hp => by
      obtain ⟨k1, k2⟩ := ba2 (List.all_eq_true.mp c p hp)
      refine ⟨k1, ?_⟩
      split at k2
      · rename_i o ho; exact ⟨o, ho, k2⟩
      · cases k2
    exact ⟨Prod.ext a e2, b, fun p hp => (key p hp).1, fun p hp => by obtain ⟨_, o, q, z⟩ := key p hp; exact He.frT_none q z, fun p hp => by obtain ⟨_, o, q, z⟩ := key p hp; rw [q, He.emptyTab_eq z]⟩
  keeps := fun _ _ _ ⟨K, hK, c⟩ k => ⟨K, PySem.W.Frag.In.keeps hK k, ⟨c.d, c.x, c.hd, c.out, fun p hp => k _ _ (c.emp p hp)⟩⟩
theorem obsX_eq {n : Nat} {fa : List He.Fa} {fn : List He.DefD} {xt : Fg → Bool} {tf : List He.Defn} {g : Addr → Option Obj} {s : Shared} (h : ∀ a, g a = s.heap.get? a) : obsX n fa fn xt tf g = (hookX n fa fn xt tf).obs s := by
  have e : g = s.heap.get? := funext h
  rw [e]; rfl
end DL
set_option maxHeartbeats 4000000
namespace DL
open PySem PySem.Spec PyProof.Rows L2
section
variable {ds : DSt} {h : Hs} {P : W → Hs → Prop} {Pv : D → Hs → Prop} {Pa : List D → Hs → Prop} {Pt : Bool → Hs → Prop} {Z : XD} {Q : DEnds} {t u : TDE} {i : Nat}
@[simp] theorem x_dD : dD t ds h Pv Z = t ds h (fun w h' => ∃ d, toD w = some d ∧ Pv d h') Z := rfl
@[simp] theorem x_var : dVar i ds h P Z = ∃ w, ds[i]? = some (some w) ∧ P w h := rfl
@[simp] theorem x_c {d : D} : dC d ds h P Z = P (.d d) h := rfl
@[simp] theorem x_op2 {r : W → W → (W → Prop) → Prop} : dOp2 r t u ds h P Z = t ds h (fun x h1 => u ds h1 (fun y h2 => r x y fun z => P z h2) Z) Z := rfl
@[simp] theorem x_op1 {r : W → (W → Prop) → Prop} : dOp1 r t ds h P Z = t ds h (fun x h1 => r x fun z => P z h1) Z := rfl
@[simp] theorem x_and : dAnd t u ds h P Z = t ds h (fun x h1 => ∃ b, truW x = some b ∧ if b = true then u ds h1 P Z else P x h1) Z := rfl
@[simp] theorem x_or : dOr t u ds h P Z = t ds h (fun x h1 => ∃ b, truW x = some b ∧ if b = true then P x h1 else u ds h1 P Z) Z := rfl
@[simp] theorem x_notV : dNotV t ds h P Z = t ds h (fun x h1 => ∃ b, truW x = some b ∧ P (.d (.bl (!b))) h1) Z := rfl
@[simp] theorem x_if {c : TDT} : dIf c t u ds h P Z = c ds h (fun b h1 => if b = true then t ds h1 P Z else u ds h1 P Z) Z := rfl
@[simp] theorem x_ifT {c a b : TDT} : dIfT c a b ds h Pt Z = c ds h (fun x h1 => if x = true then a ds h1 Pt Z else b ds h1 Pt Z) Z := rfl
@[simp] theorem x_tru : dTru t ds h Pt Z = t ds h (fun w h' => ∃ b, truW w = some b ∧ Pt b h') Z := rfl
@[simp] theorem x_andT {a b : TDT} : dAndT a b ds h Pt Z = a ds h (fun x h1 => if x = true then b ds h1 Pt Z else Pt false h1) Z := rfl
@[simp] theorem x_orT {a b : TDT} : dOrT a b ds h Pt Z = a ds h (fun x h1 => if x = true then Pt true h1 else b ds h1 Pt Z) Z := rfl
@[simp] theorem x_notT {a : TDT} : dNotT a ds h Pt Z = a ds h (fun b h1 => Pt (!b) h1) Z := rfl
@[simp] theorem x_cmpT {op : Cop} : dCmpT op t u ds h Pt Z = t ds h (fun x h1 => u ds h1 (fun y h2 => wCmp op x y fun z => ∃ b, z = .d (.bl b) ∧ Pt b h2) Z) Z := rfl
@[simp] theorem x_isT {n : Bool} : dIsT n t ds h Pt Z = t ds h (fun x h1 => Pt (xor n (isNon x)) h1) Z := rfl
@[simp] theorem x_nil : dNil ds h Pa Z = Pa [] h := rfl
@[simp] theorem x_cons {a : TDA} : dCons t a ds h Pa Z = dD t ds h (fun x h1 => a ds h1 (fun xs h2 => Pa (x :: xs) h2) Z) Z := rfl
@[simp] theorem x_tup {a : TDA} : dTup a ds h P Z = a ds h (fun xs h1 => xs.length ≤ sizeLine ∧ P (.d (.tup xs)) h1) Z := rfl
@[simp] theorem x_lst {a : TDA} : dLst a ds h P Z = a ds h (fun xs h1 => xs.length ≤ sizeLine ∧ P (.new xs) h1) Z := rfl
@[simp] theorem x_call {n : Nat} {f : FnD} {a : TDA} : dCall n f a ds h P Z = a ds h (fun xs h1 => xs.length = n ∧ f xs h1 (fun d h2 => P (.d d) h2) Z) Z := rfl
@[simp] theorem x_mm {mx : Bool} : dMM mx t u ds h P Z = dCons t (dCons u dNil) ds h (fun xs h' => ∃ i j, xs = [.int i, .int j] ∧ P (.d (.int (mmI mx i j))) h') Z := rfl
@[simp] theorem x_join : dJoin t u ds h P Z = t ds h (fun x h1 => (∃ a, x = .d (.str a)) ∧ u ds h1 (fun y h2 => wJoin x y fun z => P z h2) Z) Z := rfl
@[simp] theorem x_act {a : Addr → ActD} : dAct i a ds h P Z = ∃ f, ds[i]? = some (some (.fn f)) ∧ a f h (fun d h' => P (.d d) h') Z := rfl
@[simp] theorem x_lam {sp : HFn} : dLam sp t ds h P Z = sp (fun h' P' Z' => dD t ds h' P' Z') h (fun d h' => P (.d d) h') Z := rfl
@[simp] theorem x_dic {ks : List Str} {a : TDA} : dDic ks a ds h P Z = a ds h (fun xs h1 => xs.length = ks.length ∧ P (.d (.ref h1.length)) (h1 ++ [.dic ((ks.map Sum.inr).zip xs)])) Z := rfl
@[simp] theorem keyW_i {n : Int} : keyW (.d (.int n)) = some (.inl n) := rfl
@[simp] theorem keyW_s {x : Str} : keyW (.d (.str x)) = some (.inr x) := rfl
@[simp] theorem x_next : dNext ds h Q = Q.nx ds h := rfl
@[simp] theorem x_seq {a b : TDS} : dSeq a b ds h Q = a ds h { Q with nx := fun ds' h' => b ds' h' Q } := rfl
@[simp] theorem x_ret : dRet t ds h Q = dD t ds h (fun d h' => Q.rt d h') (fun x h' => Q.ex x ds h') := rfl
@[simp] theorem x_set : dSet i t ds h Q = dD t ds h (fun d h' => Q.nx (ds.set i (some (.d d))) h') (fun x h' => Q.ex x ds h') := rfl
@[simp] theorem x_own : dOwn i t ds h Q = t ds h (fun w h' => ∃ xs, w = .new xs ∧ Q.nx (ds.set i (some (.own xs))) h') (fun x h' => Q.ex x ds h') := rfl
@[simp] theorem x_ite {c : TDT} {a b : TDS} : dIte c a b ds h Q = c ds h (fun b' h' => if b' = true then a ds h' Q else b ds h' Q) (fun x h' => Q.ex x ds h') := rfl
@[simp] theorem x_asg {g : Tg} : dAsg g t ds h Q = dD t ds h (fun d h' => g.put d ds fun ds' => Q.nx ds' h') (fun x h' => Q.ex x ds h') := rfl
@[simp] theorem x_for {it : TDI} {g : Tg} {b : TDS} : dFor it g b ds h Q = it ds h (fun xs h' => forD g b Q xs ds h') (fun x h' => Q.ex x ds h') := rfl
@[simp] theorem toD_d {x : D} : toD (.d x) = some x := rfl
@[simp] theorem toD_new {xs : List D} : toD (.new xs) = some (.lst xs) := rfl
@[simp] theorem tru_non : truW (.d .non) = some false := rfl
@[simp] theorem tru_bl {b : Bool} : truW (.d (.bl b)) = some b := rfl
@[simp] theorem tru_int {i : Int} : truW (.d (.int i)) = some (i != 0) := rfl
@[simp] theorem isNon_d {x : D} : isNon (.d x) = (match x with | .non => true | _ => false) := by cases x <;> rfl
@[simp] theorem wIs_d {n : Bool} {x : W} {Qw : W → Prop} : wIs n x Qw = Qw (.d (.bl (xor n (isNon x)))) := rfl
@[simp] theorem put_nm {j : Nat} {d : D} {Pp : DSt → Prop} : (Tg.nm j).put d ds Pp = Pp (ds.set j (some (.d d))) := by unfold Tg.put; rfl
@[simp] theorem put_tp {ts : Tgs} {d : D} {Pp : DSt → Prop} : (Tg.tp ts).put d ds Pp = ∃ xs, d = .tup xs ∧ xs.length = ts.len ∧ ts.put xs ds Pp := by rw [Tg.put]
@[simp] theorem puts_nil {xs : List D} {Pp : DSt → Prop} : Tgs.nil.put xs ds Pp = (xs = [] ∧ Pp ds) := by rw [Tgs.put]
@[simp] theorem puts_cons {a : Tg} {ts : Tgs} {x : D} {xs : List D} {Pp : DSt → Prop} : (Tgs.cons a ts).put (x :: xs) ds Pp = a.put x ds fun ds' => ts.put xs ds' Pp := by
  rw [Tgs.put]
  apply propext
  constructor
  · rintro ⟨y, r, e, p⟩; cases e; exact p
  · intro p; exact ⟨x, xs, rfl, p⟩
end
end DL
set_option maxHeartbeats 4000000
namespace DL
open PySem PySem.Spec PyProof.Rows L2
mutual
/-- at least as long as the text of it -/
def szD : D → Nat
  | .non => 4
  | .bl _ => 5
  | .int i => i.natAbs.log2 + 3
  | .str s => 10 * s.cps.size + 2
  | .ty _ => 0
  | .ref _ => 0
  | .tup xs => szDs xs + 3
  | .lst xs => szDs xs + 3
  | .fro xs => szDs xs + 3
  | .wtp xs => szDs xs + 3
def szDs : List D → Nat
  | [] => 0
  | x :: xs => szD x + 2 + szDs xs
end
mutual
def dpD : D → Nat
  | .tup xs => dpDs xs + 1
  | .lst xs => dpDs xs + 1
  | .fro xs => dpDs xs + 1
  | .wtp xs => dpDs xs + 1
  | _ => 0
def dpDs : List D → Nat
  | [] => 0
  | x :: xs => max (dpD x) (dpDs xs)
end
mutual
/-- plain data: what can be shown and compared -/
def plD : D → Bool
  | .non => true
  | .bl _ => true
  | .int i => decide (i.natAbs.log2 < 1920)
  | .str s => PyData.strOk s
  | .ty _ => false
  | .ref _ => false
  | .tup xs => plDs xs
  | .lst xs => plDs xs
  | .fro xs => plDs xs
  | .wtp xs => plDs xs
def plDs : List D → Bool
  | [] => true
  | x :: xs => plD x && plDs xs
end
mutual
def pyD : D → PyData
  | .non => .none
  | .bl b => .bool b
  | .int i => .int i
  | .str s => .str s
  | .ty _ => .none
  | .ref _ => .none
  | .tup xs => .tuple (pyDs xs)
  | .lst xs => .list (pyDs xs)
  | .fro xs => .list (pyDs xs)
  | .wtp xs => .tuple (pyDs xs)
def pyDs : List D → List PyData
  | [] => []
  | x :: xs => pyD x :: pyDs xs
end
mutual
theorem toPy_pl : ∀ {x : D}, plD x = true → toPy x = some (pyD x)
  | .non, _ => by simp [toPy, pyD]
  | .bl _, _ => by simp [toPy, pyD]
  | .int _, _ => by simp [toPy, pyD]
  | .str _, _ => by simp [toPy, pyD]
  | .ty _, h => by simp [plD] at h
  | .ref _, h => by simp [plD] at h
  | .tup xs, h => by simp [toPy, pyD, toPys_pl (xs := xs) (by simpa [plD] using h)]
  | .lst xs, h => by simp [toPy, pyD, toPys_pl (xs := xs) (by simpa [plD] using h)]
  | .fro xs, h => by simp [toPy, pyD, toPys_pl (xs := xs) (by simpa [plD] using h)]
  | .wtp xs, h => by simp [toPy, pyD, toPys_pl (xs := xs) (by simpa [plD] using h)]
theorem toPys_pl : ∀ {xs : List D}, plDs xs = true → toPys xs = some (pyDs xs)
  | [], _ => by simp [toPys, pyDs]
  | x :: xs, h => by
    simp [plDs] at h
    simp [toPys, pyDs, toPy_pl h.1, toPys_pl h.2]
end
mutual
theorem shw_pl : ∀ {x : D}, plD x = true → (pyD x).showable = true
  | .non, _ => by simp [pyD, PyData.showable]
  | .bl _, _ => by simp [pyD, PyData.showable]
  | .int _, h => by simpa [pyD, PyData.showable, plD] using h
  | .str _, _ => by simp [pyD, PyData.showable]
  | .ty _, h => by simp [plD] at h
  | .ref _, h => by simp [plD] at h
  | .tup xs, h => by simpa [pyD, PyData.showable] using shws_pl (xs := xs) (by simpa [plD] using h)
  | .lst xs, h => by simpa [pyD, PyData.showable] using shws_pl (xs := xs) (by simpa [plD] using h)
  | .fro xs, h => by simpa [pyD, PyData.showable] using shws_pl (xs := xs) (by simpa [plD] using h)
  | .wtp xs, h => by simpa [pyD, PyData.showable] using shws_pl (xs := xs) (by simpa [plD] using h)
theorem shws_pl : ∀ {xs : List D}, plDs xs = true → PyData.showableAll (pyDs xs) = true
  | [], _ => by simp [PyData.showableAll, pyDs]
  | x :: xs, h => by
    simp [plDs] at h
    simp [PyData.showableAll, pyDs, shw_pl h.1, shws_pl h.2]
end
mutual
theorem dep_pl : ∀ (x : D), (pyD x).depth = dpD x
  | .non => by simp [pyD, PyData.depth, dpD]
  | .bl _ => by simp [pyD, PyData.depth, dpD]
  | .int _ => by simp [pyD, PyData.depth, dpD]
  | .str _ => by simp [pyD, PyData.depth, dpD]
  | .ty _ => by simp [pyD, PyData.depth, dpD]
  | .ref _ => by simp [pyD, PyData.depth, dpD]
  | .tup xs => by simp [pyD, PyData.depth, dpD, deps_pl xs]
  | .lst xs => by simp [pyD, PyData.depth, dpD, deps_pl xs]
  | .fro xs => by simp [pyD, PyData.depth, dpD, deps_pl xs]
  | .wtp xs => by simp [pyD, PyData.depth, dpD, deps_pl xs]
theorem deps_pl : ∀ (xs : List D), PyData.depthAll (pyDs xs) = dpDs xs
  | [] => by simp [PyData.depthAll, pyDs, dpDs]
  | x :: xs => by simp [PyData.depthAll, pyDs, dpDs, dep_pl x, deps_pl xs]
end
mutual
theorem lay_pl : ∀ {x : D}, plD x = true → (pyD x).canLay0 = true
  | .non, _ => by simp [pyD, PyData.canLay0]
  | .bl _, _ => by simp [pyD, PyData.canLay0]
  | .int _, h => by simp [pyD, PyData.canLay0]
  | .str _, h => by simpa [pyD, PyData.canLay0, plD] using h
  | .ty _, h => by simp [plD] at h
  | .ref _, h => by simp [plD] at h
  | .tup xs, h => by simpa [pyD, PyData.canLay0] using lays_pl (xs := xs) (by simpa [plD] using h)
  | .lst xs, h => by simpa [pyD, PyData.canLay0] using lays_pl (xs := xs) (by simpa [plD] using h)
  | .fro xs, h => by simpa [pyD, PyData.canLay0] using lays_pl (xs := xs) (by simpa [plD] using h)
  | .wtp xs, h => by simpa [pyD, PyData.canLay0] using lays_pl (xs := xs) (by simpa [plD] using h)
theorem lays_pl : ∀ {xs : List D}, plDs xs = true → PyData.canLayAll0 (pyDs xs) = true
  | [], _ => by simp [PyData.canLayAll0, pyDs]
  | x :: xs, h => by
    simp [plDs] at h
    simp [PyData.canLayAll0, pyDs, lay_pl h.1, lays_pl h.2]
end
theorem sAll_len : ∀ (xs : List D), (PyData.shownAll (pyDs xs)).length = xs.length
  | [] => by simp [pyDs, PyData.shownAll]
  | x :: xs => by simp [pyDs, PyData.shownAll, sAll_len xs]
mutual
theorem len_pl : ∀ {x : D}, plD x = true → (pyD x).shown.length ≤ szD x
  | .non, _ => by simp only [pyD, szD]; decide
  | .bl b, _ => by simp only [pyD, szD]; cases b <;> decide
  | .int i, h => by
    simp only [pyD, szD, PyData.shown]
    have := int_text_length_le (a := i) (k := i.natAbs.log2 + 1) (by omega) (by omega)
    rw [PySem.ofString_length]
    omega
  | .str s, h => by
    simp only [pyD, szD, PyData.shown]
    refine StrLaws.reprText_len s fun c hc => ?_
    have h0 : s.cps.all (· < 0x110000) = true := by simpa only [plD, PyData.strOk] using h
    have := (Array.all_eq_true_iff_forall_mem.mp h0) c (Array.mem_toList_iff.mp hc)
    have e : (16 : Nat) ^ 8 = 4294967296 := by decide
    have : c < 0x110000 := by simpa using this
    omega
  | .ty _, h => by simp [plD] at h
  | .ref _, h => by simp [plD] at h
  | .tup xs, h => by
    have h1 := lens_pl (xs := xs) (by simpa [plD] using h)
    have h2 := tupleText_len_le (PyData.shownAll (pyDs xs))
    have h3 := sAll_len xs
    simp only [pyD, szD, PyData.shown]
    omega
  | .lst xs, h => by
    have h1 := lens_pl (xs := xs) (by simpa [plD] using h)
    have h2 := listText_len_le (PyData.shownAll (pyDs xs))
    have h3 := sAll_len xs
    simp only [pyD, szD, PyData.shown]
    omega
  | .wtp xs, h => by
    have h1 := lens_pl (xs := xs) (by simpa [plD] using h)
    have h2 := tupleText_len_le (PyData.shownAll (pyDs xs))
    have h3 := sAll_len xs
    simp only [pyD, szD, PyData.shown]
    omega
  | .fro xs, h => by
    have h1 := lens_pl (xs := xs) (by simpa [plD] using h)
    have h2 := listText_len_le (PyData.shownAll (pyDs xs))
    have h3 := sAll_len xs
    simp only [pyD, szD, PyData.shown]
    omega
theorem lens_pl : ∀ {xs : List D}, plDs xs = true → ((PyData.shownAll (pyDs xs)).map (·.length)).sum + 2 * xs.length ≤ szDs xs
  | [], _ => by simp [pyDs, PyData.shownAll, szDs]
  | x :: xs, h => by
    simp [plDs] at h
    have h1 := len_pl h.1
    have h2 := lens_pl h.2
    simp only [pyDs, PyData.shownAll, szDs, List.map_cons, List.sum_cons, List.length_cons]
    omega
end
/-- plain, not longer than n, not deeper than d -/
structure Bd (n d : Nat) (x : D) : Prop where
  pl : plD x = true
  sz : szD x ≤ n
  dp : dpD x ≤ d
structure Bds (n d : Nat) (xs : List D) : Prop where
  pl : plDs xs = true
  sz : szDs xs ≤ n
  dp : dpDs xs ≤ d
theorem Bd.mono {n d n' d' : Nat} {x : D} (h : Bd n d x) (hn : n ≤ n' := by omega) (hd : d ≤ d' := by omega) : Bd n' d' x := ⟨h.pl, Nat.le_trans h.sz hn, Nat.le_trans h.dp hd⟩
theorem Bds.mono {n d n' d' : Nat} {x : List D} (h : Bds n d x) (hn : n ≤ n' := by omega) (hd : d ≤ d' := by omega) : Bds n' d' x := ⟨h.pl, Nat.le_trans h.sz hn, Nat.le_trans h.dp hd⟩
theorem Bds.nil {d : Nat} : Bds 0 d [] := ⟨by simp [plDs], by simp [szDs], by simp [dpDs]⟩
theorem Bds.cons {n m d e : Nat} {x : D} {xs : List D} (h : Bd n d x) (hs : Bds m e xs) : Bds (n + 2 + m) (max d e) (x :: xs) :=
  ⟨by simp [plDs, h.pl, hs.pl], by have := h.sz; have := hs.sz; simp only [szDs]; omega, by have := h.dp; have := hs.dp; simp only [dpDs]; omega⟩
theorem Bds.tup {n d : Nat} {xs : List D} (h : Bds n d xs) : Bd (n + 3) (d + 1) (.tup xs) := ⟨by simpa [plD] using h.pl, by simp only [szD]; have := h.sz; omega, by simp only [dpD]; have := h.dp; omega⟩
theorem Bds.lst {n d : Nat} {xs : List D} (h : Bds n d xs) : Bd (n + 3) (d + 1) (.lst xs) := ⟨by simpa [plD] using h.pl, by simp only [szD]; have := h.sz; omega, by simp only [dpD]; have := h.dp; omega⟩
theorem Bds.head {n d : Nat} {x : D} {xs : List D} (h : Bds n d (x :: xs)) : Bd n d x := by
  have a := h.pl; have b := h.sz; have c := h.dp
  simp only [plDs, Bool.and_eq_true] at a; simp only [szDs] at b; simp only [dpDs] at c
  exact ⟨a.1, by omega, by omega⟩
theorem Bds.tail {n d : Nat} {x : D} {xs : List D} (h : Bds n d (x :: xs)) : Bds n d xs := by
  have a := h.pl; have b := h.sz; have c := h.dp
  simp only [plDs, Bool.and_eq_true] at a; simp only [szDs] at b; simp only [dpDs] at c
  exact ⟨a.2, by omega, by omega⟩
theorem Bds.get {n d : Nat} : ∀ {xs : List D} {x : D}, Bds n d xs → x ∈ xs → Bd n d x
  | [], x, _, h => by simp at h
  | y :: xs, x, b, h => by
    rcases List.mem_cons.mp h with rfl | h
    · exact b.head
    · exact b.tail.get h
theorem plDs_app : ∀ {xs ys : List D}, plDs (xs ++ ys) = (plDs xs && plDs ys)
  | [], ys => by simp [plDs]
  | x :: xs, ys => by simp [plDs, plDs_app (xs := xs), Bool.and_assoc]
theorem szDs_app : ∀ {xs ys : List D}, szDs (xs ++ ys) = szDs xs + szDs ys
  | [], ys => by simp [szDs]
  | x :: xs, ys => by simp only [List.cons_append, szDs, szDs_app (xs := xs)]; omega
theorem dpDs_app : ∀ {xs ys : List D}, dpDs (xs ++ ys) = max (dpDs xs) (dpDs ys)
  | [], ys => by simp [dpDs]
  | x :: xs, ys => by simp only [List.cons_append, dpDs, dpDs_app (xs := xs)]; omega
theorem Bds.app {n m d e : Nat} {xs ys : List D} (h : Bds n d xs) (g : Bds m e ys) : Bds (n + m) (max d e) (xs ++ ys) :=
  ⟨by simp [plDs_app, h.pl, g.pl], by rw [szDs_app]; have := h.sz; have := g.sz; omega, by rw [dpDs_app]; have := h.dp; have := g.dp; omega⟩
theorem Bds.appL {n d : Nat} {xs ys : List D} (h : Bds n d (xs ++ ys)) : Bds n d xs := by
  have a := h.pl; have b := h.sz; have c := h.dp
  rw [plDs_app, Bool.and_eq_true] at a; rw [szDs_app] at b; rw [dpDs_app] at c
  exact ⟨a.1, by omega, by omega⟩
theorem Bds.appR {n d : Nat} {xs ys : List D} (h : Bds n d (xs ++ ys)) : Bds n d ys := by
  have a := h.pl; have b := h.sz; have c := h.dp
  rw [plDs_app, Bool.and_eq_true] at a; rw [szDs_app] at b; rw [dpDs_app] at c
  exact ⟨a.2, by omega, by omega⟩
theorem Bds.take {n d : Nat} {xs : List D} (k : Nat) (h : Bds n d xs) : Bds n d (xs.take k) := Bds.appL (ys := xs.drop k) (by rw [List.take_append_drop]; exact h)
theorem Bds.drop {n d : Nat} {xs : List D} (k : Nat) (h : Bds n d xs) : Bds n d (xs.drop k) := Bds.appR (xs := xs.take k) (by rw [List.take_append_drop]; exact h)
theorem Bds.reverse {n d : Nat} : ∀ {xs : List D}, Bds n d xs → Bds n d xs.reverse := by
  intro xs
  have e1 : ∀ l : List D, plDs l.reverse = plDs l := by intro l; induction l with | nil => rfl | cons x l ih => rw [List.reverse_cons, plDs_app, ih]; simp [plDs, Bool.and_comm]
  have e2 : ∀ l : List D, szDs l.reverse = szDs l := by intro l; induction l with | nil => rfl | cons x l ih => rw [List.reverse_cons, szDs_app, ih]; simp [szDs]; omega
  have e3 : ∀ l : List D, dpDs l.reverse = dpDs l := by intro l; induction l with | nil => rfl | cons x l ih => rw [List.reverse_cons, dpDs_app, ih]; simp [dpDs]; omega
  intro h
  exact ⟨by rw [e1]; exact h.pl, by rw [e2]; exact h.sz, by rw [e3]; exact h.dp⟩
theorem Bds.len {n d : Nat} : ∀ {xs : List D}, Bds n d xs → 2 * xs.length ≤ n := by
  have : ∀ xs : List D, 2 * xs.length ≤ szDs xs := by
    intro xs; induction xs with
    | nil => simp
    | cons x xs ih => simp only [szDs, List.length_cons]; omega
  intro xs h
  exact Nat.le_trans (this xs) h.sz
theorem Bds.all {n d : Nat} : ∀ {xs : List D}, (∀ x ∈ xs, Bd n d x) → Bds (xs.length * (n + 2)) d xs
  | [], _ => by simpa using Bds.nil
  | x :: xs, h => by
    have := Bds.cons (h x (by simp)) (Bds.all (fun y hy => h y (List.mem_cons_of_mem _ hy)))
    refine this.mono ?_ (by omega)
    rw [List.length_cons, Nat.add_mul]; omega
theorem bd_non : Bd 4 0 .non := ⟨rfl, by simp [szD], by simp [dpD]⟩
theorem bd_int {i : Int} {k : Nat} (hk : k < 1920) (h : i.natAbs.log2 ≤ k) : Bd (k + 3) 0 (.int i) := ⟨by simp [plD]; omega, by simp [szD]; omega, by simp [dpD]⟩
theorem bd_int64 {i : Int} (h0 : -(2 ^ 64) < i) (h1 : i < 2 ^ 64) : Bd 67 0 (.int i) := bd_int (k := 64) (by decide) (by
  by_cases hz : i.natAbs = 0
  · rw [hz]; decide
  · have : i.natAbs.log2 < 64 := (Nat.log2_lt hz).mpr (by omega)
    omega)
/-- repr -/
theorem repr_bd {n d : Nat} {x : D} {Q : W → Prop} (h : Bd n d x) (hn : n ≤ sizeLine) (hd : d ≤ 40) (q : Q (.d (.str (pyD x).shown))) : wB1 .repr (.d x) Q :=
  ⟨pyD x, toPy_pl h.pl, shw_pl h.pl, by rw [dep_pl]; have := h.dp; omega, by have := len_pl h.pl; have := h.sz; omega, q⟩
/-- == of data -/
theorem shp_pl {x : D} (h : plD x = true) (hd : dpD x ≤ 64) : SeqAt.shaped (pyD x) = true := by
  unfold SeqAt.shaped
  simp only [lay_pl h, dep_pl, Bool.true_and, decide_eq_true_eq]
  exact hd
theorem data_bd {n m d e : Nat} {x y : D} {ng : Bool} {Q : W → Prop} (h : Bd n d x) (g : Bd m e y) (hd : d ≤ 64) (he : e ≤ 64) (q : Q (.d (.bl (if ng then !PyData.eqv (pyD x) (pyD y) else PyData.eqv (pyD x) (pyD y))))) : wData ng (.d x) (.d y) Q :=
  ⟨_, _, toPy_pl h.pl, toPy_pl g.pl, shp_pl h.pl (Nat.le_trans h.dp hd), shp_pl g.pl (Nat.le_trans g.dp he), q⟩
end DL
set_option maxHeartbeats 8000000
namespace DL
open PySem PySem.Spec PyProof.Rows L2
def fin (Q : D → Hs → Prop) (Z : XD) : DEnds := ⟨fun _ h' => Q .non h', Q, fun y _ h' => Z y h', fun _ _ => False, fun _ _ => False⟩
/-- a def keeps its promise, over trees -/
def Kp (M : Xm) (F : Fns) (m : Ss) (n : Nat) (sp : FnD) : Prop := ∀ xs h Q Z, sp xs h Q Z → m.d M F (startD n xs) h (fin Q Z)
def never : FnD := fun _ _ _ _ => False
def Fns.up (F : Fns) (i : Nat) (sp : FnD) : Fns := { F with f := fun j => if j = i then sp else F.f j }
structure Df where
  name : Str
  st : Stmt
  N : List Str
  ps : List Str
  m : Ss
structure Lw where
  M : Xm
  defs : List Df
  free : List Str
  con : List (Str × D)
  hos : List Df := []
  lam : List Str := []
  ko : List (Str × Nat × List (Str × Kq)) := []
def Lw.koN (L : Lw) (x : Str) : Option (Nat × List (Str × Kq)) := (L.ko.find? fun p => decide (p.1 = x)).map (·.2)
def Lw.G (L : Lw) : Gm := ⟨true, L.defs.map fun d => (d.name, d.ps.length, true), L.free, L.con.map (·.1), L.hos.map (·.name), L.defs.map (·.ps), false, L.defs.map fun d => L.koN d.name⟩
def Lw.GL (L : Lw) (d : Df) : Gm := if d.name ∈ L.lam then { L.G with lm := true } else L.G
def Lw.chk (L : Lw) : Bool := (L.defs.all fun d => defB L.M (L.GL d) d.N d.ps d.m d.st (L.koN d.name)) && L.hos.all fun d => defB L.M L.G d.N d.ps d.m d.st none && decide (d.ps.length = 1)
def Df.he (d : Df) : He.DefD := ⟨(d.name, none), d.name, d.name, defArgs d.st, defBody d.st, defScope d.st, [], []⟩
def kqL : Option (Nat × List (Str × Kq)) → List (Str × Kq)
  | some p => p.2
  | none => []
def Lw.he (L : Lw) (d : Df) : He.DefD := ⟨(d.name, none), d.name, d.name, defArgs d.st, defBody d.st, defScope d.st, [], (kqL (L.koN d.name)).map fun p => (p.1, p.2.dv)⟩
def Lw.kv (L : Lw) (d : Df) : List (Str × V) := (kqL (L.koN d.name)).map fun p => (p.1, p.2.v)
theorem Lw.he_kws (L : Lw) (d : Df) (K : Fg) : (L.he d).kws K = L.kv d := by
  unfold Lw.he Lw.kv He.DefD.kws
  rw [List.map_map]
  exact List.map_congr_left fun p _ => by simp [Kq.dv_v]
def Lw.fn (L : Lw) : List He.DefD := L.defs.map L.he ++ L.hos.map Df.he
def Lw.tf (L : Lw) : List He.Defn := L.lam.map fun x => (x, none)
def Lw.cs (L : Lw) (K : Fg) : List (Addr × Addr) := L.lam.map fun x => He.cT K (x, none)
def lamQ (x : Str) : Str := x ++ ".<locals>." ++ "<lambda>"
def Lw.fa (L : Lw) : List He.Fa := (L.defs.map fun d => .glo d.name) ++ (L.M.names.map .glo) ++ L.free.map .free ++ (L.hos.map fun d => .glo d.name)
def Lw.F0 (L : Lw) : Fns := { f := fun _ => never, c := fun j => ((L.con[j]?).map (·.2)).getD .non }
mutual
def rdB (K : Fg) : D → Value → Bool
  | .non, .none => true
  | .bl b, .bool c => b == c
  | .int i, .int j _ => decide (i = j)
  | .str x, .str y _ => decide (x = y)
  | .wtp ds, .ref a => (match K.lookup a with
    | some ⟨.type c, _, .seq its _, _⟩ => decide (c = "tuple") && (decide (its.size ≤ sizeLine) && rdBs K ds its.toList)
    | _ => false)
  | .fro ds, .ref a => (match K.lookup a with
    | some ⟨.type c, none, .seq its _, _⟩ => decide (c = "list") && (decide (its.size ≤ sizeLine) && rdBs K ds its.toList)
    | _ => false)
  | _, _ => false
def rdBs (K : Fg) : List D → List Value → Bool
  | [], [] => true
  | d :: ds, u :: us => rdB K d u && rdBs K ds us
  | _, _ => false
end
mutual
theorem rdB_ok {K : Fg} : ∀ {d : D} {u : Value}, rdB K d u = true → ∃ v, RelV v u ∧ ∀ R H, RelD K R H d v
  | .non, u, h => by cases u <;> first | (simp [rdB] at h; done) | exact ⟨.non, rfl, fun _ _ => m_non⟩
  | .bl b, u, h => by
    cases u <;> first | (simp [rdB] at h; done) | skip
    simp [rdB] at h; subst h
    exact ⟨.bl b, rfl, fun _ _ => m_bl⟩
  | .int b, u, h => by
    cases u <;> first | (simp [rdB] at h; done) | skip
    simp [rdB] at h; subst h
    exact ⟨.int b, ⟨_, rfl⟩, fun _ _ => m_int⟩
  | .str b, u, h => by
    cases u <;> first | (simp [rdB] at h; done) | skip
    simp [rdB] at h; subst h
    exact ⟨.str b, ⟨_, rfl⟩, fun _ _ => m_str⟩
  | .ty _, u, h => by cases u <;> simp [rdB] at h
  | .ref _, u, h => by cases u <;> simp [rdB] at h
  | .lst _, u, h => by cases u <;> simp [rdB] at h
  | .tup _, u, h => by cases u <;> simp [rdB] at h
  | .wtp ds, u, h => by
    cases u <;> first | (simp [rdB] at h; done) | skip
    rename_i a
    unfold rdB at h
    split at h
    · rename_i c dd its n sl e
      obtain ⟨h1, h⟩ := ba2 h
      obtain ⟨h2, h3⟩ := ba2 h
      cases of_decide_eq_true h1
      obtain ⟨vs, r, t⟩ := rdBs_ok h3
      exact ⟨.ref a, rfl, fun R H => m_wtp (fun _ => .inr ⟨_, its, n, e, rfl, rfl, of_decide_eq_true h2, r⟩) (t R H)⟩
    · cases h
  | .fro ds, u, h => by
    cases u <;> first | (simp [rdB] at h; done) | skip
    rename_i a
    unfold rdB at h
    split at h
    · rename_i c its n sl e
      obtain ⟨h1, h⟩ := ba2 h
      obtain ⟨h2, h3⟩ := ba2 h
      cases of_decide_eq_true h1
      obtain ⟨vs, r, t⟩ := rdBs_ok h3
      refine ⟨.ref a, rfl, fun R H => ?_⟩
      unfold RelD
      exact ⟨a, vs, rfl, .inr ⟨_, its, n, e, rfl, rfl, rfl, of_decide_eq_true h2, r⟩, t R H⟩
    · cases h
theorem rdBs_ok {K : Fg} : ∀ {ds : List D} {us : List Value}, rdBs K ds us = true → ∃ vs, Vals vs us ∧ ∀ R H, RelDs K R H ds vs
  | [], [], _ => ⟨[], .nil, fun _ _ => m_nil⟩
  | [], _ :: _, h => by simp [rdBs] at h
  | _ :: _, [], h => by simp [rdBs] at h
  | d :: ds, u :: us, h => by
    unfold rdBs at h
    obtain ⟨h1, h2⟩ := ba2 h
    obtain ⟨v, r1, t1⟩ := rdB_ok h1
    obtain ⟨vs, r2, t2⟩ := rdBs_ok h2
    exact ⟨v :: vs, .cons r1 r2, fun R H => m_cons (t1 R H) (t2 R H)⟩
end
/-- the module's name x is the constant d -/
def conB (K : Fg) (x : Str) (d : D) : Bool := match PySem.W.nsIn K mainGlobals x with
  | some (some u) => rdB K d u
  | _ => false
def xmB (prog : Program) (M : Xm) (K : Fg) : Bool := decide (M.names.length = M.n) && (List.range M.n).all fun c => xfB K (He.ga K (M.names.getD c "")) && ((List.range M.n).all fun c' =>
    ((M.flds c').all fun f => He.eqO (PySem.W.findIn K (.ref (He.ga K (M.names.getD c ""))) f) (some none)) && decide (PySem.W.exmOne K (.ref (He.ga K (M.names.getD c ""))) (.ref (He.ga K (M.names.getD c' ""))) = some (M.sub c c')) && (decide (c = c') || decide (He.ga K (M.names.getD c "") ≠ He.ga K (M.names.getD c' "")))) &&
  (!M.rs c || (xiB prog K (M.names.getD c "") (M.flds c) && decide ((M.flds c).length ≤ 1000))) && (decide (cold K (.ref (He.ga K (M.names.getD c ""))) = !hotN.contains (M.names.getD c "")) && excB K (He.ga K (M.names.getD c "")))
def Lw.xt (L : Lw) (prog : Program) (K : Fg) : Bool := xmB prog L.M K && ((L.con.all fun p => conB K p.1 p.2) && L.lam.all fun x => L.lam.all fun y => decide (x = y) || decide ((He.cT K (x, none)).2 ≠ (He.cT K (y, none)).2))
def Lw.Cl (L : Lw) (K : Fg) : Cm := ⟨fun c => He.ga K (L.M.names.getD c ""), L.lam.map fun x => ((He.cT K (x, none)).2, lamQ x)⟩
/-- what the head says -/
structure Hd (L : Lw) (P : Program) (K : Fg) (mg : Str → Option Value) : Prop where
  def_ : ∀ (i : Nat) (d : Df), L.defs[i]? = some d → ∃ fd, FunD K d.name d.name (defArgs d.st) (defBody d.st) (defScope d.st) [] (L.kv d) (He.ga K d.name) fd ∧ mg d.name = some (.ref (He.ga K d.name))
  hdef : ∀ (i : Nat) (d : Df), L.hos[i]? = some d → ∃ fd, FunD K d.name d.name (defArgs d.st) (defBody d.st) (defScope d.st) [] [] (He.ga K d.name) fd ∧ mg d.name = some (.ref (He.ga K d.name))
  one : ∀ x ∈ L.lam, ∀ y ∈ L.lam, (He.cT K (x, none)).2 = (He.cT K (y, none)).2 → x = y
  free : ∀ x ∈ L.free, mg x = none
  con : ∀ (j : Nat) (x : Str), (L.con.map (·.1))[j]? = some x → ∃ v u, mg x = some u ∧ RelV v u ∧ ∀ R H, RelD K R H (L.F0.c j) v
  xm : XmOk L.M K (L.Cl K)
  xmg : ∀ (c : Nat) (x : Str), L.M.names[c]? = some x → mg x = some (.ref (L.Cl K c))
  xmk : ∀ (c : Nat) (x : Str), L.M.names[c]? = some x → L.M.rs c = true → (∃ fI, XiC P K mg (L.Cl K c) fI (L.M.flds c)) ∧ (L.M.flds c).length ≤ 1000
theorem Hd.of {L : Lw} {P : Program} {K : Fg} {mg : Str → Option Value} {h : Heap} (kin : K.In h) (ns : h.Ns mainGlobals mg) (hsup : ("super" : Str) ∈ L.free) (c : SaysX L.fa L.fn (L.xt P) L.tf h K) : Hd L P K mg := by
  obtain ⟨c, x, _, _, _⟩ := c
  obtain ⟨x1, x2⟩ := ba2 x
  obtain ⟨x2, x3⟩ := ba2 x2
  have hfr : ∀ y ∈ L.free, mg y = none := fun y hy => by
    have hm : He.Fa.free y ∈ L.fa := by unfold Lw.fa; simp [hy]
    obtain ⟨i, hi⟩ := List.getElem?_of_mem hm
    exact He.free_ok kin ns (c.fact i hi)
  unfold xmB at x1
  obtain ⟨y1, y2⟩ := ba2 x1
  have hn : L.M.names.length = L.M.n := of_decide_eq_true y1
  have y3 : ∀ c, c < L.M.n → (xfB K (He.ga K (L.M.names.getD c "")) && ((List.range L.M.n).all fun c' =>
    ((L.M.flds c').all fun f => He.eqO (PySem.W.findIn K (.ref (He.ga K (L.M.names.getD c ""))) f) (some none)) && decide (PySem.W.exmOne K (.ref (He.ga K (L.M.names.getD c ""))) (.ref (He.ga K (L.M.names.getD c' ""))) = some (L.M.sub c c')) && (decide (c = c') || decide (He.ga K (L.M.names.getD c "") ≠ He.ga K (L.M.names.getD c' "")))) &&
  (!L.M.rs c || (xiB P K (L.M.names.getD c "") (L.M.flds c) && decide ((L.M.flds c).length ≤ 1000)))) = true := fun c hc => (ba2 (List.all_eq_true.mp y2 c (List.mem_range.mpr hc))).1
  have y4 : ∀ c, c < L.M.n → cold K (.ref (He.ga K (L.M.names.getD c ""))) = !hotN.contains (L.M.names.getD c "") := fun c hc => of_decide_eq_true (ba2 (ba2 (List.all_eq_true.mp y2 c (List.mem_range.mpr hc))).2).1
  have y5 : ∀ c, c < L.M.n → excB K (He.ga K (L.M.names.getD c "")) = true := fun c hc => (ba2 (ba2 (List.all_eq_true.mp y2 c (List.mem_range.mpr hc))).2).2
  have gd : ∀ (c : Nat) (x : Str), L.M.names[c]? = some x → L.M.names.getD c "" = x := fun c x e => by simp [List.getD, e]
  refine ⟨fun i d e => ?_, fun i d e => ?_, fun x hx y hy e => ?_, hfr, fun j y e => ?_, ⟨fun c hc => ?_, fun c c' f hc hc' hf => ?_, fun c c' hc hc' => ?_, fun c c' hc hc' he => ?_, fun c hc => y4 c hc, fun c hc => excB_ok (xfB_ok (ba2 (ba2 (y3 c hc)).1).1) (y5 c hc)⟩, fun cc y e => ?_, fun cc y e hr => ?_⟩
  · have hm : He.Fa.glo d.name ∈ L.fa := by
      unfold Lw.fa
      simp only [List.mem_append, List.mem_map]
      exact .inl (.inl (.inl ⟨d, List.mem_of_getElem? e, rfl⟩))
    obtain ⟨j, hj⟩ := List.getElem?_of_mem hm
    obtain ⟨fd, F⟩ := c.defs (d := L.he d) (by unfold Lw.fn; exact List.mem_append_left _ (List.mem_map.mpr ⟨d, List.mem_of_getElem? e, rfl⟩))
    rw [L.he_kws] at F
    exact ⟨fd, F, He.glo_ok kin ns (c.fact j hj)⟩
  · have hm : He.Fa.glo d.name ∈ L.fa := by
      unfold Lw.fa
      simp only [List.mem_append, List.mem_map]
      exact .inr ⟨d, List.mem_of_getElem? e, rfl⟩
    obtain ⟨j, hj⟩ := List.getElem?_of_mem hm
    obtain ⟨fd, F⟩ := c.defs (d := d.he) (by unfold Lw.fn; exact List.mem_append_right _ (List.mem_map.mpr ⟨d, List.mem_of_getElem? e, rfl⟩))
    exact ⟨fd, F, He.glo_ok kin ns (c.fact j hj)⟩
  · have z := List.all_eq_true.mp (List.all_eq_true.mp x3 x hx) y hy
    simp only [Bool.or_eq_true, decide_eq_true_eq] at z
    rcases z with z | z
    · exact z
    · exact absurd e z
  · rw [List.getElem?_map] at e
    obtain ⟨p, e1, rfl⟩ := Option.map_eq_some_iff.mp e
    have q := List.all_eq_true.mp x2 p (List.mem_of_getElem? e1)
    unfold conB at q
    split at q
    · rename_i u hu
      obtain ⟨v, r, t⟩ := rdB_ok q
      refine ⟨v, u, PySem.W.mg_of kin ns hu, r, fun R H => ?_⟩
      have : L.F0.c j = p.2 := by unfold Lw.F0; simp [e1]
      rw [this]
      exact t R H
    · cases q
  · exact xfB_ok (ba2 (ba2 (y3 c hc)).1).1
  · have z := List.all_eq_true.mp (ba2 (ba2 (y3 c hc)).1).2 c' (List.mem_range.mpr hc')
    exact He.eqO_ok (List.all_eq_true.mp (ba2 (ba2 z).1).1 f hf)
  · have z := List.all_eq_true.mp (ba2 (ba2 (y3 c hc)).1).2 c' (List.mem_range.mpr hc')
    exact of_decide_eq_true (ba2 (ba2 z).1).2
  · have z := List.all_eq_true.mp (ba2 (ba2 (y3 c hc)).1).2 c' (List.mem_range.mpr hc')
    have z2 := (ba2 z).2
    simp only [Bool.or_eq_true, decide_eq_true_eq] at z2
    rcases z2 with z2 | z2
    · exact z2
    · exact absurd he z2
  · have hm : He.Fa.glo y ∈ L.fa := by
      unfold Lw.fa
      simp only [List.mem_append, List.mem_map]
      exact .inl (.inl (.inr ⟨y, List.mem_of_getElem? e, rfl⟩))
    obtain ⟨j, hj⟩ := List.getElem?_of_mem hm
    show mg y = some (.ref (He.ga K (L.M.names.getD cc "")))
    rw [gd cc y e]
    exact He.glo_ok kin ns (c.fact j hj)
  · have hc : cc < L.M.n := by rw [← hn]; exact (List.getElem?_eq_some_iff.mp e).1
    have z := (ba2 (y3 cc hc)).2
    rw [hr] at z
    simp only [Bool.not_true, Bool.false_or] at z
    obtain ⟨z1, z2⟩ := ba2 z
    exact ⟨⟨_, xiB_ok z1 (hfr _ hsup)⟩, of_decide_eq_true z2⟩
section
variable {L : Lw} {P : Program} {w : World} {K : Fg} {mg : Str → Option Value} {base : Heap} {F : Fns} {k : Nat}
theorem Lw.cs_emp {h : Heap} (c : SaysX L.fa L.fn (L.xt P) L.tf h K) : ∀ p ∈ L.cs K, h.get? p.2 = some emptyT := fun p hp => by
  obtain ⟨x, hx, rfl⟩ := List.mem_map.mp hp
  exact c.emp _ (List.mem_map.mpr ⟨x, hx, rfl⟩)
theorem Lw.cs_out {h : Heap} (c : SaysX L.fa L.fn (L.xt P) L.tf h K) : ∀ p ∈ L.cs K, K.lookup p.2 = none := fun p hp => by
  obtain ⟨x, hx, rfl⟩ := List.mem_map.mp hp
  exact c.out _ (List.mem_map.mpr ⟨x, hx, rfl⟩)
theorem Lw.cs_hd {h : Heap} (c : SaysX L.fa L.fn (L.xt P) L.tf h K) : ∀ p ∈ L.cs K, PySem.W.codeHdIn K p.1 p.2 = true := fun p hp => by
  obtain ⟨x, hx, rfl⟩ := List.mem_map.mp hp
  exact c.hd _ (List.mem_map.mpr ⟨x, hx, rfl⟩)
theorem Lw.cs_T : ∀ q ∈ (L.Cl K).T, ∃ p ∈ L.cs K, p.2 = q.1 := fun q hq => by
  obtain ⟨x, hx, rfl⟩ := List.mem_map.mp hq
  exact ⟨_, List.mem_map.mpr ⟨x, hx, rfl⟩, rfl⟩
theorem Lw.g_fn {i : Nat} {p : Str × Nat × Bool} (h : L.G.fn[i]? = some p) : ∃ d, L.defs[i]? = some d ∧ p = (d.name, d.ps.length, true) := by
  unfold Lw.G at h
  rw [List.getElem?_map] at h
  obtain ⟨d, e, rfl⟩ := Option.map_eq_some_iff.mp h
  exact ⟨d, e, rfl⟩
theorem Lw.g_hn {i : Nat} {x : Str} (h : L.G.hn[i]? = some x) : ∃ d, L.hos[i]? = some d ∧ x = d.name := by
  unfold Lw.G at h
  rw [List.getElem?_map] at h
  obtain ⟨d, e, rfl⟩ := Option.map_eq_some_iff.mp h
  exact ⟨d, e, rfl⟩
theorem Lw.g_ps {i : Nat} {qs : List Str} {d : Df} (h : L.G.ps[i]? = some qs) (e : L.defs[i]? = some d) : qs = d.ps := by
  unfold Lw.G at h
  rw [List.getElem?_map, e] at h
  cases h; rfl
theorem Lw.chk_at (h : L.chk = true) {i : Nat} {d : Df} (e : L.defs[i]? = some d) : defB L.M (L.GL d) d.N d.ps d.m d.st (L.koN d.name) = true := List.all_eq_true.mp (ba2 h).1 d (List.mem_of_getElem? e)
theorem Lw.chk_h (h : L.chk = true) {i : Nat} {d : Df} (e : L.hos[i]? = some d) : defB L.M L.G d.N d.ps d.m d.st none = true ∧ d.ps.length = 1 := by
  obtain ⟨a, b⟩ := ba2 (List.all_eq_true.mp (ba2 h).2 d (List.mem_of_getElem? e))
  exact ⟨a, of_decide_eq_true b⟩
theorem chk_pos {M : Xm} {G : Gm} {N ps : List Str} {m : Ss} {st : Stmt} {ko : Option (Nat × List (Str × Kq))} (h : defB M G N ps m st ko = true) (hk : ko = none) : posA (defArgs st) = some ps := by
  subst hk
  unfold defB at h
  exact of_decide_eq_true (ba2 h).2
theorem chk_ko {M : Xm} {G : Gm} {N ps : List Str} {m : Ss} {st : Stmt} {np : Nat} {dfl : List (Str × Kq)} {K : Fg} {x qual : Str} {f : Addr} {fd : FuncData} (h : defB M G N ps m st (some (np, dfl)) = true) (Fu : FunD K x qual (defArgs st) (defBody st) (defScope st) [] (dfl.map fun p => (p.1, p.2.v)) f fd) : KoB K fd ps np dfl := by
  unfold defB at h
  obtain ⟨h1, h2⟩ := ba2 (ba2 h).2
  exact koB_of Fu (of_decide_eq_true h1) (of_decide_eq_true h2) fun p hp => List.mem_map.mpr ⟨p, hp, rfl⟩
theorem Lw.g_ko {L : Lw} {i : Nat} {d : Df} (e : L.defs[i]? = some d) : L.G.koA i = L.koN d.name := by
  unfold Lw.G Gm.koA
  rw [List.getElem?_map, e] <;> rfl
theorem Lw.kvs {L : Lw} {d : Df} {np : Nat} {dfl : List (Str × Kq)} (h : L.koN d.name = some (np, dfl)) : L.kv d = dfl.map fun p => (p.1, p.2.v) := by
  unfold Lw.kv
  rw [h] <;> rfl
theorem posA_bindsTo {K : Fg} {x qual y : Str} {st : Stmt} {f : Addr} {fd : FuncData} {kws : List (Str × V)} (Fu : FunD K x qual (defArgs st) (defBody st) (defScope st) [] kws f fd) (h : posA (defArgs st) = some [y]) (s : Shared) (u : Value) : BindsTo s fd ⟨[u], []⟩ [(y, u)] := by
  obtain ⟨oc, od, dV, kV, doc, pm, an, cdv, ct, osl, rfl, lk, hcd, hdv, hkw⟩ := Fu.ex
  have hd : dV = .none := by
    rcases hdv with ⟨_, z⟩ | ⟨z, _⟩
    · exact z
    · exact absurd rfl z
  subst hd
  exact .of_eq (posA_bind (fd := PySem.W.fnOf x qual (defArgs st) (defBody st) (defScope st) .none kV doc pm an cdv ct) h rfl [u] rfl)
theorem funD_bk {K : Fg} {x qual : Str} {st : Stmt} {ps : List Str} {f : Addr} {fd : FuncData} {kws : List (Str × V)} (Fu : FunD K x qual (defArgs st) (defBody st) (defScope st) [] kws f fd) (h : posA (defArgs st) = some ps) : BK fd ps := by
  obtain ⟨oc, od, dV, kV, doc, pm, an, cdv, ct, osl, rfl, lk, hcd, hdv, hkw⟩ := Fu.ex
  have hd : dV = .none := by
    rcases hdv with ⟨_, z⟩ | ⟨z, _⟩
    · exact z
    · exact absurd rfl z
  subst hd
  exact fun ks pi us ws h1 h2 => bind_kw (fd := PySem.W.fnOf x qual (defArgs st) (defBody st) (defScope st) .none kV doc pm an cdv ct) h rfl h1 h2
theorem one_of {ps : List Str} (h : ps.length = 1) : ∃ a, ps = [a] := by
  match ps, h with
  | [a], _ => exact ⟨a, rfl⟩
/-- ahead of all defs -/
theorem Hd.first (hd : Hd L P K mg) (hc : L.chk = true) : ModD L.M L.G L.F0 (L.Cl K) true 1 P w K mg base where
  sh := fun _ => rfl
  k1 := Nat.le_refl _
  free := hd.free
  con := hd.con
  fn := fun C hK hC i p e => by
    obtain ⟨d, e1, rfl⟩ := Lw.g_fn e
    obtain ⟨fd, Fu, hg⟩ := hd.def_ i d e1
    have ck := L.chk_at hc e1
    refine ⟨_, fd, d.ps, hg, Fu.kp, rfl, fun z => funD_binds Fu (chk_pos ck ((L.g_ko e1).symm.trans z)), ⟨fun vs H Q E z => ?_, fun A o s H a us vs Q E _ _ _ _ _ z => ?_⟩, fun _ => rfl, fun z => funD_bk Fu (chk_pos ck ((L.g_ko e1).symm.trans z)), fun qs h => Lw.g_ps h e1, fun np dfl z => by
      have z2 := (L.g_ko e1).symm.trans z
      rw [z2] at ck
      rw [Lw.kvs z2] at Fu
      exact chk_ko ck Fu⟩
    · obtain ⟨R, xs, h, P, Z, _, _, _, q, _⟩ := z; exact q.elim
    · obtain ⟨R, xs, h, P, Z, _, _, _, q, _⟩ := z; exact q.elim
  ho := fun C hK hC k2 _ i x e => by
    obtain ⟨d, e1, rfl⟩ := Lw.g_hn e
    obtain ⟨fd, Fu, hg⟩ := hd.hdef i d e1
    obtain ⟨ck, l1⟩ := L.chk_h hc e1
    obtain ⟨a, ha⟩ := one_of l1
    exact ⟨_, fd, a, hg, Fu.kp, by rw [← ha]; exact funD_binds Fu (chk_pos ck rfl), ⟨fun _ _ _ _ _ _ _ _ _ _ _ _ _ _ _ _ _ _ _ _ _ _ _ q _ _ => q.elim⟩⟩
  xm := hd.xm
  xmg := hd.xmg
  xmk := hd.xmk
theorem ModD.lmT {M : Xm} {G : Gm} {Cl : Cm} {gd : Bool} (md : ModD M G F Cl gd k P w K mg base) : ModD M { G with lm := true } F Cl gd k P w K mg base :=
  ⟨md.sh, md.k1, md.free, md.con, md.fn, md.ho, md.xm, md.xmg, md.xmk⟩
/-- the next def's promise -/
theorem Hd.one_ (hd : Hd L P K mg) (hc : L.chk = true) (md : ModD L.M L.G F (L.Cl K) true k P w K mg base) (ha : F.a = noA) (htb : ∀ p ∈ L.cs K, LamX.TabB base mg p.1 p.2) {i : Nat} {d : Df} (e : L.defs[i]? = some d) {sp : FnD} (hsp : Kp L.M F d.m d.N.length sp) {fd : FuncData} (Fu : FunD K d.name d.name (defArgs d.st) (defBody d.st) (defScope d.st) [] (L.kv d) (He.ga K d.name) fd) :
    FnG P w K mg base true (k + 3) (He.ga K d.name) fd d.ps (liftF K (L.Cl K) d.ps.length sp) ∧ (L.koN d.name = none → Binds K fd d.ps []) := by
  have ck := L.chk_at hc e
  by_cases hl : d.name ∈ L.lam
  · have eG : L.GL d = { L.G with lm := true } := if_pos hl
    rw [eG] at ck
    refine def_okL md.lmT Fu ck (fun xs h Q Z _ q => hsp xs h Q Z q) ha fun cdv lk => ?_
    obtain ⟨oc, od, osl, fd0, l1, l2, l3⟩ := lk
    obtain ⟨c, rfl⟩ := He.codeIn_ref l3
    have ec : He.codeOf K (d.name, none) = c := He.codeOf_eq (p := (d.name, none)) l1 l2
    refine ⟨c, (He.cT K (d.name, none)).2, ?_, rfl, List.mem_map.mpr ⟨d.name, hl, rfl⟩, fun p hp e2 => ?_⟩
    · have := htb (He.cT K (d.name, none)) (List.mem_map.mpr ⟨d.name, hl, rfl⟩)
      have e1 : (He.cT K (d.name, none)).1 = c := ec
      rw [e1] at this
      exact this
    · obtain ⟨y, hy, rfl⟩ := List.mem_map.mp hp
      rw [hd.one y hy d.name hl e2]; rfl
  · have eG : L.GL d = L.G := if_neg hl
    rw [eG] at ck
    obtain ⟨a, b⟩ := def_ok md Fu ck (fun xs h Q Z _ q => hsp xs h Q Z q) rfl ha
    exact ⟨a.mono (by omega), b⟩
theorem Hd.add (hd : Hd L P K mg) (hc : L.chk = true) (htb : ∀ p ∈ L.cs K, LamX.TabB base mg p.1 p.2) (md : ModD L.M L.G F (L.Cl K) true k P w K mg base) (ha : F.a = noA) (i : Nat) {d : Df} (e : L.defs[i]? = some d) (sp : FnD) (hsp : Kp L.M F d.m d.N.length sp) (hl : d.name ∉ L.lam) : ModD L.M L.G (F.up i sp) (L.Cl K) true (k + 1) P w K mg base where
  sh := fun _ => rfl
  k1 := by omega
  free := md.free
  con := md.con
  fn := fun C hK hC j p ej => by
    by_cases hj : j = i
    · subst hj
      obtain ⟨d', e1, rfl⟩ := Lw.g_fn ej
      rw [e] at e1; cases e1
      obtain ⟨fd, Fu, hg⟩ := hd.def_ j d e
      have ck := L.chk_at hc e
      rw [show L.GL d = L.G from if_neg hl] at ck
      obtain ⟨f1, f2⟩ := def_ok md Fu ck (fun xs h Q Z _ q => hsp xs h Q Z q) rfl ha
      refine ⟨_, fd, d.ps, hg, Fu.kp, rfl, fun z => f2 ((L.g_ko e).symm.trans z), ?_, fun _ => rfl, fun z => funD_bk Fu (chk_pos ck ((L.g_ko e).symm.trans z)), fun qs h => Lw.g_ps h e, fun np dfl z => by
        have z2 := (L.g_ko e).symm.trans z
        rw [z2] at ck
        rw [Lw.kvs z2] at Fu
        exact chk_ko ck Fu⟩
      rw [hK, hC]
      simpa [Fns.up] using f1
    · obtain ⟨fa, fd, ps, a1, a2, a3, a4, a5, a6⟩ := md.fn C hK hC j p ej
      refine ⟨fa, fd, ps, a1, a2, a3, a4, ?_, a6⟩
      simpa [Fns.up, hj] using a5.mono (Nat.le_succ k)
  ho := fun C hK hC k2 h2 => md.ho C hK hC k2 (by omega)
  xm := md.xm
  xmg := md.xmg
  xmk := md.xmk
end
end DL
set_option maxHeartbeats 4000000
namespace DL
open PySem PySem.Spec PyProof.Rows L2
/-- a comprehension without a test, by an invariant over what is kept and the objects -/
theorem lc_inv {ds : DSt} {vs : List Nat} {g : Tg} {te : TDE} {P : List D → Hs → Prop} (I : Nat → List D → Hs → Prop) (xs : List D) (hl : xs.length ≤ sizeLine) (turn : ∀ (i : Nat) (x : D) (acc : List D) (h : Hs) (Kp : D → Hs → Prop), xs[i]? = some x → I i acc h → acc.length = i → (∀ y h', I (i + 1) (acc ++ [y]) h' → Kp y h') → g.put x (wipeD ds vs) fun ds2 => dD te ds2 h Kp noX)
    {h : Hs} (h0 : I 0 [] h) (he : ∀ acc h', I xs.length acc h' → acc.length = xs.length → P acc h') : lcD ds vs g dYes te P xs [] h := by
  have go : ∀ (n i : Nat) (acc : List D) (h : Hs), i + n = xs.length → acc.length = i → I i acc h → lcD ds vs g dYes te P (xs.drop i) acc h := by
    intro n
    induction n with
    | zero =>
      intro i acc h hi ha hI
      rw [List.drop_eq_nil_of_le (by omega)]
      unfold lcD
      have : i = xs.length := by omega
      subst this
      exact he acc h hI ha
    | succ n ih =>
      intro i acc h hi ha hI
      have hlt : i < xs.length := by omega
      rw [List.drop_eq_getElem_cons hlt]
      unfold lcD
      show g.put xs[i] (wipeD ds vs) fun ds2 => if true = true then dD te ds2 h (fun y h3 => acc.length < sizeLine ∧ lcD ds vs g dYes te P (xs.drop (i + 1)) (acc ++ [y]) h3) noX else lcD ds vs g dYes te P (xs.drop (i + 1)) acc h
      simp only [if_true]
      exact turn i xs[i] acc h _ (List.getElem?_eq_getElem hlt) hI ha fun y h' hI' => ⟨by omega, ih (i + 1) (acc ++ [y]) h' (by omega) (by simp [ha]) hI'⟩
  have := go xs.length 0 [] h (by omega) rfl h0
  simpa using this
/-- a for loop by an invariant -/
theorem for_inv {g : Tg} {tb : TDS} {En : DEnds} (I : Nat → DSt → Hs → Prop) (xs : List D) (turn : ∀ (i : Nat) (x : D) (ds : DSt) (h : Hs) (En' : DEnds), xs[i]? = some x → I i ds h → En'.rt = En.rt → En'.ex = En.ex → En'.bk = En.nx → (∀ ds' h', I (i + 1) ds' h' → En'.nx ds' h') → (∀ ds' h', I (i + 1) ds' h' → En'.ct ds' h') → g.put x ds fun ds2 => tb ds2 h En')
    {ds : DSt} {h : Hs} (h0 : I 0 ds h) (he : ∀ ds' h', I xs.length ds' h' → En.nx ds' h') : forD g tb En xs ds h := by
  have go : ∀ (n i : Nat) (ds : DSt) (h : Hs), i + n = xs.length → I i ds h → forD g tb En (xs.drop i) ds h := by
    intro n
    induction n with
    | zero =>
      intro i ds h hi hI
      rw [List.drop_eq_nil_of_le (by omega)]
      unfold forD
      have : i = xs.length := by omega
      subst this
      exact he ds h hI
    | succ n ih =>
      intro i ds h hi hI
      have hlt : i < xs.length := by omega
      rw [List.drop_eq_getElem_cons hlt]
      unfold forD
      exact turn i xs[i] ds h _ (List.getElem?_eq_getElem hlt) hI rfl rfl rfl (fun ds' h' hI' => ih (i + 1) ds' h' (by omega) hI') fun ds' h' hI' => ih (i + 1) ds' h' (by omega) hI'
  have := go xs.length 0 ds h (by omega) h0
  simpa using this
theorem rng_get {lo : Int} {n i : Nat} {x : D} (h : (rngD lo n)[i]? = some x) : x = .int (lo + i) ∧ i < n := by
  unfold rngD at h
  rw [List.getElem?_map] at h
  obtain ⟨j, hj, rfl⟩ := Option.map_eq_some_iff.mp h
  obtain ⟨h1, h2⟩ := List.getElem?_eq_some_iff.mp hj
  simp at h1 h2
  subst h2
  exact ⟨rfl, h1⟩
@[simp] theorem rng_len {lo : Int} {n : Nat} : (rngD lo n).length = n := by unfold rngD; simp
theorem atI_n {α : Type} {xs : List α} {k : Nat} (h : k < xs.length) : L2.atI xs (k : Int) = some xs[k] := by
  unfold L2.atI L2.ixN
  rw [if_pos (by omega), if_pos (by omega)]
  simp [h]
theorem atI_of {α : Type} {xs : List α} {k : Int} (h0 : 0 ≤ k) (h : k < xs.length) : L2.atI xs k = some (xs[k.toNat]'(by omega)) := by
  obtain ⟨j, rfl⟩ := Int.eq_ofNat_of_zero_le h0
  exact atI_n (by omega)
theorem cutD_take {α : Type} {xs : List α} {k : Nat} : cutD xs none (some (k : Int)) = xs.take k := by
  unfold cutD
  rw [HT.sIx_none, HT.sIx_nat]
  simp
theorem cutD_drop {α : Type} {xs : List α} {k : Nat} : cutD xs (some (k : Int)) none = xs.drop k := by
  unfold cutD
  rw [HT.sIx_none, HT.sIx_nat]
  by_cases h : k ≤ xs.length
  · rw [Nat.min_eq_left h, List.take_of_length_le (by simp)]
  · rw [Nat.min_eq_right (by omega)]
    rw [List.drop_eq_nil_of_le (Nat.le_refl _), List.drop_eq_nil_of_le (by omega)]
    simp
theorem Bds.cut {n d : Nat} {xs : List D} {lo hi : Option Int} (h : Bds n d xs) : Bds n d (cutD xs lo hi) := (h.drop _).take _
theorem eqv_nilL {l : List PyData} : PyData.eqv (.list l) (.list []) = l.isEmpty := by cases l <;> simp [PyData.eqv, PyData.eqvAll]
theorem eqv_nilT {l : List PyData} : PyData.eqv (.tuple l) (.tuple []) = l.isEmpty := by cases l <;> simp [PyData.eqv, PyData.eqvAll]
end DL
set_option maxHeartbeats 0
namespace K
open PySem PySem.Spec PyProof.Rows L2 DL
def top (i : Nat) : Stmt := PySem.Challenge.pw_bitspans_k11_whole_changes_there_and_bac.main.body.getD i (.Pass ⟨0, 0, 0, 0⟩)
def M : Xm := ⟨1, ["NotUsable"], fun c => match c with | 0 => ["word", "at"] | _ => [], fun a b => decide ((a, b) ∈ ([(0, 0)] : List (Nat × Nat))), fun c => decide (c ∈ ([0] : List Nat))⟩
def N_is_integer : List Str := ["thing"]
def P_is_integer : List Str := ["thing"]
def m_is_integer : Ss :=
  .cons (.ret (.and (.isi "int" "int" (.var 0)) (.not (.isi "bool" "bool" (.var 0)))))
  (.nil)
abbrev s_is_integer : Stmt := top 10
def N_is_number : List Str := ["thing"]
def P_is_number : List Str := ["thing"]
def m_is_number : Ss :=
  .cons (.ret (.and (.call 0 (.cons (.var 0) (.nil))) (.cmp .ge (.var 0) (.int 0))))
  (.nil)
abbrev s_is_number : Stmt := top 11
def N_is_count : List Str := ["thing"]
def P_is_count : List Str := ["thing"]
def m_is_count : Ss :=
  .cons (.ret (.and (.call 0 (.cons (.var 0) (.nil))) (.cmp .gt (.var 0) (.int 0))))
  (.nil)
abbrev s_is_count : Stmt := top 12
def N_is_tuple_of : List Str := ["thing", "many"]
def P_is_tuple_of : List Str := ["thing", "many"]
def m_is_tuple_of : Ss :=
  .cons (.ret (.and (.isi "tuple" "tuple" (.var 0)) (.cmp .eq (.b1 .len (.var 0)) (.var 1))))
  (.nil)
abbrev s_is_tuple_of : Stmt := top 13
def N_is_letters : List Str := ["thing", "sign"]
def P_is_letters : List Str := ["thing"]
def m_is_letters : Ss :=
  .cons (.ret (.and (.isi "str" "str" (.var 0)) (.b1 .all (.lc (.nm 1) (.s (.var 0)) .no (.cmp .in_ (.var 1) (.glb 0)) [("sign", 1)]))))
  (.nil)
abbrev s_is_letters : Stmt := top 14
def N_is_letter : List Str := ["thing"]
def P_is_letter : List Str := ["thing"]
def m_is_letter : Ss :=
  .cons (.ret (.and (.call 4 (.cons (.var 0) (.nil))) (.cmp .eq (.b1 .len (.var 0)) (.int 1))))
  (.nil)
abbrev s_is_letter : Stmt := top 15
def N_is_entry : List Str := ["thing", "letter", "count", "later"]
def P_is_entry : List Str := ["thing"]
def m_is_entry : Ss :=
  .cons (.ite (.not (.call 3 (.cons (.var 0) (.cons (.int 3) (.nil))))) (.cons (.ret (.bl false))
  (.nil)) (.nil))
  (.cons (.asg (.tp (.cons (.nm 1) (.cons (.nm 2) (.cons (.nm 3) (.nil))))) (.var 0))
  (.cons (.ret (.and (.call 5 (.cons (.var 1) (.nil))) (.and (.call 2 (.cons (.var 2) (.nil))) (.or (.isN false (.var 3)) (.call 1 (.cons (.var 3) (.nil)))))))
  (.nil)))
abbrev s_is_entry : Stmt := top 16
def N_is_context : List Str := ["thing", "entry"]
def P_is_context : List Str := ["thing"]
def m_is_context : Ss :=
  .cons (.ite (.or (.not (.isi "tuple" "tuple" (.var 0))) (.or (.cmp .lt (.b1 .len (.var 0)) (.int 2)) (.not (.b1 .all (.lc (.nm 1) (.t (.var 0)) .no (.call 6 (.cons (.var 1) (.nil))) [("entry", 1)]))))) (.cons (.ret (.bl false))
  (.nil)) (.nil))
  (.cons (.ret (.cmp .eq (.lenK (.lc (.nm 1) (.t (.var 0)) .no (.ix (.var 1) (.int 0)) [("entry", 1)])) (.b1 .len (.var 0))))
  (.nil))
abbrev s_is_context : Stmt := top 17
def N_is_size : List Str := ["thing"]
def P_is_size : List Str := ["thing"]
def m_is_size : Ss :=
  .cons (.ret (.and (.call 1 (.cons (.var 0) (.nil))) (.chn .le .le (.glb 3) (.var 0) (.glb 4))))
  (.nil)
abbrev s_is_size : Stmt := top 18
def N_is_division : List Str := ["thing"]
def P_is_division : List Str := ["thing"]
def m_is_division : Ss :=
  .cons (.ret (.and (.isi "str" "str" (.var 0)) (.inA false (.var 0) (.glb 1))))
  (.nil)
abbrev s_is_division : Stmt := top 19
def N_is_manner : List Str := ["thing"]
def P_is_manner : List Str := ["thing"]
def m_is_manner : Ss :=
  .cons (.ret (.and (.isi "str" "str" (.var 0)) (.inA false (.var 0) (.glb 2))))
  (.nil)
abbrev s_is_manner : Stmt := top 20
def N_require_usable : List Str := ["is_usable", "word"]
def P_require_usable : List Str := ["is_usable", "word"]
def m_require_usable : Ss :=
  .cons (.ite (.not (.var 0)) (.cons (.raise 0 (.cons (.var 1) (.cons (.neg (.int 1)) (.nil))))
  (.nil)) (.nil))
  (.nil)
abbrev s_require_usable : Stmt := top 22
def N_with_size : List Str := ["coder", "size", "before", "contexts", "division", "manner"]
def P_with_size : List Str := ["coder", "size"]
def m_with_size : Ss :=
  .cons (.asg (.tp (.cons (.nm 2) (.cons (.nm 3) (.cons (.nm 4) (.cons (.nm 5) (.nil)))))) (.var 0))
  (.cons (.drop (.call 11 (.cons (.call 8 (.cons (.var 1) (.nil))) (.cons (.str "size") (.nil)))))
  (.cons (.ret (.tup (.cons (.var 1) (.cons (.var 3) (.cons (.var 4) (.cons (.var 5) (.nil)))))))
  (.nil)))
abbrev s_with_size : Stmt := top 24
def N_with_division : List Str := ["coder", "division", "size", "contexts", "before", "manner"]
def P_with_division : List Str := ["coder", "division"]
def m_with_division : Ss :=
  .cons (.asg (.tp (.cons (.nm 2) (.cons (.nm 3) (.cons (.nm 4) (.cons (.nm 5) (.nil)))))) (.var 0))
  (.cons (.drop (.call 11 (.cons (.call 9 (.cons (.var 1) (.nil))) (.cons (.str "division") (.nil)))))
  (.cons (.ret (.tup (.cons (.var 2) (.cons (.var 3) (.cons (.var 1) (.cons (.var 5) (.nil)))))))
  (.nil)))
abbrev s_with_division : Stmt := top 25
def N_with_manner : List Str := ["coder", "manner", "size", "contexts", "division", "before"]
def P_with_manner : List Str := ["coder", "manner"]
def m_with_manner : Ss :=
  .cons (.asg (.tp (.cons (.nm 2) (.cons (.nm 3) (.cons (.nm 4) (.cons (.nm 5) (.nil)))))) (.var 0))
  (.cons (.drop (.call 11 (.cons (.call 10 (.cons (.var 1) (.nil))) (.cons (.str "manner") (.nil)))))
  (.cons (.ret (.tup (.cons (.var 2) (.cons (.var 3) (.cons (.var 4) (.cons (.var 1) (.nil)))))))
  (.nil)))
abbrev s_with_manner : Stmt := top 26
def N_with_contexts : List Str := ["coder", "contexts", "size", "before", "division", "manner"]
def P_with_contexts : List Str := ["coder", "contexts"]
def m_with_contexts : Ss :=
  .cons (.asg (.tp (.cons (.nm 2) (.cons (.nm 3) (.cons (.nm 4) (.cons (.nm 5) (.nil)))))) (.var 0))
  (.cons (.ret (.tup (.cons (.var 2) (.cons (.var 1) (.cons (.var 4) (.cons (.var 5) (.nil)))))))
  (.nil))
abbrev s_with_contexts : Stmt := top 27
def N_with_entries : List Str := ["coder", "context", "entries", "contexts"]
def P_with_entries : List Str := ["coder", "context", "entries"]
def m_with_entries : Ss :=
  .cons (.set 3 (.ix (.var 0) (.int 1)))
  (.cons (.ret (.call 15 (.cons (.var 0) (.cons (.tupM [(true, .sl (.var 3) .no (.some (.var 1))), (false, .var 2), (true, .sl (.var 3) (.some (.bin .add (.var 1) (.int 1))) .no)]) (.nil)))))
  (.nil))
abbrev s_with_entries : Stmt := top 28
def N_entries_of : List Str := ["coder", "context", "contexts"]
def P_entries_of : List Str := ["coder", "context"]
def m_entries_of : Ss :=
  .cons (.set 2 (.ix (.var 0) (.int 1)))
  (.cons (.drop (.call 11 (.cons (.and (.call 1 (.cons (.var 1) (.nil))) (.cmp .lt (.var 1) (.b1 .len (.var 2)))) (.cons (.str "context") (.nil)))))
  (.cons (.ret (.ix (.var 2) (.var 1)))
  (.nil)))
abbrev s_entries_of : Stmt := top 29
def N_has_letter : List Str := ["entries", "letter", "entry"]
def P_has_letter : List Str := ["entries", "letter"]
def m_has_letter : Ss :=
  .cons (.ret (.and (.call 5 (.cons (.var 1) (.nil))) (.cmp .in_ (.var 1) (.lc (.nm 2) (.t (.var 0)) .no (.ix (.var 2) (.int 0)) [("entry", 2)]))))
  (.nil)
abbrev s_has_letter : Stmt := top 30
def N_with_count : List Str := ["coder", "context", "letter", "count", "entries", "late", "own", "many", "later"]
def P_with_count : List Str := ["coder", "context", "letter", "count"]
def m_with_count : Ss :=
  .cons (.set 4 (.call 17 (.cons (.var 0) (.cons (.var 1) (.nil)))))
  (.cons (.drop (.call 11 (.cons (.call 18 (.cons (.var 4) (.cons (.var 2) (.nil)))) (.cons (.str "letter") (.nil)))))
  (.cons (.drop (.call 11 (.cons (.call 2 (.cons (.var 3) (.nil))) (.cons (.str "count") (.nil)))))
  (.cons (.setLc false 5 (.tp (.cons (.nm 6) (.cons (.nm 7) (.cons (.nm 8) (.nil))))) (.t (.var 4)) .no (.tup (.cons (.var 6) (.cons (.ite (.cmp .eq (.var 6) (.var 2)) (.var 3) (.var 7)) (.cons (.var 8) (.nil))))) [("own", 6), ("many", 7), ("later", 8)])
  (.cons (.ret (.call 16 (.cons (.var 0) (.cons (.var 1) (.cons (.b1 .tuple (.var 5)) (.nil))))))
  (.nil)))))
abbrev s_with_count : Stmt := top 31
def N_fits_in : List Str := ["coder", "entries", "entry"]
def P_fits_in : List Str := ["coder", "entries", "entry"]
def m_fits_in : Ss :=
  .cons (.ite (.or (.not (.call 6 (.cons (.var 2) (.nil)))) (.call 18 (.cons (.var 1) (.cons (.ix (.var 2) (.int 0)) (.nil))))) (.cons (.ret (.bl false))
  (.nil)) (.nil))
  (.cons (.ret (.or (.isN false (.ix (.var 2) (.int 2))) (.cmp .lt (.ix (.var 2) (.int 2)) (.b1 .len (.ix (.var 0) (.int 1))))))
  (.nil))
abbrev s_fits_in : Stmt := top 32
def N_with_entry : List Str := ["coder", "context", "entry", "at", "entries", "k"]
def P_with_entry : List Str := ["coder", "context", "entry", "at"]
def m_with_entry : Ss :=
  .cons (.set 4 (.call 17 (.cons (.var 0) (.cons (.var 1) (.nil)))))
  (.cons (.drop (.call 11 (.cons (.call 20 (.cons (.var 0) (.cons (.var 4) (.cons (.var 2) (.nil))))) (.cons (.str "entry") (.nil)))))
  (.cons (.drop (.call 11 (.cons (.or (.isN false (.var 3)) (.and (.call 1 (.cons (.var 3) (.nil))) (.cmp .le (.var 3) (.b1 .len (.var 4))))) (.cons (.str "at") (.nil)))))
  (.cons (.set 5 (.ite (.isN false (.var 3)) (.b1 .len (.var 4)) (.var 3)))
  (.cons (.ret (.call 16 (.cons (.var 0) (.cons (.var 1) (.cons (.tupM [(true, .sl (.var 4) .no (.some (.var 5))), (false, .var 2), (true, .sl (.var 4) (.some (.var 5)) .no)]) (.nil))))))
  (.nil)))))
abbrev s_with_entry : Stmt := top 33
def N_without_entry : List Str := ["coder", "context", "letter", "entries", "entry"]
def P_without_entry : List Str := ["coder", "context", "letter"]
def m_without_entry : Ss :=
  .cons (.set 3 (.call 17 (.cons (.var 0) (.cons (.var 1) (.nil)))))
  (.cons (.drop (.call 11 (.cons (.and (.call 18 (.cons (.var 3) (.cons (.var 2) (.nil)))) (.cmp .gt (.b1 .len (.var 3)) (.int 2))) (.cons (.str "letter") (.nil)))))
  (.cons (.ret (.call 16 (.cons (.var 0) (.cons (.var 1) (.cons (.b1 .tuple (.lc (.nm 4) (.t (.var 3)) (.some (.cmp .ne (.ix (.var 4) (.int 0)) (.var 2))) (.var 4) [("entry", 4)])) (.nil))))))
  (.nil)))
abbrev s_without_entry : Stmt := top 34
def N_exchanged : List Str := ["coder", "context", "at", "entries"]
def P_exchanged : List Str := ["coder", "context", "at"]
def m_exchanged : Ss :=
  .cons (.set 3 (.call 17 (.cons (.var 0) (.cons (.var 1) (.nil)))))
  (.cons (.drop (.call 11 (.cons (.and (.call 1 (.cons (.var 2) (.nil))) (.cmp .lt (.bin .add (.var 2) (.int 1)) (.b1 .len (.var 3)))) (.cons (.str "at") (.nil)))))
  (.cons (.ret (.call 16 (.cons (.var 0) (.cons (.var 1) (.cons (.tupM [(true, .sl (.var 3) .no (.some (.var 2))), (false, .ix (.var 3) (.bin .add (.var 2) (.int 1))), (false, .ix (.var 3) (.var 2)), (true, .sl (.var 3) (.some (.bin .add (.var 2) (.int 2))) .no)]) (.nil))))))
  (.nil)))
abbrev s_exchanged : Stmt := top 35
def N_are_pairs : List Str := ["thing", "pair", "old", "new"]
def P_are_pairs : List Str := ["thing"]
def m_are_pairs : Ss :=
  .cons (.ite (.or (.not (.isi "tuple" "tuple" (.var 0))) (.not (.b1 .all (.lc (.nm 1) (.t (.var 0)) .no (.call 3 (.cons (.var 1) (.cons (.int 2) (.nil)))) [("pair", 1)])))) (.cons (.ret (.bl false))
  (.nil)) (.nil))
  (.cons (.ite (.not (.b1 .all (.lc (.tp (.cons (.nm 2) (.cons (.nm 3) (.nil)))) (.t (.var 0)) .no (.and (.call 5 (.cons (.var 2) (.nil))) (.call 5 (.cons (.var 3) (.nil)))) [("old", 2), ("new", 3)]))) (.cons (.ret (.bl false))
  (.nil)) (.nil))
  (.cons (.ret (.cmp .eq (.lenK (.lc (.nm 1) (.t (.var 0)) .no (.ix (.var 1) (.int 0)) [("pair", 1)])) (.b1 .len (.var 0))))
  (.nil)))
abbrev s_are_pairs : Stmt := top 36
def N_renamed : List Str := ["coder", "letters", "names", "late", "context", "old", "new", "letter", "count", "later"]
def P_renamed : List Str := ["coder", "letters"]
def m_renamed : Ss :=
  .cons (.drop (.call 11 (.cons (.call 24 (.cons (.var 1) (.nil))) (.cons (.str "letters") (.nil)))))
  (.cons (.set 2 (.dcK (.tp (.cons (.nm 5) (.cons (.nm 6) (.nil)))) (.t (.var 1)) .no (.var 5) (.var 6) [("old", 5), ("new", 6)]))
  (.cons (.own 3 (.lst (.nil)))
  (.cons (.for_ (.nm 4) (.t (.ix (.var 0) (.int 1))) (.cons (.app 3 (.b1 .tuple (.lc (.tp (.cons (.nm 7) (.cons (.nm 8) (.cons (.nm 9) (.nil))))) (.t (.var 4)) .no (.tup (.cons (.cgetD (.var 2) (.var 7) (.var 7)) (.cons (.var 8) (.cons (.var 9) (.nil))))) [("letter", 7), ("count", 8), ("later", 9)])))
  (.nil)))
  (.cons (.frz 3 (.drop (.call 11 (.cons (.b1 .all (.lc (.nm 4) (.l (.var 3)) .no (.call 7 (.cons (.var 4) (.nil))) [("context", 4)])) (.cons (.str "letters") (.nil))))))
  (.cons (.ret (.call 15 (.cons (.var 0) (.cons (.b1 .tuple (.var 3)) (.nil)))))
  (.nil))))))
abbrev s_renamed : Stmt := top 37
def N_scaled : List Str := ["coder", "times", "late", "context", "letter", "count", "later"]
def P_scaled : List Str := ["coder", "times"]
def m_scaled : Ss :=
  .cons (.drop (.call 11 (.cons (.call 2 (.cons (.var 1) (.nil))) (.cons (.str "times") (.nil)))))
  (.cons (.own 2 (.lst (.nil)))
  (.cons (.for_ (.nm 3) (.t (.ix (.var 0) (.int 1))) (.cons (.app 2 (.b1 .tuple (.lc (.tp (.cons (.nm 4) (.cons (.nm 5) (.cons (.nm 6) (.nil))))) (.t (.var 3)) .no (.tup (.cons (.var 4) (.cons (.bin .mul (.var 5) (.var 1)) (.cons (.var 6) (.nil))))) [("letter", 4), ("count", 5), ("later", 6)])))
  (.nil)))
  (.cons (.ret (.call 15 (.cons (.var 0) (.cons (.b1 .tuple (.var 2)) (.nil)))))
  (.nil))))
abbrev s_scaled : Stmt := top 38
def N_law_source : List Str := ["_law_script"]
def P_law_source : List Str := ["_law_script"]
def m_law_source : Ss :=
  .cons (.ret (.newL (.cons (.sl (.var 0) .no (.some (.int 63))) (.cons (.int 0) (.cons (.int 0) (.cons (.int 0) (.nil)))))))
  (.nil)
abbrev s_law_source : Stmt := top 40
def N_law_draw : List Str := ["_law_source_here", "_law_size", "_law_found", "_law_spot", "_law_cell", "_law_mixed"]
def P_law_draw : List Str := ["_law_source_here", "_law_size"]
def m_law_draw : Ss :=
  .cons (.hset (.var 0) (.int 3) (.bin .add (.hix (.var 0) (.int 3)) (.int 1)))
  (.cons (.ite (.cmp .gt (.hix (.var 0) (.int 2)) (.int 0)) (.cons (.set 2 (.bin .mod (.b1 .int (.hix (.var 0) (.int 2))) (.var 1)))
  (.cons (.hset (.var 0) (.int 2) (.bin .fdiv (.hix (.var 0) (.int 2)) (.var 1)))
  (.cons (.ret (.var 2))
  (.nil)))) (.nil))
  (.cons (.set 3 (.hix (.var 0) (.int 1)))
  (.cons (.hset (.var 0) (.int 1) (.bin .add (.var 3) (.int 1)))
  (.cons (.set 4 (.ite (.cmp .ne (.hix (.var 0) (.int 0)) (.lst (.nil))) (.ix (.hix (.var 0) (.int 0)) (.bin .mod (.b1 .int (.var 3)) (.b1 .len (.hix (.var 0) (.int 0))))) (.int 53)))
  (.cons (.ite (.and (.cmp .ge (.var 4) (.bin .pow (.int 10) (.int 18))) (.cmp .lt (.var 3) (.b1 .len (.hix (.var 0) (.int 0))))) (.cons (.hset (.var 0) (.int 2) (.bin .fdiv (.var 4) (.var 1)))
  (.cons (.ret (.bin .mod (.b1 .int (.var 4)) (.var 1)))
  (.nil))) (.nil))
  (.cons (.set 5 (.bin .mod (.b1 .int (.bin .pow (.bin .add (.bin .add (.bin .mod (.b1 .int (.var 4)) (.int 1999999973)) (.bin .mul (.int 60103) (.hix (.var 0) (.int 3)))) (.int 307)) (.int 3))) (.int 2147483549)))
  (.cons (.set 5 (.bin .mod (.b1 .int (.bin .pow (.bin .add (.bin .add (.var 5) (.bin .mul (.bin .mul (.int 4987) (.hix (.var 0) (.int 3))) (.hix (.var 0) (.int 3)))) (.int 71)) (.int 5))) (.int 2147483563)))
  (.cons (.ret (.bin .mod (.b1 .int (.bin .fdiv (.var 5) (.int 128))) (.var 1)))
  (.nil)))))))))
abbrev s_law_draw : Stmt := top 41
def N_law_pick : List Str := ["_law_source_here", "_law_rows_here"]
def P_law_pick : List Str := ["_law_source_here", "_law_rows_here"]
def m_law_pick : Ss :=
  .cons (.ret (.ix (.var 1) (.call 28 (.cons (.var 0) (.cons (.b1 .len (.var 1)) (.nil))))))
  (.nil)
abbrev s_law_pick : Stmt := top 42
def N_law_context : List Str := ["_law_source_here", "_law_many", "_law_shapes", "_law_counts", "_law_letters", "_law_found", "_law_count", "_law_letter", "_law_follow"]
def P_law_context : List Str := ["_law_source_here", "_law_many"]
def m_law_context_B1 : Ss :=
  .cons (.pop 4 7 (.call 28 (.cons (.var 0) (.cons (.b1 .len (.var 4)) (.nil)))))
  (.cons (.set 8 (.call 28 (.cons (.var 0) (.cons (.bin .add (.var 1) (.int 1)) (.nil)))))
  (.cons (.app 5 (.tup (.cons (.var 7) (.cons (.var 6) (.cons (.ite (.cmp .lt (.var 8) (.var 1)) (.var 8) (.non)) (.nil))))))
  (.nil)))
def m_law_context_T1 : Ss :=
  .cons (.ret (.b1 .tuple (.var 5)))
  (.nil)
def m_law_context : Ss :=
  .cons (.own 2 (.lst (.cons (.lst (.cons (.int 1) (.cons (.int 1) (.nil)))) (.cons (.lst (.cons (.int 2) (.cons (.int 1) (.nil)))) (.cons (.lst (.cons (.int 2) (.cons (.int 1) (.cons (.int 1) (.nil))))) (.cons (.lst (.cons (.int 9) (.cons (.int 1) (.nil)))) (.cons (.lst (.cons (.int 1) (.cons (.int 9) (.nil)))) (.cons (.lst (.cons (.int 1) (.cons (.int 2) (.cons (.int 1) (.nil))))) (.cons (.lst (.cons (.int 3) (.cons (.int 1) (.cons (.int 2) (.nil))))) (.cons (.lst (.cons (.int 1) (.cons (.int 1) (.cons (.int 1) (.cons (.int 1) (.nil)))))) (.cons (.lst (.cons (.int 5) (.cons (.int 3) (.cons (.int 2) (.cons (.int 2) (.nil)))))) (.nil))))))))))))
  (.cons (.app 2 (.lst (.cons (.int 7) (.cons (.bin .pow (.int 10) (.int 40)) (.nil)))))
  (.cons (.frz 2 (.par3 false 3 (.call 29 (.cons (.var 0) (.cons (.var 2) (.nil)))) true 4 (.lstS (.str "abcehxyz")) true 5 (.lst (.nil))))
  (.cons (.for_ (.nm 6) (.l (.var 3)) m_law_context_B1)
  m_law_context_T1)))
abbrev s_law_context : Stmt := top 43
def N_law_coder : List Str := ["_law_source_here", "_law_many", "_law_size", "_law_parting", "_law_contexts", "_law_k"]
def P_law_coder : List Str := ["_law_source_here"]
def m_law_coder : Ss :=
  .cons (.set 1 (.bin .add (.int 1) (.call 28 (.cons (.var 0) (.cons (.int 3) (.nil))))))
  (.cons (.par2 false 2 (.bin .add (.int 2) (.call 28 (.cons (.var 0) (.cons (.int 4) (.nil))))) false 3 (.call 29 (.cons (.var 0) (.cons (.lst (.cons (.str "fine") (.cons (.str "coarse") (.nil)))) (.nil)))))
  (.cons (.setLc false 4 (.nm 5) (.r1 (.var 1)) .no (.call 30 (.cons (.var 0) (.cons (.var 1) (.nil)))) [("_law_k", 5)])
  (.cons (.ret (.tup (.cons (.var 2) (.cons (.b1 .tuple (.var 4)) (.cons (.var 3) (.cons (.call 29 (.cons (.var 0) (.cons (.lst (.cons (.str "plain") (.cons (.str "pending") (.cons (.str "cut") (.cons (.str "late") (.nil)))))) (.nil)))) (.nil)))))))
  (.nil))))
abbrev s_law_coder : Stmt := top 44
def N_law_is_number : List Str := ["_law_thing"]
def P_law_is_number : List Str := ["_law_thing"]
def m_law_is_number : Ss :=
  .cons (.ret (.and (.isi "int" "int" (.var 0)) (.and (.not (.isi "bool" "bool" (.var 0))) (.cmp .ge (.var 0) (.int 0)))))
  (.nil)
abbrev s_law_is_number : Stmt := top 45
def N_law_is_letter : List Str := ["_law_thing"]
def P_law_is_letter : List Str := ["_law_thing"]
def m_law_is_letter : Ss :=
  .cons (.ret (.and (.isi "str" "str" (.var 0)) (.and (.cmp .eq (.b1 .len (.var 0)) (.int 1)) (.chn .le .le (.str "a") (.var 0) (.str "z")))))
  (.nil)
abbrev s_law_is_letter : Stmt := top 46
def N_law_is_entry : List Str := ["_law_thing"]
def P_law_is_entry : List Str := ["_law_thing"]
def m_law_is_entry : Ss :=
  .cons (.ite (.or (.not (.isi "tuple" "tuple" (.var 0))) (.or (.cmp .ne (.b1 .len (.var 0)) (.int 3)) (.not (.call 33 (.cons (.ix (.var 0) (.int 0)) (.nil)))))) (.cons (.ret (.bl false))
  (.nil)) (.nil))
  (.cons (.ret (.and (.call 32 (.cons (.ix (.var 0) (.int 1)) (.nil))) (.and (.cmp .gt (.ix (.var 0) (.int 1)) (.int 0)) (.or (.isN false (.ix (.var 0) (.int 2))) (.call 32 (.cons (.ix (.var 0) (.int 2)) (.nil)))))))
  (.nil))
abbrev s_law_is_entry : Stmt := top 47
def N_law_fault : List Str := ["_law_thing", "_law_size", "_law_contexts", "_law_parting", "_law_habit", "_law_i", "_law_known", "_law_k", "_law_entry"]
def P_law_fault : List Str := ["_law_thing"]
def m_law_fault_T7 : Ss :=
  .cons (.app 6 (.ix (.var 8) (.int 0)))
  (.nil)
def m_law_fault_T6 : Ss :=
  .cons (.ite (.and (.isN true (.ix (.var 8) (.int 2))) (.cmp .ge (.ix (.var 8) (.int 2)) (.b1 .len (.var 2)))) (.cons (.ret (.tup (.cons (.str "next") (.cons (.tup (.cons (.var 5) (.cons (.var 7) (.nil)))) (.nil)))))
  (.nil)) (.nil))
  m_law_fault_T7
def m_law_fault_T5 : Ss :=
  .cons (.ite (.cmp .in_ (.ix (.var 8) (.int 0)) (.var 6)) (.cons (.ret (.tup (.cons (.str "letter") (.cons (.tup (.cons (.var 5) (.cons (.var 7) (.nil)))) (.nil)))))
  (.nil)) (.nil))
  m_law_fault_T6
def m_law_fault_B1 : Ss :=
  .cons (.set 8 (.ix (.ix (.var 2) (.var 5)) (.var 7)))
  (.cons (.ite (.not (.call 34 (.cons (.var 8) (.nil)))) (.cons (.ret (.tup (.cons (.str "entry") (.cons (.tup (.cons (.var 5) (.cons (.var 7) (.nil)))) (.nil)))))
  (.nil)) (.nil))
  m_law_fault_T5)
def m_law_fault_T4 : Ss :=
  .cons (.own 6 (.lst (.nil)))
  (.cons (.for_ (.nm 7) (.r1 (.b1 .len (.ix (.var 2) (.var 5)))) m_law_fault_B1)
  (.nil))
def m_law_fault_B2 : Ss :=
  .cons (.ite (.or (.not (.isi "tuple" "tuple" (.ix (.var 2) (.var 5)))) (.cmp .lt (.b1 .len (.ix (.var 2) (.var 5))) (.int 2))) (.cons (.ret (.tup (.cons (.str "context") (.cons (.var 5) (.nil)))))
  (.nil)) (.nil))
  m_law_fault_T4
def m_law_fault_T10 : Ss :=
  .cons (.ret (.non))
  (.nil)
def m_law_fault_T9 : Ss :=
  .cons (.ite (.or (.not (.isi "str" "str" (.var 4))) (.cmp .nin (.var 4) (.tup (.cons (.str "plain") (.cons (.str "pending") (.cons (.str "cut") (.cons (.str "late") (.nil)))))))) (.cons (.ret (.tup (.cons (.str "manner") (.cons (.neg (.int 1)) (.nil)))))
  (.nil)) (.nil))
  m_law_fault_T10
def m_law_fault_T8 : Ss :=
  .cons (.ite (.or (.not (.isi "str" "str" (.var 3))) (.cmp .nin (.var 3) (.tup (.cons (.str "fine") (.cons (.str "coarse") (.nil)))))) (.cons (.ret (.tup (.cons (.str "division") (.cons (.neg (.int 1)) (.nil)))))
  (.nil)) (.nil))
  m_law_fault_T9
def m_law_fault_T3 : Ss :=
  .cons (.for_ (.nm 5) (.r1 (.b1 .len (.var 2))) m_law_fault_B2)
  m_law_fault_T8
def m_law_fault_T2 : Ss :=
  .cons (.ite (.or (.not (.isi "tuple" "tuple" (.var 2))) (.cmp .eq (.var 2) (.tup (.nil)))) (.cons (.ret (.tup (.cons (.str "contexts") (.cons (.neg (.int 1)) (.nil)))))
  (.nil)) (.nil))
  m_law_fault_T3
def m_law_fault_T1 : Ss :=
  .cons (.asg (.tp (.cons (.nm 1) (.cons (.nm 2) (.cons (.nm 3) (.cons (.nm 4) (.nil)))))) (.var 0))
  (.cons (.ite (.or (.not (.call 32 (.cons (.var 1) (.nil)))) (.not (.chn .le .le (.int 2) (.var 1) (.int 5)))) (.cons (.ret (.tup (.cons (.str "size") (.cons (.neg (.int 1)) (.nil)))))
  (.nil)) (.nil))
  m_law_fault_T2)
def m_law_fault : Ss :=
  .cons (.ite (.or (.not (.isi "tuple" "tuple" (.var 0))) (.cmp .ne (.b1 .len (.var 0)) (.int 4))) (.cons (.ret (.tup (.cons (.str "shape") (.cons (.neg (.int 1)) (.nil)))))
  (.nil)) (.nil))
  m_law_fault_T1
abbrev s_law_fault : Stmt := top 48
def N_law_rows : List Str := ["_law_coder_here", "_law_found", "_law_i", "_law_k"]
def P_law_rows : List Str := ["_law_coder_here"]
def m_law_rows : Ss :=
  .cons (.own 1 (.lst (.nil)))
  (.cons (.for_ (.nm 2) (.r1 (.b1 .len (.ix (.var 0) (.int 1)))) (.cons (.for_ (.nm 3) (.r1 (.b1 .len (.ix (.ix (.var 0) (.int 1)) (.var 2)))) (.cons (.app 1 (.bin .add (.tup (.cons (.var 2) (.cons (.var 3) (.nil)))) (.ix (.ix (.ix (.var 0) (.int 1)) (.var 2)) (.var 3))))
  (.nil)))
  (.nil)))
  (.cons (.frz 1 (.ret (.var 1)))
  (.nil)))
abbrev s_law_rows : Stmt := top 49
def N_law_is_same : List Str := ["_law_told", "_law_coder_here"]
def P_law_is_same : List Str := ["_law_told", "_law_coder_here"]
def m_law_is_same : Ss :=
  .cons (.ret (.and (.isN false (.call 35 (.cons (.var 0) (.nil)))) (.cmp .eq (.b1 .repr (.var 0)) (.b1 .repr (.var 1)))))
  (.nil)
abbrev s_law_is_same : Stmt := top 50
def N_law_are_parts_right : List Str := ["_law_source_here", "_law_coder_here", "_law_i", "_law_k", "_law_entry", "_law_size", "_law_parting", "_law_habit", "_law_count", "_law_late", "_law_back", "_law_more", "_law_due", "_law_one", "_law_two", "_law_row"]
def P_law_are_parts_right : List Str := ["_law_source_here", "_law_coder_here", "_law_i", "_law_k"]
def m_law_are_parts_right_T4 : Ss :=
  .cons (.set 13 (.call 12 (.cons (.call 19 (.cons (.var 1) (.cons (.var 2) (.cons (.ix (.var 4) (.int 0)) (.cons (.var 8) (.nil)))))) (.cons (.var 5) (.nil)))))
  (.cons (.set 14 (.call 19 (.cons (.call 12 (.cons (.var 1) (.cons (.var 5) (.nil)))) (.cons (.var 2) (.cons (.ix (.var 4) (.int 0)) (.cons (.var 8) (.nil)))))))
  (.cons (.ret (.and (.call 37 (.cons (.var 10) (.cons (.var 1) (.nil)))) (.call 37 (.cons (.var 13) (.cons (.var 14) (.nil))))))
  (.nil)))
def m_law_are_parts_right_T3 : Ss :=
  .cons (.set 11 (.call 19 (.cons (.var 1) (.cons (.var 2) (.cons (.ix (.var 4) (.int 0)) (.cons (.var 8) (.nil)))))))
  (.cons (.setLc false 12 (.nm 15) (.l (.call 36 (.cons (.var 1) (.nil)))) .no (.bin .add (.sl (.var 15) .no (.some (.int 3))) (.tup (.cons (.ite (.cmp .eq (.sl (.var 15) .no (.some (.int 2))) (.tup (.cons (.var 2) (.cons (.var 3) (.nil))))) (.var 8) (.ix (.var 15) (.int 3))) (.cons (.ix (.var 15) (.int 4)) (.nil))))) [("_law_row", 15)])
  (.cons (.ite (.or (.cmp .ne (.b1 .repr (.call 36 (.cons (.var 11) (.nil)))) (.b1 .repr (.var 12))) (.not (.call 37 (.cons (.call 19 (.cons (.var 11) (.cons (.var 2) (.cons (.ix (.var 4) (.int 0)) (.cons (.ix (.var 4) (.int 1)) (.nil)))))) (.cons (.var 1) (.nil)))))) (.cons (.ret (.bl false))
  (.nil)) (.nil))
  m_law_are_parts_right_T4))
def m_law_are_parts_right_T2 : Ss :=
  .cons (.set 10 (.call 13 (.cons (.call 12 (.cons (.call 14 (.cons (.var 9) (.cons (.ix (.var 1) (.int 3)) (.nil)))) (.cons (.ix (.var 1) (.int 0)) (.nil)))) (.cons (.ix (.var 1) (.int 2)) (.nil)))))
  m_law_are_parts_right_T3
def m_law_are_parts_right_T1 : Ss :=
  .cons (.set 9 (.call 12 (.cons (.call 14 (.cons (.call 13 (.cons (.var 1) (.cons (.var 6) (.nil)))) (.cons (.var 7) (.nil)))) (.cons (.var 5) (.nil)))))
  (.cons (.ite (.cmp .ne (.b1 .repr (.var 9)) (.b1 .repr (.tup (.cons (.var 5) (.cons (.ix (.var 1) (.int 1)) (.cons (.var 6) (.cons (.var 7) (.nil)))))))) (.cons (.ret (.bl false))
  (.nil)) (.nil))
  m_law_are_parts_right_T2)
def m_law_are_parts_right : Ss :=
  .cons (.set 4 (.ix (.ix (.ix (.var 1) (.int 1)) (.var 2)) (.var 3)))
  (.cons (.par2 false 5 (.bin .add (.int 2) (.call 28 (.cons (.var 0) (.cons (.int 4) (.nil))))) false 6 (.call 29 (.cons (.var 0) (.cons (.lst (.cons (.str "fine") (.cons (.str "coarse") (.nil)))) (.nil)))))
  (.cons (.asg (.tp (.cons (.nm 7) (.cons (.nm 8) (.nil)))) (.tup (.cons (.call 29 (.cons (.var 0) (.cons (.lst (.cons (.str "plain") (.cons (.str "pending") (.cons (.str "cut") (.cons (.str "late") (.nil)))))) (.nil)))) (.cons (.call 29 (.cons (.var 0) (.cons (.lst (.cons (.int 1) (.cons (.int 2) (.cons (.int 12) (.cons (.bin .pow (.int 10) (.int 30)) (.nil)))))) (.nil)))) (.nil)))))
  m_law_are_parts_right_T1))
abbrev s_law_are_parts_right : Stmt := top 51
def N_law_are_entries_right : List Str := ["_law_source_here", "_law_coder_here", "_law_i", "_law_k", "_law_rows_here", "_law_spot", "_law_fresh", "_law_more", "_law_left", "_law_swap", "_law_turned"]
def P_law_are_entries_right : List Str := ["_law_source_here", "_law_coder_here", "_law_i", "_law_k"]
def m_law_are_entries_right_T6 : Ss :=
  .cons (.ret (.call 37 (.cons (.call 23 (.cons (.var 10) (.cons (.var 2) (.cons (.var 9) (.nil))))) (.cons (.var 1) (.nil)))))
  (.nil)
def m_law_are_entries_right_T5 : Ss :=
  .cons (.set 9 (.call 28 (.cons (.var 0) (.cons (.bin .sub (.b1 .len (.var 4)) (.int 1)) (.nil)))))
  (.cons (.set 10 (.call 23 (.cons (.var 1) (.cons (.var 2) (.cons (.var 9) (.nil))))))
  (.cons (.ite (.cmp .ne (.b1 .repr (.ix (.ix (.var 10) (.int 1)) (.var 2))) (.b1 .repr (.bin .add (.bin .add (.sl (.var 4) .no (.some (.var 9))) (.tup (.cons (.ix (.var 4) (.bin .add (.var 9) (.int 1))) (.cons (.ix (.var 4) (.var 9)) (.nil))))) (.sl (.var 4) (.some (.bin .add (.var 9) (.int 2))) .no)))) (.cons (.ret (.bl false))
  (.nil)) (.nil))
  m_law_are_entries_right_T6))
def m_law_are_entries_right_T4 : Ss :=
  .cons (.ite (.not (.call 37 (.cons (.callO 21 4 [] [0, 1, 2, 3] [.non] (.cons (.var 1) (.cons (.var 2) (.cons (.var 6) (.nil)))) (.nil)) (.cons (.callO 21 4 ["at"] [0, 1, 2, 3] [] (.cons (.var 1) (.cons (.var 2) (.cons (.var 6) (.nil)))) (.cons (.b1 .len (.var 4)) (.nil))) (.nil))))) (.cons (.ret (.bl false))
  (.nil)) (.nil))
  m_law_are_entries_right_T5
def m_law_are_entries_right_T3 : Ss :=
  .cons (.ite (.cmp .gt (.b1 .len (.var 4)) (.int 2)) (.cons (.set 8 (.call 22 (.cons (.var 1) (.cons (.var 2) (.cons (.ix (.ix (.var 4) (.var 3)) (.int 0)) (.nil))))))
  (.cons (.ite (.not (.call 37 (.cons (.callO 21 4 ["at"] [0, 1, 2, 3] [] (.cons (.var 8) (.cons (.var 2) (.cons (.ix (.var 4) (.var 3)) (.nil)))) (.cons (.var 3) (.nil))) (.cons (.var 1) (.nil))))) (.cons (.ret (.bl false))
  (.nil)) (.nil))
  (.nil))) (.nil))
  m_law_are_entries_right_T4
def m_law_are_entries_right_T2 : Ss :=
  .cons (.ite (.not (.call 37 (.cons (.call 22 (.cons (.var 7) (.cons (.var 2) (.cons (.str "m") (.nil))))) (.cons (.var 1) (.nil))))) (.cons (.ret (.bl false))
  (.nil)) (.nil))
  m_law_are_entries_right_T3
def m_law_are_entries_right_T1 : Ss :=
  .cons (.set 7 (.callO 21 4 ["at"] [0, 1, 2, 3] [] (.cons (.var 1) (.cons (.var 2) (.cons (.var 6) (.nil)))) (.cons (.var 5) (.nil))))
  (.cons (.ite (.cmp .ne (.b1 .repr (.ix (.ix (.var 7) (.int 1)) (.var 2))) (.b1 .repr (.bin .add (.bin .add (.sl (.var 4) .no (.some (.var 5))) (.tup (.cons (.var 6) (.nil)))) (.sl (.var 4) (.some (.var 5)) .no)))) (.cons (.ret (.bl false))
  (.nil)) (.nil))
  m_law_are_entries_right_T2)
def m_law_are_entries_right : Ss :=
  .cons (.set 4 (.ix (.ix (.var 1) (.int 1)) (.var 2)))
  (.cons (.set 5 (.call 28 (.cons (.var 0) (.cons (.bin .add (.b1 .len (.var 4)) (.int 1)) (.nil)))))
  (.cons (.set 6 (.tup (.cons (.str "m") (.cons (.bin .add (.int 1) (.call 28 (.cons (.var 0) (.cons (.int 9) (.nil))))) (.cons (.call 29 (.cons (.var 0) (.cons (.lst (.cons (.non) (.cons (.var 2) (.nil)))) (.nil)))) (.nil))))))
  m_law_are_entries_right_T1))
abbrev s_law_are_entries_right : Stmt := top 52
def N_law_are_letters_right : List Str := ["_law_source_here", "_law_coder_here", "_law_old", "_law_new", "_law_k", "_law_left", "_law_there", "_law_late", "_law_due", "_law_back", "_law_one", "_law_two", "_law_both", "_law_letter", "_law_row"]
def P_law_are_letters_right : List Str := ["_law_source_here", "_law_coder_here"]
def m_law_are_letters_right_B1 : Ss :=
  .cons (.setLc false 5 (.nm 13) (.l (.bin .add (.var 2) (.lst (.cons (.str "q") (.nil))))) (.some (.cmp .nin (.var 13) (.var 3))) (.var 13) [("_law_letter", 13)])
  (.cons (.app 3 (.ix (.var 5) (.call 28 (.cons (.var 0) (.cons (.b1 .len (.var 5)) (.nil))))))
  (.nil))
def m_law_are_letters_right_T5 : Ss :=
  .cons (.setLc false 8 (.nm 14) (.l (.call 36 (.cons (.var 1) (.nil)))) .no (.bin .add (.sl (.var 14) .no (.some (.int 3))) (.tup (.cons (.bin .mul (.bin .mul (.ix (.var 14) (.int 3)) (.var 10)) (.var 11)) (.cons (.ix (.var 14) (.int 4)) (.nil))))) [("_law_row", 14)])
  (.cons (.set 12 (.call 26 (.cons (.call 26 (.cons (.var 1) (.cons (.var 10) (.nil)))) (.cons (.var 11) (.nil)))))
  (.cons (.ret (.and (.call 37 (.cons (.var 12) (.cons (.call 26 (.cons (.var 1) (.cons (.bin .mul (.var 10) (.var 11)) (.nil)))) (.nil)))) (.cmp .eq (.b1 .repr (.call 36 (.cons (.var 12) (.nil)))) (.b1 .repr (.var 8)))))
  (.nil)))
def m_law_are_letters_right_T4 : Ss :=
  .cons (.asg (.tp (.cons (.nm 10) (.cons (.nm 11) (.nil)))) (.tup (.cons (.bin .add (.int 1) (.call 28 (.cons (.var 0) (.cons (.int 9) (.nil))))) (.cons (.call 29 (.cons (.var 0) (.cons (.lst (.cons (.int 1) (.cons (.int 2) (.cons (.int 7) (.cons (.bin .pow (.int 10) (.int 20)) (.nil)))))) (.nil)))) (.nil)))))
  m_law_are_letters_right_T5
def m_law_are_letters_right_T3 : Ss :=
  .cons (.set 9 (.call 25 (.cons (.var 7) (.cons (.b1 .tuple (.lc (.nm 14) (.t (.var 6)) .no (.revU (.var 14)) [("_law_row", 14)])) (.nil)))))
  (.cons (.ite (.or (.cmp .ne (.b1 .repr (.call 36 (.cons (.var 7) (.nil)))) (.b1 .repr (.var 8))) (.not (.call 37 (.cons (.var 9) (.cons (.var 1) (.nil)))))) (.cons (.ret (.bl false))
  (.nil)) (.nil))
  m_law_are_letters_right_T4)
def m_law_are_letters_right_T2 : Ss :=
  .cons (.setLc false 8 (.nm 14) (.l (.call 36 (.cons (.var 1) (.nil)))) .no (.bin .add (.bin .add (.sl (.var 14) .no (.some (.int 2))) (.tup (.cons (.ix (.var 3) (.idx (.var 2) (.ix (.var 14) (.int 2)))) (.nil)))) (.sl (.var 14) (.some (.int 3)) .no)) [("_law_row", 14)])
  m_law_are_letters_right_T3
def m_law_are_letters_right_T1 : Ss :=
  .cons (.set 6 (.b1 .tuple (.lc (.nm 4) (.r1 (.int 8)) .no (.tup (.cons (.ix (.var 2) (.var 4)) (.cons (.ix (.var 3) (.var 4)) (.nil)))) [("_law_k", 4)])))
  (.cons (.set 7 (.call 25 (.cons (.var 1) (.cons (.var 6) (.nil)))))
  m_law_are_letters_right_T2)
def m_law_are_letters_right : Ss :=
  .cons (.set 2 (.lst (.cons (.str "a") (.cons (.str "b") (.cons (.str "c") (.cons (.str "e") (.cons (.str "h") (.cons (.str "x") (.cons (.str "y") (.cons (.str "z") (.nil)))))))))))
  (.cons (.own 3 (.lst (.nil)))
  (.cons (.for_ (.nm 4) (.r1 (.int 8)) m_law_are_letters_right_B1)
  m_law_are_letters_right_T1))
abbrev s_law_are_letters_right : Stmt := top 53
def N_law : List Str := ["_law_script", "_law_source_here", "_law_coder_here", "_law_kept", "_law_i", "_law_k"]
def P_law : List Str := ["_law_script"]
def m_law_T1 : Ss :=
  .cons (.ret (.and (.call 40 (.cons (.var 1) (.cons (.var 2) (.nil)))) (.cmp .eq (.b1 .repr (.var 2)) (.var 3))))
  (.nil)
def m_law : Ss :=
  .cons (.set 1 (.call 27 (.cons (.var 0) (.nil))))
  (.cons (.set 2 (.call 31 (.cons (.var 1) (.nil))))
  (.cons (.par2 false 3 (.b1 .repr (.var 2)) false 4 (.call 28 (.cons (.var 1) (.cons (.b1 .len (.ix (.var 2) (.int 1))) (.nil)))))
  (.cons (.set 5 (.call 28 (.cons (.var 1) (.cons (.b1 .len (.ix (.ix (.var 2) (.int 1)) (.var 4))) (.nil)))))
  (.cons (.ite (.or (.not (.call 38 (.cons (.var 1) (.cons (.var 2) (.cons (.var 4) (.cons (.var 5) (.nil))))))) (.not (.call 39 (.cons (.var 1) (.cons (.var 2) (.cons (.var 4) (.cons (.var 5) (.nil)))))))) (.cons (.ret (.bl false))
  (.nil)) (.nil))
  m_law_T1))))
abbrev s_law : Stmt := top 54
def ds0 : List Df := [⟨"is_integer", s_is_integer, N_is_integer, P_is_integer, m_is_integer⟩,
  ⟨"is_number", s_is_number, N_is_number, P_is_number, m_is_number⟩,
  ⟨"is_count", s_is_count, N_is_count, P_is_count, m_is_count⟩,
  ⟨"is_tuple_of", s_is_tuple_of, N_is_tuple_of, P_is_tuple_of, m_is_tuple_of⟩,
  ⟨"is_letters", s_is_letters, N_is_letters, P_is_letters, m_is_letters⟩,
  ⟨"is_letter", s_is_letter, N_is_letter, P_is_letter, m_is_letter⟩,
  ⟨"is_entry", s_is_entry, N_is_entry, P_is_entry, m_is_entry⟩,
  ⟨"is_context", s_is_context, N_is_context, P_is_context, m_is_context⟩,
  ⟨"is_size", s_is_size, N_is_size, P_is_size, m_is_size⟩,
  ⟨"is_division", s_is_division, N_is_division, P_is_division, m_is_division⟩,
  ⟨"is_manner", s_is_manner, N_is_manner, P_is_manner, m_is_manner⟩,
  ⟨"require_usable", s_require_usable, N_require_usable, P_require_usable, m_require_usable⟩,
  ⟨"with_size", s_with_size, N_with_size, P_with_size, m_with_size⟩,
  ⟨"with_division", s_with_division, N_with_division, P_with_division, m_with_division⟩,
  ⟨"with_manner", s_with_manner, N_with_manner, P_with_manner, m_with_manner⟩,
  ⟨"with_contexts", s_with_contexts, N_with_contexts, P_with_contexts, m_with_contexts⟩,
  ⟨"with_entries", s_with_entries, N_with_entries, P_with_entries, m_with_entries⟩,
  ⟨"entries_of", s_entries_of, N_entries_of, P_entries_of, m_entries_of⟩,
  ⟨"has_letter", s_has_letter, N_has_letter, P_has_letter, m_has_letter⟩,
  ⟨"with_count", s_with_count, N_with_count, P_with_count, m_with_count⟩,
  ⟨"fits_in", s_fits_in, N_fits_in, P_fits_in, m_fits_in⟩,
  ⟨"with_entry", s_with_entry, N_with_entry, P_with_entry, m_with_entry⟩,
  ⟨"without_entry", s_without_entry, N_without_entry, P_without_entry, m_without_entry⟩,
  ⟨"exchanged", s_exchanged, N_exchanged, P_exchanged, m_exchanged⟩,
  ⟨"are_pairs", s_are_pairs, N_are_pairs, P_are_pairs, m_are_pairs⟩]
def ds1 : List Df := [⟨"renamed", s_renamed, N_renamed, P_renamed, m_renamed⟩,
  ⟨"scaled", s_scaled, N_scaled, P_scaled, m_scaled⟩,
  ⟨"_law_source", s_law_source, N_law_source, P_law_source, m_law_source⟩,
  ⟨"_law_draw", s_law_draw, N_law_draw, P_law_draw, m_law_draw⟩,
  ⟨"_law_pick", s_law_pick, N_law_pick, P_law_pick, m_law_pick⟩,
  ⟨"_law_context", s_law_context, N_law_context, P_law_context, m_law_context⟩,
  ⟨"_law_coder", s_law_coder, N_law_coder, P_law_coder, m_law_coder⟩,
  ⟨"_law_is_number", s_law_is_number, N_law_is_number, P_law_is_number, m_law_is_number⟩,
  ⟨"_law_is_letter", s_law_is_letter, N_law_is_letter, P_law_is_letter, m_law_is_letter⟩,
  ⟨"_law_is_entry", s_law_is_entry, N_law_is_entry, P_law_is_entry, m_law_is_entry⟩,
  ⟨"_law_fault", s_law_fault, N_law_fault, P_law_fault, m_law_fault⟩,
  ⟨"_law_rows", s_law_rows, N_law_rows, P_law_rows, m_law_rows⟩,
  ⟨"_law_is_same", s_law_is_same, N_law_is_same, P_law_is_same, m_law_is_same⟩,
  ⟨"_law_are_parts_right", s_law_are_parts_right, N_law_are_parts_right, P_law_are_parts_right, m_law_are_parts_right⟩,
  ⟨"_law_are_entries_right", s_law_are_entries_right, N_law_are_entries_right, P_law_are_entries_right, m_law_are_entries_right⟩,
  ⟨"_law_are_letters_right", s_law_are_letters_right, N_law_are_letters_right, P_law_are_letters_right, m_law_are_letters_right⟩,
  ⟨"law", s_law, N_law, P_law, m_law⟩]
def L : Lw := ⟨M, ds0 ++ ds1, ["len", "int", "repr", "sum", "all", "any", "tuple", "list", "isinstance", "range", "enumerate", "str", "bool", "abs", "super", "set"], [("LETTERS", .str "abcdefghijklmnopqrstuvwxyz"), ("DIVISIONS", .wtp [.str "fine", .str "coarse"]), ("MANNERS", .wtp [.str "plain", .str "pending", .str "cut", .str "late"]), ("LEAST_SIZE", .int (2)), ("GREATEST_SIZE", .int (5))], [], [], [("with_entry", 3, [("at", .non)])]⟩
theorem chk : L.chk = true := by decide +kernel
end K
set_option maxHeartbeats 0
namespace K
open PySem PySem.Spec PyProof.Rows L2 DL
def nm0 : List Str := ["SpanError", "CoderError", "NotUsable", "LETTERS", "DIVISIONS", "MANNERS", "LEAST_SIZE", "GREATEST_SIZE", "is_integer", "is_number", "is_count", "is_tuple_of", "is_letters", "is_letter", "is_entry", "is_context", "is_size", "is_division", "is_manner", "require_usable", "with_size", "with_division", "with_manner", "with_contexts", "with_entries"]
def nm1 : List Str := ["entries_of", "has_letter", "with_count", "fits_in", "with_entry", "without_entry", "exchanged", "are_pairs", "renamed", "scaled", "_law_source", "_law_draw", "_law_pick", "_law_context", "_law_coder", "_law_is_number", "_law_is_letter", "_law_is_entry", "_law_fault", "_law_rows", "_law_is_same", "_law_are_parts_right", "_law_are_entries_right", "_law_are_letters_right"]
def nm : List Str := nm0 ++ nm1
abbrev R : PySem.W.OpenRow := PySem.W.OpenLaw.row PySem.Challenge.rw_bitspans_k11_whole_changes_there_and_bac
abbrev hk : PySem.W.Hook := hookX 5 L.fa L.fn (L.xt R.prog) L.tf
def ob (s : PySem.W.SharedT) : He.AlD := obsX 5 L.fa L.fn (L.xt R.prog) L.tf (HandSHeadRun.getT s)
theorem ob_eq (s : PySem.W.SharedT) : ob s = hk.obs s.abs := obsX_eq (HandSHeadRun.getT_eq s)
theorem run (w : World) : HandSHeadRun.RunEq R (PySem.W.view R.prog [54]) hk ob 4000 nm w := by
  intro os
  kernel_rfl
end K
namespace M17
open PySem DL
/-- how many last bits the two ends differ in -/
def od (a b : Nat) : Nat := Builtin.Int.intBits ((a ^^^ b : Nat) : Int)
/-- the middle -/
def mid (a b : Nat) : Nat := b / 2 ^ (od a b - 1) * 2 ^ (od a b - 1)
end M17
namespace M17
open PySem DL
/-- the d last bits of n, the greatest first, as code points -/
def bs (n : Nat) : Nat → List Nat
  | 0 => []
  | d + 1 => bs (n / 2) d ++ [48 + n % 2]
def bt (n d : Nat) : Str := ⟨(bs n d).toArray⟩
end M17
set_option exponentiation.threshold 2000
namespace BM
open PySem DL M17
inductive Mn where
  | plain | pending | cut | late
deriving DecidableEq
def Mn.s : Mn → Str
  | .plain => "plain"
  | .pending => "pending"
  | .cut => "cut"
  | .late => "late"
structure Ent where
  c : Nat
  n : Nat
  g : Option Nat
structure Rig where
  z : Nat
  cs : List (List Ent)
  fine : Bool
  mn : Mn
structure Ent.ok (m : Nat) (e : Ent) : Prop where
  c0 : 97 ≤ e.c
  c1 : e.c ≤ 122
  n0 : 1 ≤ e.n
  n1 : e.n ≤ 12
  g : ∀ k, e.g = some k → k < m
structure conOk (m : Nat) (es : List Ent) : Prop where
  l0 : 2 ≤ es.length
  l1 : es.length ≤ 4
  ok : ∀ e ∈ es, e.ok m
  nd : (es.map (·.c)).Nodup
structure Rig.ok (r : Rig) : Prop where
  z0 : 2 ≤ r.z
  z1 : r.z ≤ 5
  l0 : 1 ≤ r.cs.length
  l1 : r.cs.length ≤ 3
  ok : ∀ es ∈ r.cs, conOk r.cs.length es
structure Sp where
  l : Nat
  w : Nat
  d : Nat
structure Sp.ok (s : Sp) : Prop where
  w0 : 1 ≤ s.w
  hi : s.l + s.w ≤ 2 ^ s.d
def opn (l w : Nat) : Nat := od l (l + w - 1)
/-- the middle of a span -/
def mdl (l w : Nat) : Nat := mid l (l + w - 1)
def Sp.o (s : Sp) : Nat := opn s.l s.w
def Sp.m (s : Sp) : Nat := mdl s.l s.w
def Sp.lf (s : Sp) : Nat := s.m - s.l
def Sp.rt (s : Sp) : Nat := s.l + s.w - s.m
def mxs (s : Sp) : Nat := max s.lf s.rt
structure Stl where
  s : Sp
  t : Nat
  x : Option Sp
/-- what is settled: its shape by the manner -/
structure Settled (mn : Mn) (z : Nat) (s : Sp) : Prop where
  o : mn ≠ .late → z ≤ s.o
  pd : mn = .pending → 2 ^ (z - 2) < mxs s
  ct : mn = .cut → 2 ^ (z - 2) < s.w
  lt : mn = .late → 2 ^ (z - 1) < s.w
  w : 2 ≤ s.w
theorem Sp.ok.sub {s k : Sp} (h : s.ok) (w : 1 ≤ k.w) (d : k.d = s.d) (a : k.l + k.w ≤ s.l + s.w) : k.ok := ⟨w, by rw [d]; exact Nat.le_trans a h.hi⟩
end BM
set_option maxHeartbeats 4000000
set_option exponentiation.threshold 256
namespace DP
open PySem DL BM M17
theorem sl24 : sizeLine = 2 ^ 24 := by decide +kernel
theorem toPys_ints : ∀ (l : List Int), toPys (l.map D.int) = some (l.map PyData.int)
  | [] => by simp [toPys]
  | i :: l => by simp [toPys, toPy, toPys_ints l]
theorem lay_ints : ∀ (l : List Int), PyData.canLayAll0 (l.map PyData.int) = true
  | [] => by simp [PyData.canLayAll0]
  | i :: l => by simp [PyData.canLayAll0, PyData.canLay0, lay_ints l]
theorem dep_ints : ∀ (l : List Int), PyData.depthAll (l.map PyData.int) ≤ 1
  | [] => by simp [PyData.depthAll]
  | i :: l => by
    have := dep_ints l
    simp [PyData.depthAll, PyData.depth]
    exact this
theorem shp_ints (l : List Int) : SeqAt.shaped (.list (l.map PyData.int)) = true := by
  unfold SeqAt.shaped
  have := dep_ints l
  simp [PyData.canLay0, lay_ints l, PyData.depth]
  omega
theorem ne_nilI {l : List Int} {Q : W → Prop} (q : Q (.d (.bl (!l.isEmpty)))) : wCmp .ne (.d (.lst (l.map D.int))) (.new []) Q := by
  refine ⟨.list (l.map PyData.int), .list [], by simp [pyW, toPy, toPys_ints], by simp [pyW, toPys], shp_ints _, by decide +kernel, ?_⟩
  rw [if_pos rfl, eqv_nilL]
  simpa using q
mutual
def good : D → Bool
  | .ref _ => false
  | .ty _ => false
  | .tup xs => goods xs
  | .lst xs => goods xs
  | .fro xs => goods xs
  | .wtp _ => false
  | _ => true
def goods : List D → Bool
  | [] => true
  | x :: xs => good x && goods xs
end
def isI : D → Bool
  | .int _ => true
  | .bl _ => true
  | _ => false
def isB : D → Bool
  | .bl _ => true
  | _ => false
def isS : D → Bool
  | .str _ => true
  | _ => false
def isT : D → Bool
  | .tup _ => true
  | _ => false
theorem isi_of {T t : String} {b : Bool} {x : D} {Q : W → Prop} (h1 : tyD x = some t) (h2 : L2.kitB t T = some b) : wIsi T (.d x) Q ↔ Q (.d (.bl b)) := by
  unfold wIsi tyW
  constructor
  · rintro ⟨t', b', e1, e2, q⟩
    replace e1 : tyD x = some t' := e1
    rw [h1] at e1; cases e1; rw [h2] at e2; cases e2; exact q
  · intro q; exact ⟨t, b, h1, h2, q⟩
theorem w_int {x : D} {Q : W → Prop} (h : good x = true) : wIsi "int" (.d x) Q ↔ Q (.d (.bl (isI x))) := by
  cases x <;> first | (simp [good] at h; done) | (refine isi_of rfl ?_; show L2.kitB _ _ = some true; decide +kernel) | (refine isi_of rfl ?_; show L2.kitB _ _ = some false; decide +kernel)
theorem w_bool {x : D} {Q : W → Prop} (h : good x = true) : wIsi "bool" (.d x) Q ↔ Q (.d (.bl (isB x))) := by
  cases x <;> first | (simp [good] at h; done) | (refine isi_of rfl ?_; show L2.kitB _ _ = some true; decide +kernel) | (refine isi_of rfl ?_; show L2.kitB _ _ = some false; decide +kernel)
theorem w_str {x : D} {Q : W → Prop} (h : good x = true) : wIsi "str" (.d x) Q ↔ Q (.d (.bl (isS x))) := by
  cases x <;> first | (simp [good] at h; done) | (refine isi_of rfl ?_; show L2.kitB _ _ = some true; decide +kernel) | (refine isi_of rfl ?_; show L2.kitB _ _ = some false; decide +kernel)
theorem w_tuple {x : D} {Q : W → Prop} (h : good x = true) : wIsi "tuple" (.d x) Q ↔ Q (.d (.bl (isT x))) := by
  cases x <;> first | (simp [good] at h; done) | (refine isi_of rfl ?_; show L2.kitB _ _ = some true; decide +kernel) | (refine isi_of rfl ?_; show L2.kitB _ _ = some false; decide +kernel)
def isInt : D → Bool
  | .int _ => true
  | _ => false
def isNum : D → Bool
  | .int i => decide (0 ≤ i)
  | _ => false
theorem lc_map {ds : DSt} {vs : List Nat} {g : Tg} {te : TDE} {P : List D → Hs → Prop} {h : Hs} (f : D → D) : ∀ (xs acc : List D), (∀ x ∈ xs, ∀ Kp : D → Hs → Prop, Kp (f x) h → g.put x (wipeD ds vs) fun ds2 => dD te ds2 h Kp noX) → acc.length + xs.length ≤ sizeLine → P (acc ++ xs.map f) h → lcD ds vs g dYes te P xs acc h
  | [], acc, _, _, p => by unfold lcD; simpa using p
  | x :: xs, acc, H, hl, p => by
    unfold lcD
    show g.put x (wipeD ds vs) fun ds2 => if true = true then dD te ds2 h (fun y h3 => acc.length < sizeLine ∧ lcD ds vs g dYes te P xs (acc ++ [y]) h3) noX else lcD ds vs g dYes te P xs acc h
    simp only [if_true]
    refine H x (by simp) _ ⟨by simp at hl; omega, lc_map f xs (acc ++ [f x]) (fun y hy => H y (List.mem_cons_of_mem _ hy)) (by simp at hl ⊢; omega) (by simpa using p)⟩
theorem log2_lt {a b : Nat} (h : a < 2 ^ b) (hb : 1 ≤ b) : a.log2 < b := by
  by_cases e : a = 0
  · subst e; simp; omega
  · exact (Nat.log2_lt e).mpr h
/-- products of numbers that are not too long -/
theorem cmulB {a b : Nat} {p q : Nat} (ha : a < 2 ^ p) (hb : b < 2 ^ q) (hp : 1 ≤ p) (hq : 1 ≤ q) (h : p + q ≤ 100000) : CMulA (a : Int) (b : Int) := by
  refine .inr ?_
  show (a : Int).natAbs.log2 + (b : Int).natAbs.log2 < 1000000
  rw [Int.natAbs_natCast, Int.natAbs_natCast]
  have := log2_lt ha hp
  have := log2_lt hb hq
  omega
section
variable {α : Type} {a b c d : α} {xs : List α}
@[simp] theorem at0 : L2.atI (a :: xs) 0 = some a := atI_n (k := 0) (by simp)
@[simp] theorem at1 : L2.atI (a :: b :: xs) 1 = some b := atI_n (k := 1) (by simp)
@[simp] theorem at2 : L2.atI (a :: b :: c :: xs) 2 = some c := atI_n (k := 2) (by simp)
@[simp] theorem at3 : L2.atI (a :: b :: c :: d :: xs) 3 = some d := atI_n (k := 3) (by simp)
end
@[simp] theorem ex_ij {a b : Int} {P : Int → Int → Prop} : (∃ i j, (a = i ∧ b = j) ∧ P i j) = P a b := propext ⟨fun ⟨_, _, ⟨e1, e2⟩, p⟩ => e1 ▸ e2 ▸ p, fun p => ⟨a, b, ⟨rfl, rfl⟩, p⟩⟩
@[simp] theorem mm_max {a b : Int} : mmI true a b = max a b := rfl
@[simp] theorem mm_min {a b : Int} : mmI false a b = min a b := rfl
def isCnt : D → Bool
  | .int i => decide (0 < i)
  | _ => false
/-- a comprehension with a test, without objects -/
theorem lc_fil {ds : DSt} {vs : List Nat} {g : Tg} {tt : TDT} {te : TDE} {P : List D → Hs → Prop} {h : Hs} (p : D → Bool) (f : D → D) : ∀ (xs acc : List D),
    (∀ x ∈ xs, ∀ (Kt : D → Hs → Prop) (Kf : Hs → Prop), (p x = true → Kt (f x) h) → (p x = false → Kf h) → g.put x (wipeD ds vs) fun ds2 => tt ds2 h (fun b h2 => if b = true then dD te ds2 h2 Kt noX else Kf h2) noX) →
    acc.length + xs.length ≤ sizeLine → P (acc ++ (xs.filter p).map f) h → lcD ds vs g tt te P xs acc h
  | [], acc, _, _, q => by unfold lcD; simpa using q
  | x :: xs, acc, H, hl, q => by
    unfold lcD
    refine H x (by simp) _ _ (fun hp => ?_) (fun hp => ?_)
    · refine ⟨by simp at hl; omega, lc_fil p f xs (acc ++ [f x]) (fun y hy => H y (List.mem_cons_of_mem _ hy)) (by simp at hl ⊢; omega) ?_⟩
      simpa [List.filter_cons, hp] using q
    · refine lc_fil p f xs acc (fun y hy => H y (List.mem_cons_of_mem _ hy)) (by simp at hl ⊢; omega) ?_
      simpa [List.filter_cons, hp] using q
theorem bd_nat {n : Nat} (h : n < 2 ^ 1000) : Bd 1003 0 (.int n) := bd_int (k := 1000) (by decide) (by
  rw [Int.natAbs_natCast]
  exact Nat.le_of_lt (log2_lt h (by decide)))
theorem eqS {a : Str} {Q : W → Prop} (q : Q (.d (.bl true))) : wCmp .eq (.d (.str a)) (.d (.str a)) Q := by
  show Q (.d (.bl (if false = true then !decide (a = a) else decide (a = a))))
  simpa using q
theorem neS {a : Str} {Q : W → Prop} (q : Q (.d (.bl false))) : wCmp .ne (.d (.str a)) (.d (.str a)) Q := by
  show Q (.d (.bl (if true = true then !decide (a = a) else decide (a = a))))
  simpa using q
theorem eqT {a b : List D} {Q : W → Prop} (q : wData false (.d (.tup a)) (.d (.tup b)) Q) : wCmp .eq (.d (.tup a)) (.d (.tup b)) Q := q
/-- repr of two values that are one -/
theorem repr2 {n d : Nat} {x : D} {Q : W → W → Prop} (h : Bd n d x) (hn : n ≤ 16777216) (hd : d ≤ 40) (q : ∀ s : Str, Q (.d (.str s)) (.d (.str s))) : wB1 .repr (.d x) fun a => wB1 .repr (.d x) fun b => Q a b :=
  repr_bd h (by rw [sl24]; exact hn) hd (repr_bd h (by rw [sl24]; exact hn) hd (q _))
end DP
set_option maxHeartbeats 4000000
namespace CO
open PySem DL DP
def lts : List Nat := ("abcdefghijklmnopqrstuvwxyz" : Str).cps.toList
def isLets : D → Bool
  | .str s => s.cps.toList.all fun c => decide (c ∈ lts)
  | _ => false
def isL (s : Str) : Bool := decide (s.cps.size = 1) && s.cps.toList.all fun c => decide (c ∈ lts)
def isLet : D → Bool
  | .str s => isL s
  | _ => false
def isTn (x : D) (n : Int) : Bool := match x with
  | .tup xs => decide ((xs.length : Int) = n)
  | _ => false
mutual
/-- plain values that are not too large -/
def okA : D → Bool
  | .ref _ => false
  | .ty _ => false
  | .tup xs => decide (xs.length ≤ 1000) && okAs xs
  | .lst xs => decide (xs.length ≤ 1000) && okAs xs
  | .fro xs => decide (xs.length ≤ 1000) && okAs xs
  | .wtp _ => false
  | .str s => decide (s.cps.size ≤ 1000) && PyData.strOk s
  | _ => true
def okAs : List D → Bool
  | [] => true
  | x :: xs => okA x && okAs xs
end
mutual
theorem okA_good : ∀ {x : D}, okA x = true → good x = true
  | .non, _ => rfl
  | .bl _, _ => rfl
  | .int _, _ => rfl
  | .str _, _ => rfl
  | .ref _, h => by simp [okA] at h
  | .ty _, h => by simp [okA] at h
  | .wtp _, h => by simp [okA] at h
  | .tup xs, h => by simp only [okA, Bool.and_eq_true] at h; show goods xs = true; exact okAs_goods h.2
  | .lst xs, h => by simp only [okA, Bool.and_eq_true] at h; show goods xs = true; exact okAs_goods h.2
  | .fro xs, h => by simp only [okA, Bool.and_eq_true] at h; show goods xs = true; exact okAs_goods h.2
theorem okAs_goods : ∀ {xs : List D}, okAs xs = true → goods xs = true
  | [], _ => rfl
  | x :: xs, h => by
    simp only [okAs, Bool.and_eq_true] at h
    simp only [goods, Bool.and_eq_true]
    exact ⟨okA_good h.1, okAs_goods h.2⟩
end
theorem okAs_iff : ∀ {xs : List D}, okAs xs = true ↔ ∀ x ∈ xs, okA x = true
  | [] => by simp [okAs]
  | x :: xs => by simp [okAs, okAs_iff (xs := xs)]
theorem okA_tup {xs : List D} (h : okA (.tup xs) = true) : xs.length ≤ 1000 ∧ ∀ x ∈ xs, okA x = true := by
  simp only [okA, Bool.and_eq_true, decide_eq_true_eq] at h
  exact ⟨h.1, okAs_iff.mp h.2⟩
def isEnt : D → Bool
  | .tup [l, c, n] => isLet l && (isCnt c && (match n with
    | .non => true
    | n => isNum n))
  | _ => false
def letD : D → Str
  | .tup (.str s :: _) => s
  | _ => Str.empty
def isCtx : D → Bool
  | .tup xs => decide (2 ≤ xs.length) && (xs.all isEnt && decide (xs.map letD).Nodup)
  | _ => false
def isSz : D → Bool
  | .int i => decide (2 ≤ i) && decide (i ≤ 5)
  | _ => false
def isDiv : D → Bool
  | .str s => decide (s ∈ (["fine", "coarse"] : List Str))
  | _ => false
def isMan : D → Bool
  | .str s => decide (s ∈ (["plain", "pending", "cut", "late"] : List Str))
  | _ => false
theorem isEnt_inv {x : D} (h : isEnt x = true) : ∃ s c n, x = .tup [.str s, .int c, n] ∧ isL s = true ∧ 0 < c ∧ (n = .non ∨ ∃ j : Nat, n = .int j) := by
  unfold isEnt at h
  split at h
  · rename_i l c n
    simp only [Bool.and_eq_true] at h
    obtain ⟨h1, h2, h3⟩ := h
    cases l <;> first | (simp [isLet] at h1; done) | skip
    cases c <;> first | (simp [isCnt] at h2; done) | skip
    rename_i s i
    refine ⟨s, i, n, rfl, h1, by simpa [isCnt] using h2, ?_⟩
    cases n <;> first | exact .inl rfl | (simp [isNum] at h3; done) | skip
    rename_i j
    simp [isNum] at h3
    exact .inr ⟨j.toNat, by rw [Int.toNat_of_nonneg h3]⟩
  · cases h
structure En where
  l : Str
  c : Int
  n : Option Nat
structure Co where
  z : Int
  cs : List (List En)
  dv : Str
  mn : Str
def nxD : Option Nat → D
  | none => .non
  | some k => .int k
def enD (e : En) : D := .tup [.str e.l, .int e.c, nxD e.n]
def cxD (es : List En) : D := .tup (es.map enD)
def coD (c : Co) : D := .tup [.int c.z, .tup (c.cs.map cxD), .str c.dv, .str c.mn]
def enOk (m : Nat) (e : En) : Prop := isL e.l = true ∧ 0 < e.c ∧ ∀ k, e.n = some k → k < m
structure cxOk (m : Nat) (es : List En) : Prop where
  two : 2 ≤ es.length
  en : ∀ e ∈ es, enOk m e
  nd : (es.map (·.l)).Nodup
structure Co.ok (c : Co) : Prop where
  z0 : 2 ≤ c.z
  z1 : c.z ≤ 5
  c0 : 0 < c.cs.length
  c1 : c.cs.length ≤ 10
  cx : ∀ es ∈ c.cs, cxOk c.cs.length es
  dv : c.dv ∈ (["fine", "coarse"] : List Str)
  mn : c.mn ∈ (["plain", "pending", "cut", "late"] : List Str)
/-- counts below a power of two -/
def Co.cb (b : Nat) (c : Co) : Prop := ∀ es ∈ c.cs, ∀ e ∈ es, e.c < 2 ^ b
theorem isL_one {s : Str} (h : isL s = true) : ∃ c ∈ lts, s = ⟨#[c]⟩ := by
  obtain ⟨⟨l⟩⟩ := s
  simp only [isL, Bool.and_eq_true, decide_eq_true_eq, List.all_eq_true] at h
  obtain ⟨h1, h2⟩ := h
  match l, h1, h2 with
  | [c], _, h2 => exact ⟨c, h2 c (by simp), rfl⟩
theorem sub_len {α : Type} [DecidableEq α] : ∀ {l m : List α}, l.Nodup → (∀ x ∈ l, x ∈ m) → l.length ≤ m.length
  | [], m, _, _ => Nat.zero_le _
  | a :: l, m, nd, h => by
    rw [List.nodup_cons] at nd
    have ha := h a (by simp)
    have := sub_len (l := l) (m := m.erase a) nd.2 fun x hx => (List.mem_erase_of_ne (fun e => nd.1 (by rw [← e]; exact hx))).mpr (h x (List.mem_cons_of_mem _ hx))
    rw [List.length_erase_of_mem ha] at this
    have hp : 0 < m.length := List.length_pos_of_mem ha
    simp only [List.length_cons]
    omega
def ltS : List Str := lts.map fun c => ⟨#[c]⟩
theorem ltS_len : ltS.length = 26 := by decide +kernel
theorem isL_mem {s : Str} (h : isL s = true) : s ∈ ltS := by
  obtain ⟨c, hc, rfl⟩ := isL_one h
  exact List.mem_map.mpr ⟨c, hc, rfl⟩
theorem cxOk.few {m : Nat} {es : List En} (h : cxOk m es) : es.length ≤ 26 := by
  have := sub_len (m := ltS) h.nd fun x hx => by
    obtain ⟨e, he, rfl⟩ := List.mem_map.mp hx
    exact isL_mem (h.en e he).1
  rw [ltS_len] at this
  simpa using this
theorem enD_ent {m : Nat} {e : En} (h : enOk m e) : isEnt (enD e) = true := by
  obtain ⟨h1, h2, h3⟩ := h
  unfold enD isEnt
  simp only [isLet, h1, isCnt, decide_eq_true h2, Bool.true_and]
  cases e.n <;> simp [nxD, isNum]
theorem lts_ok : ∀ c ∈ lts, PyData.strOk ⟨#[c]⟩ = true := by decide +kernel
theorem isL_strOk {s : Str} (h : isL s = true) : PyData.strOk s = true := by
  obtain ⟨c, hc, rfl⟩ := isL_one h
  exact lts_ok c hc
theorem okA_en {e : En} (h : isL e.l = true) : okA (enD e) = true := by
  have h1 : e.l.cps.size = 1 := by simp only [isL, Bool.and_eq_true, decide_eq_true_eq] at h; exact h.1
  have h3 := isL_strOk h
  have h2 : okA (nxD e.n) = true := by cases e.n <;> rfl
  simp [enD, okA, okAs, h1, h2, h3]
theorem okA_cx {m : Nat} {es : List En} (h : cxOk m es) : okA (cxD es) = true := by
  have := h.few
  simp only [cxD, okA, Bool.and_eq_true, decide_eq_true_eq, List.length_map]
  refine ⟨by omega, okAs_iff.mpr fun x hx => ?_⟩
  obtain ⟨e, he, rfl⟩ := List.mem_map.mp hx
  exact okA_en (h.en e he).1
theorem isCtx_cx {m : Nat} {es : List En} (h2 : 2 ≤ es.length) (he : ∀ e ∈ es, enOk m e) : isCtx (cxD es) = decide (es.map (·.l)).Nodup := by
  have e1 : (es.map enD).all isEnt = true := by
    rw [List.all_eq_true]
    intro x hx
    obtain ⟨e, h, rfl⟩ := List.mem_map.mp hx
    exact enD_ent (he e h)
  have e2 : (es.map enD).map letD = es.map (·.l) := by rw [List.map_map] <;> rfl
  simp [isCtx, cxD, e1, e2, h2]
def cxA (c : Co) (k : Nat) : List En := c.cs.getD k []
def idx (c : Co) : D → Option Nat
  | .int i => if 0 ≤ i ∧ i < c.cs.length then some i.toNat else none
  | _ => none
def strOf : D → Str
  | .str s => s
  | _ => Str.empty
def intOf : D → Int
  | .int i => i
  | _ => 0
def natOf : D → Option Nat
  | .int i => some i.toNat
  | _ => none
def hasL (es : List En) (x : D) : Bool := isLet x && decide (strOf x ∈ es.map (·.l))
def setX (c : Co) (k : Nat) (es : List En) : Co := { c with cs := c.cs.take k ++ es :: c.cs.drop (k + 1) }
def cntE (s : Str) (n : Int) (e : En) : En := { e with c := if e.l = s then n else e.c }
def wSize (c : Co) (x : D) : Co ⊕ Str := if isSz x = true then .inl { c with z := intOf x } else .inr "size"
def wDiv (c : Co) (x : D) : Co ⊕ Str := if isDiv x = true then .inl { c with dv := strOf x } else .inr "division"
def wMan (c : Co) (x : D) : Co ⊕ Str := if isMan x = true then .inl { c with mn := strOf x } else .inr "manner"
def wCount (c : Co) (i l n : D) : Co ⊕ Str := match idx c i with
  | none => .inr "context"
  | some k => if hasL (cxA c k) l = true then (if isCnt n = true then .inl (setX c k ((cxA c k).map (cntE (strOf l) (intOf n)))) else .inr "count") else .inr "letter"
def fits (c : Co) (es : List En) : D → Bool
  | .tup [l, n, x] => isEnt (.tup [l, n, x]) && (!hasL es l && (match x with
    | .non => true
    | x => decide (intOf x < c.cs.length)))
  | _ => false
def enOf : D → En
  | .tup [l, n, x] => ⟨strOf l, intOf n, natOf x⟩
  | _ => ⟨Str.empty, 0, none⟩
/-- where an entry is put -/
def spot (es : List En) : D → Option Nat
  | .non => some es.length
  | .int j => if 0 ≤ j ∧ j ≤ es.length then some j.toNat else none
  | _ => none
def wEntry (c : Co) (i x a : D) : Co ⊕ Str := match idx c i with
  | none => .inr "context"
  | some k => if fits c (cxA c k) x = true then (match spot (cxA c k) a with
    | some j => .inl (setX c k ((cxA c k).take j ++ enOf x :: (cxA c k).drop j))
    | none => .inr "at") else .inr "entry"
def woEntry (c : Co) (i l : D) : Co ⊕ Str := match idx c i with
  | none => .inr "context"
  | some k => if hasL (cxA c k) l = true ∧ 2 < (cxA c k).length then .inl (setX c k ((cxA c k).filter fun e => !decide (e.l = strOf l))) else .inr "letter"
def swapE (es : List En) (j : Nat) : List En := match es[j]?, es[j + 1]? with
  | some a, some b => es.take j ++ b :: a :: es.drop (j + 2)
  | _, _ => es
def wSwap (c : Co) (i a : D) : Co ⊕ Str := match idx c i with
  | none => .inr "context"
  | some k => if isNum a = true ∧ intOf a + 1 < (cxA c k).length then .inl (setX c k (swapE (cxA c k) (intOf a).toNat)) else .inr "at"
def isPr : D → Bool
  | .tup [a, b] => isLet a && isLet b
  | _ => false
def prOf : D → Str × Str
  | .tup [a, b] => (strOf a, strOf b)
  | _ => (Str.empty, Str.empty)
def arePr : D → Bool
  | .tup ps => ps.all isPr && decide ((ps.map fun p => (prOf p).1).Nodup)
  | _ => false
def prs : D → List (Str × Str)
  | .tup ps => ps.map prOf
  | _ => []
def ren (t : List (Str × Str)) (s : Str) : Str := ((t.find? fun p => decide (p.1 = s)).map (·.2)).getD s
def renE (t : List (Str × Str)) (e : En) : En := { e with l := ren t e.l }
def wRen (c : Co) (x : D) : Co ⊕ Str := if arePr x = true then (if ∀ es ∈ c.cs, ((es.map (renE (prs x))).map (·.l)).Nodup then .inl { c with cs := c.cs.map fun es => es.map (renE (prs x)) } else .inr "letters") else .inr "letters"
def mulE (t : Int) (e : En) : En := { e with c := e.c * t }
def wScale (c : Co) (x : D) : Co ⊕ Str := if isCnt x = true then .inl { c with cs := c.cs.map fun es => es.map (mulE (intOf x)) } else .inr "times"
theorem idx_lt {c : Co} {i : D} {k : Nat} (h : idx c i = some k) : k < c.cs.length ∧ i = .int k := by
  unfold idx at h
  split at h
  · split at h
    · cases h; rename_i hi; exact ⟨by omega, by rw [Int.toNat_of_nonneg hi.1]⟩
    · cases h
  · cases h
theorem idx_nat {c : Co} {k : Nat} (h : k < c.cs.length) : idx c (.int k) = some k := by
  show (if 0 ≤ (k : Int) ∧ (k : Int) < c.cs.length then some (k : Int).toNat else none) = some k
  rw [if_pos ⟨by omega, by omega⟩] <;> rfl
theorem cxA_mem {c : Co} {k : Nat} (h : k < c.cs.length) : cxA c k ∈ c.cs := by
  unfold cxA
  rw [List.getD_eq_getElem?_getD, List.getElem?_eq_getElem h]
  exact List.getElem_mem h
theorem cxA_get {c : Co} {k : Nat} (h : k < c.cs.length) : c.cs[k] = cxA c k := by
  unfold cxA
  rw [List.getD_eq_getElem?_getD, List.getElem?_eq_getElem h] <;> rfl
theorem setX_len {c : Co} {k : Nat} {es : List En} (h : k < c.cs.length) : (setX c k es).cs.length = c.cs.length := by
  simp [setX]; omega
theorem setX_mem {c : Co} {k : Nat} {es fs : List En} (h : fs ∈ (setX c k es).cs) : fs = es ∨ fs ∈ c.cs := by
  simp only [setX, List.mem_append, List.mem_cons] at h
  rcases h with h | h | h
  · exact .inr (List.mem_of_mem_take h)
  · exact .inl h
  · exact .inr (List.mem_of_mem_drop h)
theorem setX_ok {c : Co} {k : Nat} {es : List En} (h : c.ok) (hk : k < c.cs.length) (he : cxOk c.cs.length es) : (setX c k es).ok := by
  have l := setX_len (es := es) hk
  refine ⟨h.z0, h.z1, by rw [l]; exact h.c0, by rw [l]; exact h.c1, fun fs hf => ?_, h.dv, h.mn⟩
  rw [l]
  rcases setX_mem hf with rfl | hf
  · exact he
  · exact h.cx fs hf
theorem setX_cb {c : Co} {b k : Nat} {es : List En} (h : c.cb b) (he : ∀ e ∈ es, e.c < 2 ^ b) : (setX c k es).cb b := fun fs hf => by
  rcases setX_mem hf with rfl | hf
  · exact he
  · exact h fs hf
theorem cnt_l (s : Str) (n : Int) (es : List En) : (es.map (cntE s n)).map (·.l) = es.map (·.l) := by rw [List.map_map] <;> rfl
theorem cnt_ok {m : Nat} {es : List En} {s : Str} {n : Int} (h : cxOk m es) (hn : 0 < n) : cxOk m (es.map (cntE s n)) := by
  refine ⟨by simpa using h.two, fun e he => ?_, by rw [cnt_l]; exact h.nd⟩
  obtain ⟨f, hf, rfl⟩ := List.mem_map.mp he
  have := h.en f hf
  refine ⟨this.1, ?_, this.2.2⟩
  show 0 < if f.l = s then n else f.c
  split
  · exact hn
  · exact this.2.1
theorem perm_ok {m : Nat} {es fs : List En} (h : cxOk m es) (p : fs.Perm es) : cxOk m fs :=
  ⟨by rw [p.length_eq]; exact h.two, fun e he => h.en e (p.mem_iff.mp he), (p.map (·.l)).nodup_iff.mpr h.nd⟩
end CO
set_option maxHeartbeats 4000000
set_option exponentiation.threshold 2000
namespace CO
open PySem DL DP
theorem bd_l {s : Str} (h : isL s = true) : Bd 12 0 (.str s) := by
  have h1 := isL_strOk h
  have h2 : s.cps.size = 1 := by simp only [isL, Bool.and_eq_true, decide_eq_true_eq] at h; exact h.1
  exact ⟨by simpa [plD] using h1, by simp [szD, h2], by simp [dpD]⟩
theorem bd_pos {c : Int} (h0 : 0 < c) (h1 : c < 2 ^ 1000) : Bd 1003 0 (.int c) := by
  obtain ⟨m, rfl⟩ := Int.eq_ofNat_of_zero_le (Int.le_of_lt h0)
  exact bd_nat (by exact_mod_cast h1)
theorem bd_nx {n : Option Nat} (h : ∀ k, n = some k → k < 100) : Bd 67 0 (nxD n) := by
  cases n with
  | none => exact bd_non.mono
  | some k => have := h k rfl; exact bd_int64 (by omega) (by omega)
theorem bd_en {m : Nat} {e : En} (h : enOk m e) (hm : m ≤ 10) (h1 : e.c < 2 ^ 1000) : Bd 1100 1 (enD e) :=
  (Bds.cons (bd_l h.1) (Bds.cons (bd_pos h.2.1 h1) (Bds.cons (bd_nx fun k e => by have := h.2.2 k e; omega) (Bds.nil (d := 0))))).tup.mono
theorem bd_cx {m : Nat} {es : List En} (h : cxOk m es) (hm : m ≤ 10) (h1 : ∀ e ∈ es, e.c < 2 ^ 1000) : Bd 29000 2 (cxD es) := by
  have := (Bds.all (n := 1100) (d := 1) (xs := es.map enD) fun x hx => by
    obtain ⟨e, he, rfl⟩ := List.mem_map.mp hx
    exact bd_en (h.en e he) hm (h1 e he)).tup
  refine this.mono ?_
  have := h.few
  have : (es.map enD).length * (1100 + 2) ≤ 26 * 1102 := Nat.mul_le_mul_right _ (by simpa using h.few)
  omega
theorem bd_cs {co : Co} (ok : co.ok) (cb : co.cb 1000) : Bd 291000 3 (.tup (co.cs.map cxD)) := by
  have := (Bds.all (n := 29000) (d := 2) (xs := co.cs.map cxD) fun x hx => by
    obtain ⟨es, he, rfl⟩ := List.mem_map.mp hx
    exact bd_cx (ok.cx es he) ok.c1 (cb es he)).tup
  refine this.mono ?_
  have : (co.cs.map cxD).length * (29000 + 2) ≤ 10 * 29002 := Nat.mul_le_mul_right _ (by simpa using ok.c1)
  omega
theorem dv_bd : ∀ s ∈ (["fine", "coarse"] : List Str), Bd 80 0 (.str s) := by
  intro s h
  simp only [List.mem_cons, List.not_mem_nil, or_false] at h
  rcases h with rfl | rfl <;> exact ⟨by decide +kernel, by decide +kernel, by decide +kernel⟩
theorem mn_bd : ∀ s ∈ (["plain", "pending", "cut", "late"] : List Str), Bd 80 0 (.str s) := by
  intro s h
  simp only [List.mem_cons, List.not_mem_nil, or_false] at h
  rcases h with rfl | rfl | rfl | rfl <;> exact ⟨by decide +kernel, by decide +kernel, by decide +kernel⟩
theorem bd_co {co : Co} (ok : co.ok) (cb : co.cb 1000) : Bd 292000 4 (coD co) :=
  (Bds.cons (bd_int64 (i := co.z) (by have := ok.z0; omega) (by have := ok.z1; omega)) (Bds.cons (bd_cs ok cb) (Bds.cons (dv_bd _ ok.dv) (Bds.cons (mn_bd _ ok.mn) (Bds.nil (d := 0)))))).tup.mono
theorem cb_mono {co : Co} {a b : Nat} (h : co.cb a) (l : a ≤ b) : co.cb b := fun es he e hee => by
  have := h es he e hee
  have h2 : (2 : Int) ^ a ≤ 2 ^ b := by exact_mod_cast Nat.pow_le_pow_right (by decide) l
  omega
end CO
set_option maxHeartbeats 4000000
set_option exponentiation.threshold 2000
namespace CO
open PySem DL DP
def rowD (i k : Nat) (e : En) : D := .tup [.int i, .int k, .str e.l, .int e.c, nxD e.n]
def rowsX (i : Nat) (es : List En) : List D := es.zipIdx.map fun p => rowD i p.2 p.1
def rowsL (cs : List (List En)) : List D := (cs.zipIdx.map fun p => rowsX p.2 p.1).flatten
theorem rowsX_take {i k : Nat} {es : List En} (h : k < es.length) : rowsX i (es.take (k + 1)) = rowsX i (es.take k) ++ [rowD i k es[k]] := by
  unfold rowsX
  rw [List.take_add_one, List.getElem?_eq_getElem h, List.zipIdx_append, List.map_append]
  simp [Nat.min_eq_left (Nat.le_of_lt h)]
theorem rowsL_take {i : Nat} {cs : List (List En)} (h : i < cs.length) : rowsL (cs.take (i + 1)) = rowsL (cs.take i) ++ rowsX i cs[i] := by
  unfold rowsL
  rw [List.take_add_one, List.getElem?_eq_getElem h, List.zipIdx_append, List.map_append, List.flatten_append]
  simp [Nat.min_eq_left (Nat.le_of_lt h)]
theorem rowsX_len {i : Nat} {es : List En} : (rowsX i es).length = es.length := by simp [rowsX]
theorem rowsL_len {co : Co} (ok : co.ok) : ∀ i, i ≤ co.cs.length → (rowsL (co.cs.take i)).length ≤ 26 * i
  | 0, _ => by simp [rowsL]
  | i + 1, h => by
    have h1 : i < co.cs.length := h
    rw [rowsL_take h1, List.length_append, rowsX_len]
    have := rowsL_len ok i (by omega)
    have := (ok.cx _ (List.getElem_mem h1)).few
    omega
theorem rowsX_mem {i : Nat} {es : List En} {x : D} (h : x ∈ rowsX i es) : ∃ k, ∃ h : k < es.length, x = rowD i k es[k] := by
  obtain ⟨p, hp, rfl⟩ := List.mem_map.mp h
  obtain ⟨e, k⟩ := p
  have := List.mem_zipIdx hp
  simp at this
  exact ⟨k, this.1, congrArg (rowD i k) this.2⟩
theorem rowsL_mem {cs : List (List En)} {x : D} (h : x ∈ rowsL cs) : ∃ i, ∃ h : i < cs.length, ∃ k, ∃ h2 : k < cs[i].length, x = rowD i k cs[i][k] := by
  obtain ⟨l, hl, hx⟩ := List.mem_flatten.mp h
  obtain ⟨p, hp, rfl⟩ := List.mem_map.mp hl
  obtain ⟨es, i⟩ := p
  have := List.mem_zipIdx hp
  simp at this
  obtain ⟨k, hk, e⟩ := rowsX_mem hx
  obtain ⟨h1, h2⟩ : ∃ h : i < cs.length, es = cs[i] := ⟨this.1, this.2⟩
  clear this hp hl
  subst h2
  exact ⟨i, h1, k, hk, e⟩
theorem rowsX_ext {i : Nat} {es es' : List En} {g : D → D} (hl : es'.length = es.length) (h : ∀ k (h1 : k < es.length) (h2 : k < es'.length), rowD i k es'[k] = g (rowD i k es[k])) : rowsX i es' = (rowsX i es).map g := by
  refine List.ext_getElem (by simp [rowsX, hl]) fun k h1 h2 => ?_
  simp [rowsX] at h1 h2 ⊢
  exact h k h2 h1
theorem rowsL_ext {cs cs' : List (List En)} {g : D → D} (hl : cs'.length = cs.length) (h : ∀ i (h1 : i < cs.length) (h2 : i < cs'.length), rowsX i cs'[i] = (rowsX i cs[i]).map g) : rowsL cs' = (rowsL cs).map g := by
  unfold rowsL
  rw [List.map_flatten]
  congr 1
  refine List.ext_getElem (by simp [hl]) fun i h1 h2 => ?_
  simp at h1 h2 ⊢
  exact h i h2 h1
theorem setX_eq {c : Co} {k : Nat} {es : List En} (h : k < c.cs.length) : setX c k es = { c with cs := c.cs.set k es } := by
  unfold setX
  rw [List.set_eq_take_append_cons_drop, if_pos h]
theorem cxA_set {c : Co} {k : Nat} {es : List En} (h : k < c.cs.length) : cxA (setX c k es) k = es := by
  rw [setX_eq h]
  unfold cxA
  simp [List.getD_eq_getElem?_getD, h]
theorem setX_set {c : Co} {k : Nat} {a b : List En} (h : k < c.cs.length) : setX (setX c k a) k b = setX c k b := by
  rw [setX_eq (by rw [setX_len h]; exact h), setX_eq h, setX_eq h]
  simp
theorem setX_id {c : Co} {k : Nat} (h : k < c.cs.length) : setX c k (cxA c k) = c := by
  rw [setX_eq h, ← cxA_get h]
  simp
theorem rowsL_set {c : Co} {k : Nat} {es : List En} {g : D → D} (h : k < c.cs.length) (h1 : rowsX k es = (rowsX k (cxA c k)).map g) (h2 : ∀ i, i ≠ k → ∀ j e, g (rowD i j e) = rowD i j e) : rowsL (setX c k es).cs = (rowsL c.cs).map g := by
  refine rowsL_ext (setX_len h) fun i i1 i2 => ?_
  have e : (setX c k es).cs[i] = if k = i then es else c.cs[i] := by
    simp only [setX_eq h]
    rw [List.getElem_set]
  rw [e]
  by_cases hk : k = i
  · subst hk
    rw [if_pos rfl, h1, cxA_get h]
  · rw [if_neg hk]
    refine rowsX_ext rfl fun j _ _ => (h2 i (fun z => hk z.symm) j _).symm
theorem nd_inj : ∀ {es : List En}, (es.map (·.l)).Nodup → ∀ a ∈ es, ∀ b ∈ es, a.l = b.l → a = b
  | [], _, a, ha, _, _, _ => by cases ha
  | e :: es, nd, a, ha, b, hb, h => by
    rw [List.map_cons, List.nodup_cons] at nd
    rcases List.mem_cons.mp ha with ea | ha2
    · rcases List.mem_cons.mp hb with eb | hb2
      · rw [ea, eb]
      · exact absurd (List.mem_map.mpr ⟨b, hb2, by rw [← h, ea]⟩) nd.1
    · rcases List.mem_cons.mp hb with eb | hb2
      · exact absurd (List.mem_map.mpr ⟨a, ha2, by rw [h, eb]⟩) nd.1
      · exact nd_inj nd.2 a ha2 b hb2 h
theorem nd_idx {es : List En} (nd : (es.map (·.l)).Nodup) {j k : Nat} (hj : j < es.length) (hk : k < es.length) (h : es[j].l = es[k].l) : j = k := by
  have a : (es.map (·.l))[j]'(by simpa using hj) = (es.map (·.l))[k]'(by simpa using hk) := by simpa using h
  exact (List.getElem_inj nd).mp a
theorem cnt_id {es : List En} (nd : (es.map (·.l)).Nodup) {k : Nat} (hk : k < es.length) : es.map (cntE es[k].l es[k].c) = es := by
  refine (List.map_congr_left fun e he => ?_).trans (List.map_id es)
  unfold cntE
  by_cases h : e.l = es[k].l
  · have := nd_inj nd e he _ (List.getElem_mem hk) h
    rw [if_pos h]
    rw [← this] <;> rfl
  · rw [if_neg h] <;> rfl
theorem cnt_cnt {es : List En} {s : Str} {n m : Int} : (es.map (cntE s n)).map (cntE s m) = es.map (cntE s m) := by
  rw [List.map_map]
  refine List.map_congr_left fun e _ => ?_
  simp only [Function.comp, cntE]
  by_cases h : e.l = s <;> simp [h]
theorem fil_id {es : List En} {s : Str} (h : ∀ x ∈ es, x.l ≠ s) : es.filter (fun x => !decide (x.l = s)) = es :=
  List.filter_eq_self.mpr fun x hx => by simpa using h x hx
theorem fil_put {es : List En} {e : En} {j : Nat} (h : ∀ x ∈ es, x.l ≠ e.l) : (es.take j ++ e :: es.drop j).filter (fun x => !decide (x.l = e.l)) = es := by
  rw [List.filter_append, List.filter_cons_of_neg (by simp), ← List.filter_append, List.take_append_drop]
  exact fil_id h
theorem fil_cut {es : List En} (nd : (es.map (·.l)).Nodup) {k : Nat} (hk : k < es.length) : es.filter (fun x => !decide (x.l = es[k].l)) = es.take k ++ es.drop (k + 1) := by
  have hs : es = es.take k ++ es[k] :: es.drop (k + 1) := by rw [← List.drop_eq_getElem_cons hk, List.take_append_drop]
  have nin : ∀ x ∈ es.take k ++ es.drop (k + 1), x.l ≠ es[k].l := by
    intro x hx e
    rw [hs, List.map_append, List.map_cons] at nd
    have p : ((es.take k).map (·.l) ++ es[k].l :: (es.drop (k + 1)).map (·.l)).Perm (es[k].l :: ((es.take k).map (·.l) ++ (es.drop (k + 1)).map (·.l))) := List.perm_middle
    have := p.nodup_iff.mp nd
    rw [List.nodup_cons] at this
    exact this.1 (by rw [← List.map_append]; exact List.mem_map.mpr ⟨x, hx, e⟩)
  have : es.filter (fun x => !decide (x.l = es[k].l)) = (es.take k ++ es[k] :: es.drop (k + 1)).filter (fun x => !decide (x.l = es[k].l)) := by rw [← hs]
  rw [this, List.filter_append, List.filter_cons_of_neg (by simp), ← List.filter_append]
  exact fil_id nin
theorem put_cut {es : List En} {k : Nat} (hk : k < es.length) : (es.take k ++ es.drop (k + 1)).take k ++ es[k] :: (es.take k ++ es.drop (k + 1)).drop k = es := by
  have h1 : (es.take k).length = k := by rw [List.length_take]; omega
  rw [List.take_append_of_le_length (by omega), List.take_take, Nat.min_self, List.drop_append_of_le_length (by omega), List.drop_of_length_le (by omega), List.nil_append, ← List.drop_eq_getElem_cons hk, List.take_append_drop]
theorem put_perm {es : List En} {e : En} {j : Nat} : (es.take j ++ e :: es.drop j).Perm (e :: es) := by
  refine List.perm_middle.trans ?_
  rw [List.take_append_drop]
theorem put_ok {m : Nat} {es : List En} {e : En} {j : Nat} (h : cxOk m es) (he : enOk m e) (hn : ∀ x ∈ es, x.l ≠ e.l) : cxOk m (es.take j ++ e :: es.drop j) := by
  have p := put_perm (es := es) (e := e) (j := j)
  refine ⟨by rw [p.length_eq]; have := h.two; simp; omega, fun x hx => ?_, (p.map (·.l)).nodup_iff.mpr ?_⟩
  · rcases List.mem_cons.mp (p.mem_iff.mp hx) with rfl | hx
    · exact he
    · exact h.en x hx
  · rw [List.map_cons, List.nodup_cons]
    refine ⟨fun z => ?_, h.nd⟩
    obtain ⟨x, hx, ex⟩ := List.mem_map.mp z
    exact hn x hx ex
theorem cut_ok {m : Nat} {es : List En} {k : Nat} (h : cxOk m es) (h2 : 2 < es.length) (hk : k < es.length) : cxOk m (es.take k ++ es.drop (k + 1)) := by
  have sb : (es.take k ++ es.drop (k + 1)).Sublist es := by
    conv => rhs; rw [← List.take_append_drop k es]
    refine List.Sublist.append (List.Sublist.refl _) ?_
    rw [List.drop_eq_getElem_cons hk]
    exact List.sublist_cons_self _ _
  refine ⟨by simp; omega, fun x hx => h.en x (sb.subset hx), (sb.map (·.l)).nodup h.nd⟩
theorem swap_perm {es : List En} {j : Nat} : (swapE es j).Perm es := by
  unfold swapE
  split
  · rename_i a b ha hb
    obtain ⟨h1, rfl⟩ := List.getElem?_eq_some_iff.mp ha
    obtain ⟨h2, rfl⟩ := List.getElem?_eq_some_iff.mp hb
    conv => rhs; rw [← List.take_append_drop j es, List.drop_eq_getElem_cons h1, List.drop_eq_getElem_cons h2]
    exact List.Perm.append_left _ (List.Perm.swap _ _ _)
  · exact List.Perm.refl _
theorem swap_at {es : List En} {j : Nat} (h : j + 1 < es.length) : swapE es j = es.take j ++ es[j + 1] :: es[j] :: es.drop (j + 2) := by
  unfold swapE
  rw [List.getElem?_eq_getElem (by omega : j < es.length), List.getElem?_eq_getElem h]
theorem swap_swap {es : List En} {j : Nat} (h : j + 1 < es.length) : swapE (swapE es j) j = es := by
  have e := swap_at h
  have h1 : (es.take j).length = j := by rw [List.length_take]; omega
  have g1 : (swapE es j)[j]? = some es[j + 1] := by rw [e, List.getElem?_append_right (by omega), h1]; simp
  have g2 : (swapE es j)[j + 1]? = some es[j] := by rw [e, List.getElem?_append_right (by omega), h1]; simp
  have t1 : (swapE es j).take j = es.take j := by rw [e, List.take_append_of_le_length (by omega), List.take_take, Nat.min_self]
  have t2 : (swapE es j).drop (j + 2) = es.drop (j + 2) := by
    rw [e, List.drop_append, List.drop_of_length_le (by omega), h1]
    simp [show j + 2 - j = 2 by omega]
  have : swapE (swapE es j) j = (swapE es j).take j ++ es[j] :: es[j + 1] :: (swapE es j).drop (j + 2) := by
    generalize swapE es j = X at g1 g2 ⊢
    unfold swapE
    rw [g1, g2]
  rw [this, t1, t2]
  conv => rhs; rw [← List.take_append_drop j es, List.drop_eq_getElem_cons (by omega : j < es.length), List.drop_eq_getElem_cons h]
theorem ren_zip : ∀ {a b : List Str} {i : Nat} (h1 : i < a.length) (h2 : i < b.length), a.Nodup → ren (a.zip b) a[i] = b[i]
  | x :: a, y :: b, 0, _, _, _ => by simp [ren]
  | x :: a, y :: b, i + 1, h1, h2, nd => by
    rw [List.nodup_cons] at nd
    have ne : ¬ x = a[i]'(by simpa using h1) := fun e => nd.1 (by rw [e]; exact List.getElem_mem _)
    have ih := ren_zip (a := a) (b := b) (i := i) (by simpa using h1) (by simpa using h2) nd.2
    simp only [ren, List.zip_cons_cons, List.getElem_cons_succ] at ih ⊢
    rw [List.find?_cons_of_neg (by simpa using ne)]
    exact ih
theorem ren_back {a b : List Str} (hl : a.length = b.length) (na : a.Nodup) (nb : b.Nodup) {s : Str} (h : s ∈ a) : ren (b.zip a) (ren (a.zip b) s) = s := by
  obtain ⟨i, hi, rfl⟩ := List.getElem_of_mem h
  rw [ren_zip hi (by omega) na, ren_zip (by omega) hi nb]
theorem ren_inj {a b : List Str} (hl : a.length = b.length) (na : a.Nodup) (nb : b.Nodup) {s u : Str} (hs : s ∈ a) (hu : u ∈ a) (h : ren (a.zip b) s = ren (a.zip b) u) : s = u := by
  rw [← ren_back hl na nb hs, h, ren_back hl na nb hu]
theorem nodup_map {α β : Type} {f : α → β} : ∀ {l : List α}, l.Nodup → (∀ x ∈ l, ∀ y ∈ l, f x = f y → x = y) → (l.map f).Nodup
  | [], _, _ => by simp
  | a :: l, nd, h => by
    rw [List.nodup_cons] at nd
    rw [List.map_cons, List.nodup_cons]
    refine ⟨fun z => ?_, nodup_map nd.2 fun x hx y hy => h x (List.mem_cons_of_mem _ hx) y (List.mem_cons_of_mem _ hy)⟩
    obtain ⟨x, hx, e⟩ := List.mem_map.mp z
    exact nd.1 (by rw [← h x (List.mem_cons_of_mem _ hx) a (by simp) e]; exact hx)
end CO
set_option maxHeartbeats 4000000
set_option exponentiation.threshold 2000
namespace K
open PySem DL DP CO
/-- the source: at most k draws so far -/
def SH (k : Nat) (h : Hs) : Prop := ∃ (cells : List Int) (a b c : Int) (R : Hs), h = .lst [.lst (cells.map D.int), .int a, .int b, .int c] :: R ∧ cells.length ≤ 63 ∧ 0 ≤ a ∧ a ≤ k ∧ 0 ≤ c ∧ c ≤ k
def spDraw : FnD := fun xs h P _ => match xs with
  | [.ref 0, .int n] => ∃ k, SH k h ∧ k ≤ 1000000 ∧ 0 < n ∧ n ≤ 18446744073709551616 ∧ ∀ r h', 0 ≤ r → r < n → SH (k + 1) h' → P (.int r) h'
  | _ => False
def mE : Ss := (.cons (.set 5 (.bin .mod (.b1 .int (.bin .pow (.bin .add (.bin .add (.bin .mod (.b1 .int (.var 4)) (.int 1999999973)) (.bin .mul (.int 60103) (.hix (.var 0) (.int 3)))) (.int 307)) (.int 3))) (.int 2147483549)))
  (.cons (.set 5 (.bin .mod (.b1 .int (.bin .pow (.bin .add (.bin .add (.var 5) (.bin .mul (.bin .mul (.int 4987) (.hix (.var 0) (.int 3))) (.hix (.var 0) (.int 3)))) (.int 71)) (.int 5))) (.int 2147483563)))
  (.cons (.ret (.bin .mod (.b1 .int (.bin .fdiv (.var 5) (.int 128))) (.var 1)))
  (.nil))))
theorem mE_ok {F : Fns} {R : Hs} {n cell c : Int} {d0 d1 d2 : D} {w2 w3 w5 : Option W} {En : DEnds} (h0 : 0 < n) (h1 : n ≤ 18446744073709551616) (c0 : 0 ≤ c) (ck : c ≤ 1000001) (q : ∀ r, 0 ≤ r → r < n → En.rt (.int r) (.lst [d0, d1, d2, .int c] :: R)) :
    mE.d M F [some (.d (.ref 0)), some (.d (.int n)), w2, w3, some (.d (.int cell)), w5] (.lst [d0, d1, d2, .int c] :: R) En := by
  have m0 : ∀ i : Int, 0 ≤ i % n := fun i => Int.emod_nonneg _ (by omega)
  have m1 : ∀ i : Int, i % n < n := fun i => Int.emod_lt_of_pos _ h0
  have c1 : CMulA 60103 c := .inl (.inl ⟨by decide, by decide⟩)
  have c2 : CMulA 4987 c := .inl (.inl ⟨by decide, by decide⟩)
  have c3 : CMulA (4987 * c) c := .inl (.inr ⟨by omega, by omega⟩)
  have e1 := Int.emod_nonneg cell (b := 1999999973) (by decide)
  have e2 := Int.emod_lt_of_pos cell (b := 1999999973) (by decide)
  have p1 : L2.CPow (cell % 1999999973 + 60103 * c + 307) 3 := ⟨by decide, by decide, by omega⟩
  have p2 : ∀ m : Int, 0 ≤ m → m < 2147483549 → L2.CPow (m + 4987 * c * c + 71) 5 := fun m a b => ⟨by decide, by decide, by
    have t1 : 4987 * c * c ≤ 4987 * c * 1000001 := Int.mul_le_mul_of_nonneg_left ck (by omega)
    have t2 : 0 ≤ 4987 * c * c := Int.mul_nonneg (by omega) c0
    omega⟩
  have dv : ∀ i : Int, CDivA i 128 := fun i => .inl ⟨by decide, by decide⟩
  simp [mE, Ss.d, S.d, E.d, dHix, L2.atI, L2.ixN, wBin, wInt, wB1, wIntc, c1, c2, c3, p1, dv, h0]
  generalize hm : (cell % 1999999973 + 60103 * c + 307) ^ 3 % 2147483549 = m
  have hm0 : 0 ≤ m := by rw [← hm]; exact Int.emod_nonneg _ (by decide)
  have hm1 : m < 2147483549 := by rw [← hm]; exact Int.emod_lt_of_pos _ (by decide)
  exact ⟨p2 m hm0 hm1, q _ (m0 _) (m1 _)⟩
def mD : Ss := (.cons (.ite (.and (.cmp .ge (.var 4) (.bin .pow (.int 10) (.int 18))) (.cmp .lt (.var 3) (.b1 .len (.hix (.var 0) (.int 0))))) (.cons (.hset (.var 0) (.int 2) (.bin .fdiv (.var 4) (.var 1)))
  (.cons (.ret (.bin .mod (.b1 .int (.var 4)) (.var 1)))
  (.nil))) (.nil)) mE)
theorem mD_ok {F : Fns} {R : Hs} {n cell a b c : Int} {cells : List D} {k : Nat} {w2 w5 : Option W} {En : DEnds} (h0 : 0 < n) (h1 : n ≤ 18446744073709551616) (c0 : 0 ≤ c) (ck : c ≤ 1000001) (q : ∀ r b', 0 ≤ r → r < n → En.rt (.int r) (.lst [.lst cells, .int (a + 1), .int b', .int c] :: R)) :
    mD.d M F [some (.d (.ref 0)), some (.d (.int n)), w2, some (.d (.int a)), some (.d (.int cell)), w5] (.lst [.lst cells, .int (a + 1), .int b, .int c] :: R) En := by
  have m0 : ∀ i : Int, 0 ≤ i % n := fun i => Int.emod_nonneg _ (by omega)
  have m1 : ∀ i : Int, i % n < n := fun i => Int.emod_lt_of_pos _ h0
  have dv : ∀ i : Int, CDivA i n := fun i => .inr ⟨h0, by
    have := (Nat.log2_lt (n := n.natAbs) (k := 65) (by omega)).mpr (by omega)
    omega⟩
  have pw : L2.CPow 10 18 := ⟨by decide, by decide, by decide⟩
  unfold mD
  have me := mE_ok (F := F) (R := R) (n := n) (cell := cell) (c := c) (d0 := .lst cells) (d1 := .int (a + 1)) (d2 := .int b) (w2 := w2) (w3 := some (.d (.int a))) (w5 := w5) (En := En) h0 h1 c0 ck (fun r a b => q r _ a b)
  generalize mE = me' at me ⊢
  simp [Ss.d, S.d, E.d, E.t, dHix, dHset, L2.atI, L2.ixN, wBin, wInt, wB1, wIntc, wCmp, wLt, pw, dv, h0, wLen, seqW, lstW, tupW]
  split
  · split
    · exact q _ _ (m0 _) (m1 _)
    · exact me
  · exact me
def mC2 : Ss := (.cons (.set 4 (.ite (.cmp .ne (.hix (.var 0) (.int 0)) (.lst (.nil))) (.ix (.hix (.var 0) (.int 0)) (.bin .mod (.b1 .int (.var 3)) (.b1 .len (.hix (.var 0) (.int 0))))) (.int 53))) mD)
theorem mC2_ok {F : Fns} {R : Hs} {n a b c : Int} {cells : List Int} {w2 w4 w5 : Option W} {En : DEnds} (hl : cells.length ≤ 63) (a0 : 0 ≤ a) (h0 : 0 < n) (h1 : n ≤ 18446744073709551616) (c0 : 0 ≤ c) (ck : c ≤ 1000001) (q : ∀ r b', 0 ≤ r → r < n → En.rt (.int r) (.lst [.lst (cells.map D.int), .int (a + 1), .int b', .int c] :: R)) :
    mC2.d M F [some (.d (.ref 0)), some (.d (.int n)), w2, some (.d (.int a)), w4, w5] (.lst [.lst (cells.map D.int), .int (a + 1), .int b, .int c] :: R) En := by
  unfold mC2
  have md := fun cell => mD_ok (F := F) (R := R) (n := n) (cell := cell) (a := a) (b := b) (c := c) (cells := cells.map D.int) (k := 0) (w2 := w2) (w5 := w5) (En := En) h0 h1 c0 ck q
  generalize mD = md' at md ⊢
  simp [Ss.d, S.d, E.d, E.t, Es.d, dHix, -List.map_map]
  refine ne_nilI ?_
  cases cells with
  | nil => simpa using md 53
  | cons x l =>
    have hp : (0 : Int) < ((x :: l).length : Int) := by simp
    have e0 := Int.emod_nonneg a (b := ((x :: l).length : Int)) (by omega)
    have e1 := Int.emod_lt_of_pos a hp
    refine .inr ⟨by simp, ?_⟩
    simp [wB1, wIntc, wLen, seqW, lstW, wBin, wInt]
    have eL : ((x :: l).length : Int) = (l.length : Int) + 1 := by simp
    rw [eL] at e0 e1
    have hm : (a % ((l.length : Int) + 1)).toNat < (x :: l).length := by rw [List.length_cons]; omega
    have ea : L2.atI (D.int x :: List.map D.int l) (a % ((l.length : Int) + 1)) = some (.int ((x :: l)[(a % ((l.length : Int) + 1)).toNat])) := by
      rw [show D.int x :: List.map D.int l = List.map D.int (x :: l) from rfl, atI_of e0 (by rw [List.length_map, eL]; exact e1), List.getElem_map]
    simp only [wIx]
    exact ⟨_, _, rfl, ea, _, rfl, md _⟩
theorem p_law_draw {F : Fns} {k : Nat} {n : Int} {h : Hs} {Q : D → Hs → Prop} {Z : XD} (hs : SH k h) (hk : k ≤ 1000000) (h0 : 0 < n) (h1 : n ≤ 18446744073709551616) (q : ∀ r h', 0 ≤ r → r < n → SH (k + 1) h' → Q (.int r) h') : m_law_draw.d M F (startD 6 [.ref 0, .int n]) h (fin Q Z) := by
  obtain ⟨cells, a, b, c, R, rfl, hl, a0, ak, c0, ck⟩ := hs
  have m0 : ∀ i : Int, 0 ≤ i % n := fun i => Int.emod_nonneg _ (by omega)
  have m1 : ∀ i : Int, i % n < n := fun i => Int.emod_lt_of_pos _ h0
  have dv : ∀ i : Int, CDivA i n := fun i => .inr ⟨h0, by
    have := (Nat.log2_lt (n := n.natAbs) (k := 65) (by omega)).mpr (by omega)
    omega⟩
  have hmm : m_law_draw = .cons (.hset (.var 0) (.int 3) (.bin .add (.hix (.var 0) (.int 3)) (.int 1)))
    (.cons (.ite (.cmp .gt (.hix (.var 0) (.int 2)) (.int 0)) (.cons (.set 2 (.bin .mod (.b1 .int (.hix (.var 0) (.int 2))) (.var 1))) (.cons (.hset (.var 0) (.int 2) (.bin .fdiv (.hix (.var 0) (.int 2)) (.var 1))) (.cons (.ret (.var 2)) (.nil)))) (.nil))
    (.cons (.set 3 (.hix (.var 0) (.int 1))) (.cons (.hset (.var 0) (.int 1) (.bin .add (.var 3) (.int 1))) mC2))) := rfl
  rw [hmm]
  have mc := mC2_ok (F := F) (R := R) (n := n) (a := a) (b := b) (c := c + 1) (cells := cells) (w2 := none) (w4 := none) (w5 := none) (En := fin Q Z) hl a0 h0 h1 (by omega) (by omega) (fun r b' r0 r1 => q r _ r0 r1 ⟨cells, a + 1, b', c + 1, R, rfl, hl, by omega, by omega, by omega, by omega⟩)
  generalize mC2 = mc' at mc ⊢
  simp [Ss.d, S.d, E.d, E.t, startD, List.replicate_succ, dHset, dHix, wBin, wInt, L2.atI, L2.ixN, wCmp, wLt, wB1, wIntc, dv, h0]
  split
  · exact q _ _ (m0 _) (m1 _) ⟨cells, a, b / n, c + 1, R, rfl, hl, a0, by omega, by omega, by omega⟩
  · exact mc
theorem SH.mono {j k : Nat} {h : Hs} (s : SH j h) (l : j ≤ k) : SH k h := by
  obtain ⟨cells, a, b, c, R, e, hl, a0, ak, c0, ck⟩ := s
  exact ⟨cells, a, b, c, R, e, hl, a0, by omega, c0, by omega⟩
def spSource : FnD := fun xs h P _ => match xs with
  | [.fro cs] => ∃ ns : List Int, cs = ns.map D.int ∧ h = [] ∧ ∀ h', SH 0 h' → P (.ref 0) h'
  | _ => False
theorem k_law_source {F : Fns} : Kp M F m_law_source 1 spSource := by
  intro xs h Q Z q0
  match xs, q0 with
  | [.fro cs], ⟨ns, hc, hh, q⟩ =>
    subst hc hh
    simp [m_law_source, Ss.d, S.d, E.d, Es.d, startD, dNewL, dSl, Oe.d, dNo, dPart, wSl, fin, lstW]
    refine ⟨by decide, q _ ⟨ns.take 63, 0, 0, 0, [], ?_, by rw [List.length_take]; omega, by omega, by omega, by omega, by omega⟩⟩
    have e := cutD_take (xs := ns.map D.int) (k := 63)
    rw [show ((63 : Nat) : Int) = 63 from rfl] at e
    rw [e, List.map_take]
theorem k_law_draw {F : Fns} : Kp M F m_law_draw 6 spDraw := by
  intro xs h Q Z q0
  match xs, q0 with
  | [.ref 0, .int n], ⟨k, hs, hk, h0, h1, q⟩ => exact p_law_draw hs hk h0 h1 q
/-- one of the rows -/
def spPick : FnD := fun xs h P _ => match xs with
  | [.ref 0, .lst rows] => ∃ k, SH k h ∧ k ≤ 1000000 ∧ 0 < rows.length ∧ rows.length ≤ 100000 ∧ ∀ r h', r ∈ rows → SH (k + 1) h' → P r h'
  | _ => False
theorem k_law_pick {F : Fns} (f0 : F.f 28 = spDraw) : Kp M F m_law_pick 2 spPick := by
  intro xs h Q Z q0
  match xs, q0 with
  | [.ref 0, .lst rows], ⟨k, hs, hk, h0, h1, q⟩ =>
    simp [m_law_pick, Ss.d, S.d, E.d, Es.d, Es.len, startD, fin, f0, spDraw, wB1, wLen, seqW, lstW, tupW]
    refine ⟨k, hs, hk, by omega, by omega, fun r h' r0 r1 hs' => ?_⟩
    simp only [wIx]
    obtain ⟨r', rfl⟩ := Int.eq_ofNat_of_zero_le r0
    have hr : r' < rows.length := by omega
    exact ⟨rows, rows[r'], rfl, atI_n hr, rows[r'], rfl, q _ _ (List.getElem_mem hr) hs'⟩
end K
set_option maxHeartbeats 4000000
namespace K
open PySem DL DP CO
/-- a def of one plain value that tells b of it -/
def tellsA (b : D → Bool) : FnD := fun xs h P _ => match xs with
  | [x] => okA x = true ∧ P (.bl (b x)) h
  | _ => False
theorem k_is_integer {F : Fns} : Kp M F m_is_integer 1 (tellsA isInt) := by
  intro xs h Q Z q0
  match xs, q0 with
  | [x], ⟨ho, q⟩ =>
    have hx := okA_good ho
    simp [m_is_integer, Ss.d, S.d, E.d, startD, w_int hx, w_bool hx, fin]
    cases x <;> simp_all [isI, isB, isInt, good]
theorem k_is_number {F : Fns} (f0 : F.f 0 = tellsA isInt) : Kp M F m_is_number 1 (tellsA isNum) := by
  intro xs h Q Z q0
  match xs, q0 with
  | [x], ⟨hx, q⟩ =>
    simp [m_is_number, Ss.d, S.d, E.d, Es.d, Es.len, startD, fin, f0, tellsA, hx]
    cases x <;> simp_all [isInt, isNum, wCmp, wLt]
theorem k_is_count {F : Fns} (f0 : F.f 0 = tellsA isInt) : Kp M F m_is_count 1 (tellsA isCnt) := by
  intro xs h Q Z q0
  match xs, q0 with
  | [x], ⟨hx, q⟩ =>
    simp [m_is_count, Ss.d, S.d, E.d, Es.d, Es.len, startD, fin, f0, tellsA, hx]
    cases x <;> simp_all [isInt, isCnt, wCmp, wLt]
def spTn : FnD := fun xs h P _ => match xs with
  | [x, .int n] => okA x = true ∧ P (.bl (isTn x n)) h
  | _ => False
theorem k_is_tuple_of {F : Fns} : Kp M F m_is_tuple_of 2 spTn := by
  intro xs h Q Z q0
  match xs, q0 with
  | [x, .int n], ⟨ho, q⟩ =>
    have hx := okA_good ho
    simp [m_is_tuple_of, Ss.d, S.d, E.d, startD, fin, w_tuple hx]
    cases x <;> simp_all [isT, isTn, wB1, wLen, seqW, lstW, tupW, wCmp, wEq]
theorem k_is_letters {F : Fns} (c0 : F.c 0 = .str "abcdefghijklmnopqrstuvwxyz") : Kp M F m_is_letters 2 (tellsA isLets) := by
  intro xs h Q Z q0
  match xs, q0 with
  | [x], ⟨ho, q⟩ =>
    have hx := okA_good ho
    simp [m_is_letters, Ss.d, S.d, E.d, Es.d, Es.len, Ic.d, Oe.t, startD, fin, w_str hx]
    cases x <;> simp_all [isS, isLets, good]
    rename_i s
    have hz : s.cps.size ≤ 1000 := by simp [okA] at ho; exact ho.1
    unfold dLc dItS
    simp
    refine lc_map (fun x => .bl (isLets x)) _ [] (fun x hx Kp k => ?_) (by unfold sizeLine; simp; omega) ?_
    · simp at hx
      obtain ⟨c, hc, rfl⟩ := hx
      simp [isLets] at k
      simp [Tg.put, wipeD, E.d, c0, wCmp, wIn]
      simpa [lts] using k
    · simp [wB1, wAll, lstW]
      refine ⟨s.cps.toList.map fun c => decide (c ∈ lts), ?_, ?_⟩
      · simp [isLets]
      · simpa [List.all_map, Function.comp_def, Array.all_toList] using q
theorem let_lets {x : D} (h : isLets x = false) : isLet x = false := by
  cases x with
  | str s =>
    have h' : (s.cps.toList.all fun c => decide (c ∈ lts)) = false := h
    show (decide (s.cps.size = 1) && s.cps.toList.all fun c => decide (c ∈ lts)) = false
    rw [h', Bool.and_false]
  | _ => rfl
theorem k_is_letter {F : Fns} (f4 : F.f 4 = tellsA isLets) : Kp M F m_is_letter 1 (tellsA isLet) := by
  intro xs h Q Z q0
  match xs, q0 with
  | [x], ⟨ho, q⟩ =>
    simp [m_is_letter, Ss.d, S.d, E.d, Es.d, Es.len, startD, fin, f4, tellsA, ho]
    cases hb : isLets x with
    | false => rw [let_lets hb] at q; simpa using q
    | true =>
      cases x with
      | str s =>
        have e : isLet (.str s) = decide ((s.length : Int) = 1) := by
          have hb' : (s.cps.toList.all fun c => decide (c ∈ lts)) = true := hb
          show (decide (s.cps.size = 1) && s.cps.toList.all fun c => decide (c ∈ lts)) = _
          rw [hb', Bool.and_true]
          show decide (s.cps.size = 1) = decide ((s.cps.size : Int) = 1)
          exact decide_eq_decide.mpr (by omega)
        rw [e] at q
        simp [wB1, wLen, wCmp, wEq]
        have hz : s.cps.size ≤ 1000 := by simp [okA] at ho; exact ho.1
        exact ⟨by unfold sizeLine; show s.cps.size ≤ _; omega, by simpa using q⟩
      | _ => simp [isLets] at hb
theorem tn3 {x : D} (h : isTn x 3 = true) : ∃ a b c, x = .tup [a, b, c] := by
  cases x <;> first | (simp [isTn] at h; done) | skip
  rename_i l
  simp only [isTn, decide_eq_true_eq] at h
  match l, h with
  | [a, b, c], _ => exact ⟨a, b, c, rfl⟩
  | [], h => simp at h
  | [_], h => simp at h
  | [_, _], h => simp at h
  | _ :: _ :: _ :: _ :: l, h => simp at h; omega
theorem k_is_entry {F : Fns} (f1 : F.f 1 = tellsA isNum) (f2 : F.f 2 = tellsA isCnt) (f3 : F.f 3 = spTn) (f5 : F.f 5 = tellsA isLet) : Kp M F m_is_entry 4 (tellsA isEnt) := by
  intro xs h Q Z q0
  match xs, q0 with
  | [x], ⟨ho, q⟩ =>
    simp [m_is_entry, Ss.d, S.d, E.d, E.t, Es.d, Es.len, startD, List.replicate_succ, f1, f2, f3, f5, tellsA, spTn, ho, fin]
    cases h3 : isTn x 3 with
    | false =>
      have : isEnt x = false := by
        unfold isEnt; split
        · simp [isTn] at h3
        · rfl
      rw [this] at q
      simp_all
    | true =>
      obtain ⟨a, b, c, rfl⟩ := tn3 h3
      have g' : okA a = true ∧ okA b = true ∧ okA c = true := by simpa [okA, okAs] using ho
      simp [Tgs.len, g'.1, g'.2.1, g'.2.2]
      cases ha : isLet a with
      | false => simp [isEnt, ha] at q; simpa using q
      | true =>
        cases hb : isCnt b with
        | false => simp [isEnt, ha, hb] at q; simpa using q
        | true =>
          simp [isEnt, ha, hb] at q
          cases c <;> simp_all [isNum]
end K
set_option maxHeartbeats 4000000
namespace K
open PySem DL DP CO
theorem dd_nodup : ∀ (l acc : List L2.Key), (acc ++ l).Nodup → l.foldl ddS acc = acc ++ l
  | [], acc, _ => by simp
  | k :: l, acc, h => by
    have hk : hasK acc k = false := by
      cases hh : hasK acc k with
      | false => rfl
      | true =>
        exfalso
        obtain ⟨x, hx, e⟩ := List.any_eq_true.mp hh
        have e := of_decide_eq_true e
        subst e
        exact (List.nodup_append.mp h).2.2 x hx x (by simp) rfl
    have e1 : ddS acc k = acc ++ [k] := by unfold ddS; rw [hk, if_neg Bool.false_ne_true]
    rw [List.foldl_cons, e1, dd_nodup l (acc ++ [k]) (by simpa using h)]
    simp
theorem dd_lt : ∀ (l acc : List L2.Key), acc.Nodup → ¬ (acc ++ l).Nodup → (l.foldl ddS acc).length < acc.length + l.length
  | [], acc, ha, h => by simp at h; exact absurd ha h
  | k :: l, acc, ha, h => by
    rw [List.foldl_cons]
    cases hh : hasK acc k with
    | true =>
      have e1 : ddS acc k = acc := by unfold ddS; rw [hh, if_pos rfl]
      rw [e1]
      have := dd_len l acc
      simp only [List.length_cons]
      omega
    | false =>
      have e1 : ddS acc k = acc ++ [k] := by unfold ddS; rw [hh, if_neg Bool.false_ne_true]
      rw [e1]
      have hk : k ∉ acc := fun z => by
        have : hasK acc k = true := List.any_eq_true.mpr ⟨k, z, by simp⟩
        rw [hh] at this; cases this
      have ha' : (acc ++ [k]).Nodup := by
        rw [List.nodup_append]
        exact ⟨ha, by simp, fun a h1 b h2 e => by simp at h2; subst h2; subst e; exact hk h1⟩
      have := dd_lt l (acc ++ [k]) ha' (by simpa using h)
      simp only [List.length_append, List.length_cons, List.length_nil] at this ⊢
      omega
theorem dd_eq (l : List L2.Key) : decide (((dd l).length : Int) = (l.length : Int)) = decide l.Nodup := by
  by_cases h : l.Nodup
  · have := dd_nodup l [] (by simpa using h)
    rw [decide_eq_true h]
    have : dd l = l := by simpa [dd] using this
    rw [this]; simp
  · have := dd_lt l [] (by simp) (by simpa using h)
    rw [decide_eq_false h]
    have h2 : (dd l).length < l.length := by simpa [dd] using this
    exact decide_eq_false (by omega)
theorem nodup_inr : ∀ {l : List Str}, (l.map (Sum.inr : Str → L2.Key)).Nodup ↔ l.Nodup
  | [] => by simp
  | s :: l => by
    rw [List.map_cons, List.nodup_cons, List.nodup_cons, nodup_inr]
    have : (Sum.inr s : L2.Key) ∈ l.map (Sum.inr : Str → L2.Key) ↔ s ∈ l := by
      constructor
      · intro h; obtain ⟨x, hx, e⟩ := List.mem_map.mp h; cases e; exact hx
      · intro h; exact List.mem_map.mpr ⟨s, h, rfl⟩
    rw [this]
theorem kD_strs (l : List Str) : (l.map (Sum.inr : Str → L2.Key)).map kD = l.map D.str := by rw [List.map_map]; rfl
theorem ent_letD {x : D} (h : isEnt x = true) : ∃ c n, x = .tup [.str (letD x), c, n] := by
  obtain ⟨s, c, n, rfl, _⟩ := isEnt_inv h
  exact ⟨_, _, rfl⟩
theorem k_is_context {F : Fns} (f6 : F.f 6 = tellsA isEnt) : Kp M F m_is_context 2 (tellsA isCtx) := by
  intro xs h Q Z q0
  match xs, q0 with
  | [x], ⟨ho, q⟩ =>
    have hx := okA_good ho
    simp [m_is_context, Ss.d, S.d, E.d, E.t, Es.d, Es.len, Ic.d, Oe.t, startD, List.replicate_succ, f6, tellsA, w_tuple hx, fin]
    cases x <;> simp_all [isT, isCtx]
    rename_i xs
    obtain ⟨hl, hm⟩ := okA_tup ho
    simp [wB1, wLen, seqW, lstW, tupW, wCmp, wLt]
    by_cases h2 : xs.length < 2
    · refine .inr ⟨by omega, ?_⟩
      have e : decide (2 ≤ xs.length) = false := decide_eq_false (by omega)
      simpa [e] using q
    · refine .inl ⟨by omega, ?_⟩
      have e : decide (2 ≤ xs.length) = true := decide_eq_true (by omega)
      simp only [e, Bool.true_and] at q
      unfold dLc dItT
      simp
      refine lc_map (fun x => .bl (isEnt x)) _ [] (fun y hy Kp k => ?_) (by unfold sizeLine; simp; omega) ?_
      · simp [Tg.put, wipeD]
        exact ⟨hm y hy, k⟩
      · simp [wAll, lstW]
        refine ⟨xs.map isEnt, by simp, ?_⟩
        have ea : (xs.map isEnt).all (fun b => b) = xs.all isEnt := by rw [List.all_map]; rfl
        cases hall : xs.all isEnt with
        | false =>
          rw [hall] at q
          refine .inl ⟨?_, by simpa using q⟩
          obtain ⟨y, hy, hf⟩ := List.all_eq_false.mp hall
          exact List.mem_map.mpr ⟨y, hy, by simpa using hf⟩
        | true =>
          rw [hall, Bool.true_and] at q
          have hall' := List.all_eq_true.mp hall
          refine .inr ⟨fun z => ?_, ?_⟩
          · obtain ⟨y, hy, hf⟩ := List.mem_map.mp z
            rw [hall' y hy] at hf
            cases hf
          · refine lc_map (fun x => .str (letD x)) _ [] (fun y hy Kp k => ?_) (by unfold sizeLine; simp; omega) ?_
            · obtain ⟨c, n, e1⟩ := ent_letD (hall' y hy)
              generalize letD y = s at e1 k
              subst e1
              simp [Tg.put, wipeD, wIx, seqW, lstW, tupW]
              exact k
            · simp only [List.nil_append]
              refine ⟨(xs.map letD).map Sum.inr, ?_, by simp; omega, ?_⟩
              · rw [kD_strs, List.map_map]; rfl
              · have e3 := dd_eq ((xs.map letD).map Sum.inr)
                rw [List.length_map, List.length_map, show decide (((xs.map letD).map (Sum.inr : Str → L2.Key)).Nodup) = decide (xs.map letD).Nodup from decide_eq_decide.mpr nodup_inr] at e3
                rw [← e3] at q
                simpa [wEq] using q
end K
set_option maxHeartbeats 4000000
namespace K
open PySem DL DP CO
theorem k_is_size {F : Fns} (f1 : F.f 1 = tellsA isNum) (c3 : F.c 3 = .int 2) (c4 : F.c 4 = .int 5) : Kp M F m_is_size 1 (tellsA isSz) := by
  intro xs h Q Z q0
  match xs, q0 with
  | [x], ⟨ho, q⟩ =>
    simp [m_is_size, Ss.d, S.d, E.d, Es.d, Es.len, startD, fin, f1, tellsA, ho, c3, c4]
    cases hx : isNum x with
    | false =>
      have e : isSz x = false := by
        cases x <;> first | rfl | skip
        rename_i i
        simp [isNum] at hx
        simp [isSz]; omega
      rw [e] at q
      simpa using q
    | true =>
      cases x <;> first | (simp [isNum] at hx; done) | skip
      rename_i i
      simp [isSz, dChainV, wCmp, wLt] at q ⊢
      by_cases h2 : 2 ≤ i
      · simpa [h2] using q
      · simpa [h2] using q
theorem eqv_str {a b : Str} : PyData.eqv (.str a) (.str b) = decide (b = a) := by
  simp only [PyData.eqv]
  by_cases h : a = b
  · subst h; simp
  · rw [decide_eq_false (fun e => h e.symm)]
    simpa using h
theorem shp_str {s : Str} (h : okA (.str s) = true) : SeqAt.shaped (.str s) = true := by
  simp [okA] at h
  simp [SeqAt.shaped, PyData.canLay0, PyData.depth, h.2]
theorem k_is_division {F : Fns} (c1 : F.c 1 = .wtp [.str "fine", .str "coarse"]) : Kp M F m_is_division 1 (tellsA isDiv) := by
  intro xs h Q Z q0
  match xs, q0 with
  | [x], ⟨ho, q⟩ =>
    have hx := okA_good ho
    simp [m_is_division, Ss.d, S.d, E.d, Es.d, Es.len, startD, fin, c1, w_str hx]
    cases x <;> simp_all [isS, isDiv]
    rename_i s
    refine ⟨.str s, [.str "fine", .str "coarse"], by simp [pyW, toPy], .inr (by simp [pyW, toPy, toPys]), shp_str ho, by decide +kernel, by decide +kernel, ?_⟩
    simpa [eqv_str] using q
theorem k_is_manner {F : Fns} (c2 : F.c 2 = .wtp [.str "plain", .str "pending", .str "cut", .str "late"]) : Kp M F m_is_manner 1 (tellsA isMan) := by
  intro xs h Q Z q0
  match xs, q0 with
  | [x], ⟨ho, q⟩ =>
    have hx := okA_good ho
    simp [m_is_manner, Ss.d, S.d, E.d, Es.d, Es.len, startD, fin, c2, w_str hx]
    cases x <;> simp_all [isS, isMan]
    rename_i s
    refine ⟨.str s, [.str "plain", .str "pending", .str "cut", .str "late"], by simp [pyW, toPy], .inr (by simp [pyW, toPy, toPys]), shp_str ho, by decide +kernel, by decide +kernel, ?_⟩
    simpa [eqv_str] using q
theorem sz4 : 4 ≤ sizeLine := by decide +kernel
theorem sz3 : 3 ≤ sizeLine := by decide +kernel
def xnU (w : Str) : Xn := ⟨0, [("at", .int (-1)), ("word", .str w)]⟩
def spReq : FnD := fun xs h P Z => match xs with
  | [.bl b, .str w] => (b = true → P .non h) ∧ (b = false → Z (xnU w) h)
  | _ => False
theorem k_require_usable {F : Fns} : Kp M F m_require_usable 2 spReq := by
  intro xs h Q Z q0
  match xs, q0 with
  | [.bl b, .str w], ⟨q1, q2⟩ =>
    simp [m_require_usable, Ss.d, S.d, E.d, E.t, Es.d, startD, fin, wNeg, dRaise, M]
    cases b with
    | false => have := q2 rfl; simpa [xnU] using this
    | true => simpa using q1 rfl
/-- a coder, or the word of an error -/
def outC (r : Co ⊕ Str) (h : Hs) (P : D → Hs → Prop) (Z : XD) : Prop := match r with
  | .inl c => P (coD c) h
  | .inr w => Z (xnU w) h
def spTop (f : Co → D → Co ⊕ Str) : FnD := fun xs h P Z => match xs with
  | [c, x] => ∃ co, c = coD co ∧ okA x = true ∧ outC (f co x) h P Z
  | _ => False
theorem k_with_size {F : Fns} (f1 : F.f 8 = tellsA isSz) (f2 : F.f 11 = spReq) : Kp M F m_with_size 6 (spTop wSize) := by
  intro xs h Q Z q0
  match xs, q0 with
  | [c, x], ⟨co, hc, ho, q⟩ =>
    subst hc
    simp [m_with_size, Ss.d, S.d, E.d, E.t, Es.d, Es.len, Tgs.len, startD, List.replicate_succ, fin, dDrop, sz4, f1, f2, tellsA, spReq, ho, coD]
    unfold wSize outC at q
    cases hs : isSz x with
    | true =>
      rw [hs, if_pos rfl] at q
      cases x <;> first | (simp [isSz] at hs; done) | skip
      simpa [coD, intOf] using q
    | false =>
      rw [hs, if_neg Bool.false_ne_true] at q
      simpa using q
theorem k_with_division {F : Fns} (f1 : F.f 9 = tellsA isDiv) (f2 : F.f 11 = spReq) : Kp M F m_with_division 6 (spTop wDiv) := by
  intro xs h Q Z q0
  match xs, q0 with
  | [c, x], ⟨co, hc, ho, q⟩ =>
    subst hc
    simp [m_with_division, Ss.d, S.d, E.d, E.t, Es.d, Es.len, Tgs.len, startD, List.replicate_succ, fin, dDrop, sz4, f1, f2, tellsA, spReq, ho, coD]
    unfold wDiv outC at q
    cases hs : isDiv x with
    | true =>
      rw [hs, if_pos rfl] at q
      cases x <;> first | (simp [isDiv] at hs; done) | skip
      simpa [coD, strOf] using q
    | false =>
      rw [hs, if_neg Bool.false_ne_true] at q
      simpa using q
theorem k_with_manner {F : Fns} (f1 : F.f 10 = tellsA isMan) (f2 : F.f 11 = spReq) : Kp M F m_with_manner 6 (spTop wMan) := by
  intro xs h Q Z q0
  match xs, q0 with
  | [c, x], ⟨co, hc, ho, q⟩ =>
    subst hc
    simp [m_with_manner, Ss.d, S.d, E.d, E.t, Es.d, Es.len, Tgs.len, startD, List.replicate_succ, fin, dDrop, sz4, f1, f2, tellsA, spReq, ho, coD]
    unfold wMan outC at q
    cases hs : isMan x with
    | true =>
      rw [hs, if_pos rfl] at q
      cases x <;> first | (simp [isMan] at hs; done) | skip
      simpa [coD, strOf] using q
    | false =>
      rw [hs, if_neg Bool.false_ne_true] at q
      simpa using q
/-- other contexts -/
def spCxs : FnD := fun xs h P _ => match xs with
  | [.tup [a, _, d, m], t] => P (.tup [a, t, d, m]) h
  | _ => False
theorem k_with_contexts {F : Fns} : Kp M F m_with_contexts 6 spCxs := by
  intro xs h Q Z q0
  match xs, q0 with
  | [.tup [a, b, d, m], x], q =>
    simp [m_with_contexts, Ss.d, S.d, E.d, E.t, Es.d, Es.len, Tgs.len, startD, List.replicate_succ, fin, dDrop, sz4]
    exact q
end K
set_option maxHeartbeats 4000000
namespace K
open PySem DL DP CO
theorem sl24' : sizeLine = 16777216 := by decide +kernel
theorem cut_dropS {α : Type} {xs : List α} {k : Nat} : cutD xs (some ((k : Int) + 1)) none = xs.drop (k + 1) := by
  have := cutD_drop (xs := xs) (k := k + 1)
  rw [show ((k + 1 : Nat) : Int) = (k : Int) + 1 by push_cast; rfl] at this
  exact this
theorem cut_dropT {α : Type} {xs : List α} {k : Nat} : cutD xs (some ((k : Int) + 2)) none = xs.drop (k + 2) := by
  have := cutD_drop (xs := xs) (k := k + 2)
  rw [show ((k + 2 : Nat) : Int) = (k : Int) + 2 by push_cast; rfl] at this
  exact this
/-- other entries of a context -/
def spEns : FnD := fun xs h P _ => match xs with
  | [c, .int i, t] => ∃ (co : Co) (k : Nat) (es : List En), c = coD co ∧ i = ((k : Nat) : Int) ∧ k < co.cs.length ∧ co.cs.length ≤ 10 ∧ t = cxD es ∧ P (coD (setX co k es)) h
  | _ => False
theorem k_with_entries {F : Fns} (f1 : F.f 15 = spCxs) : Kp M F m_with_entries 4 spEns := by
  intro xs h Q Z q0
  match xs, q0 with
  | [c, .int i, t], ⟨co, k, es, hc, hi, hk, h10, ht, q⟩ =>
    subst hc hi ht
    simp [m_with_entries, Ss.d, S.d, E.d, E.t, Es.d, Es.len, startD, List.replicate_succ, fin, f1, spCxs, starD, dStarC, dSl, Oe.d, dNo, dPart, wSl, seqW, lstW, tupW, wIx, wBin, wInt, coD, cxD]
    rw [cutD_take, cut_dropS]
    refine ⟨by simp [sl24']; omega, ?_⟩
    have e : coD (setX co k es) = .tup [.int co.z, .tup (List.take k (List.map cxD co.cs) ++ .tup (List.map CO.enD es) :: List.drop (k + 1) (List.map cxD co.cs)), .str co.dv, .str co.mn] := by
      simp [coD, setX, cxD, List.map_take, List.map_drop]
    rw [e] at q
    exact q
/-- the entries of a context -/
def spOf : FnD := fun xs h P Z => match xs with
  | [c, i] => ∃ co, c = coD co ∧ co.cs.length ≤ 10 ∧ okA i = true ∧ (∀ k, idx co i = some k → P (cxD (cxA co k)) h) ∧ (idx co i = none → Z (xnU "context") h)
  | _ => False
theorem k_entries_of {F : Fns} (f1 : F.f 1 = tellsA isNum) (f2 : F.f 11 = spReq) : Kp M F m_entries_of 3 spOf := by
  intro xs h Q Z q0
  match xs, q0 with
  | [c, i], ⟨co, hc, h10, ho, q1, q2⟩ =>
    subst hc
    simp [m_entries_of, Ss.d, S.d, E.d, E.t, Es.d, Es.len, startD, List.replicate_succ, fin, dDrop, f1, f2, tellsA, spReq, ho, coD, wIx, seqW, lstW, tupW]
    cases hn : isNum i with
    | false =>
      have : idx co i = none := by
        unfold idx
        cases i <;> first | rfl | skip
        rename_i j
        simp [isNum] at hn
        show (if 0 ≤ j ∧ _ then _ else _) = _
        rw [if_neg (by omega)]
      simpa using q2 this
    | true =>
      cases i <;> first | (simp [isNum] at hn; done) | skip
      rename_i j
      simp [isNum] at hn
      obtain ⟨k, rfl⟩ := Int.eq_ofNat_of_zero_le hn
      simp [wB1, wLen, seqW, lstW, tupW, wCmp, wLt]
      by_cases hk : k < co.cs.length
      · have q := q1 k (idx_nat hk)
        have ea : L2.atI (co.cs.map cxD) (k : Int) = some (cxD (cxA co k)) := by
          rw [atI_n (by simpa using hk), List.getElem_map, cxA_get hk]
        simp [hk, ea]
        exact ⟨q, fun z => by omega⟩
      · have : idx co (.int k) = none := by
          show (if 0 ≤ (k : Int) ∧ (k : Int) < co.cs.length then _ else _) = _
          rw [if_neg (by omega)]
        simp [hk]
        exact fun _ => q2 this
def spHas : FnD := fun xs h P _ => match xs with
  | [t, x] => ∃ es m, t = cxD es ∧ cxOk m es ∧ okA x = true ∧ P (.bl (hasL es x)) h
  | _ => False
theorem k_has_letter {F : Fns} (f1 : F.f 5 = tellsA isLet) : Kp M F m_has_letter 3 spHas := by
  intro xs h Q Z q0
  match xs, q0 with
  | [t, x], ⟨es, m, ht, hm, ho, q⟩ =>
    subst ht
    simp [m_has_letter, Ss.d, S.d, E.d, E.t, Es.d, Es.len, Ic.d, Oe.t, startD, List.replicate_succ, fin, f1, tellsA, ho]
    unfold hasL at q
    cases hl : isLet x with
    | false => simpa [hl] using q
    | true =>
      cases x <;> first | (simp [isLet] at hl; done) | skip
      rename_i s
      rw [hl] at q
      simp [dLc, dItT, cxD]
      refine lc_map (fun x => .str (letD x)) _ [] (fun y hy Kp k => ?_) (by have := hm.few; simp [sl24']; omega) ?_
      · obtain ⟨e, he, rfl⟩ := List.mem_map.mp hy
        simp [Tg.put, wipeD, wIx, seqW, lstW, tupW, CO.enD]
        exact k
      · simp only [List.nil_append, List.map_map]
        refine ⟨es.map (·.l), ?_, ?_⟩
        · simp [lstW, seqW, Function.comp_def]
          exact fun _ _ => rfl
        · simpa [strOf] using q
end K
set_option maxHeartbeats 4000000
namespace K
open PySem DL DP CO
theorem lc_mp {α : Type} {ds : DSt} {vs : List Nat} {g : Tg} {te : TDE} {P : List D → Hs → Prop} {h : Hs} (d f : α → D) : ∀ (xs : List α) (acc : List D), (∀ x ∈ xs, ∀ Kp : D → Hs → Prop, Kp (f x) h → g.put (d x) (wipeD ds vs) fun ds2 => dD te ds2 h Kp noX) → acc.length + xs.length ≤ sizeLine → P (acc ++ xs.map f) h → lcD ds vs g dYes te P (xs.map d) acc h
  | [], acc, _, _, p => by rw [List.map_nil]; unfold lcD; simpa using p
  | x :: xs, acc, H, hl, p => by
    rw [List.map_cons]
    unfold lcD
    show g.put (d x) (wipeD ds vs) fun ds2 => if true = true then dD te ds2 h (fun y h3 => acc.length < sizeLine ∧ lcD ds vs g dYes te P (xs.map d) (acc ++ [y]) h3) noX else lcD ds vs g dYes te P (xs.map d) acc h
    simp only [if_true]
    refine H x (by simp) _ ⟨by simp at hl; omega, lc_mp d f xs (acc ++ [f x]) (fun y hy => H y (List.mem_cons_of_mem _ hy)) (by simp at hl ⊢; omega) (by simpa using p)⟩
theorem lets_strOf {x : D} (h : isLet x = true) : x = .str (strOf x) := by cases x <;> first | rfl | (simp [isLet] at h; done)
theorem cnt_intOf {x : D} (h : isCnt x = true) : x = .int (intOf x) ∧ 0 < intOf x := by cases x <;> first | (simp [isCnt] at h; done) | exact ⟨rfl, by simpa [isCnt, intOf] using h⟩
theorem hasL_let {es : List En} {x : D} (h : hasL es x = true) : isLet x = true := by unfold hasL at h; simp only [Bool.and_eq_true] at h; exact h.1
theorem cx_of {co : Co} (ok : co.ok) {i : D} {k : Nat} (h : idx co i = some k) : k < co.cs.length ∧ i = .int k ∧ cxOk co.cs.length (cxA co k) := by
  obtain ⟨a, b⟩ := idx_lt h
  exact ⟨a, b, ok.cx _ (cxA_mem a)⟩
def spCnt : FnD := fun xs h P Z => match xs with
  | [c, i, l, n] => ∃ co, c = coD co ∧ co.ok ∧ okA i = true ∧ okA l = true ∧ okA n = true ∧ outC (wCount co i l n) h P Z
  | _ => False
theorem k_with_count {F : Fns} (f1 : F.f 17 = spOf) (f2 : F.f 11 = spReq) (f3 : F.f 18 = spHas) (f4 : F.f 2 = tellsA isCnt) (f5 : F.f 16 = spEns) : Kp M F m_with_count 9 spCnt := by
  intro xs h Q Z q0
  match xs, q0 with
  | [c, i, l, n], ⟨co, hc, ok, hi, hl, hn, q⟩ =>
    subst hc
    simp [m_with_count, Ss.d, S.d, E.d, E.t, Es.d, Es.len, Ic.d, Oe.t, startD, List.replicate_succ, fin, dDrop, f1, f2, f3, f4, f5]
    unfold wCount at q
    refine ⟨co, rfl, ok.c1, hi, fun k hk => ?_, fun hk => ?_⟩
    · rw [hk] at q
      obtain ⟨k1, rfl, kx⟩ := cx_of ok hk
      refine ⟨cxA co k, _, rfl, kx, hl, ?_⟩
      cases hh : hasL (cxA co k) l with
      | false =>
        simp only [hh, Bool.false_eq_true, if_false] at q
        exact ⟨fun z => (by simp at z), fun _ => q⟩
      | true =>
        refine ⟨fun _ => ?_, fun z => (by simp at z)⟩
        simp only [hh, if_true] at q
        refine ⟨hn, ?_⟩
        cases hc : isCnt n with
        | false =>
          simp only [hc, Bool.false_eq_true, if_false] at q
          exact ⟨fun z => (by simp at z), fun _ => q⟩
        | true =>
          refine ⟨fun _ => ?_, fun z => (by simp at z)⟩
          simp only [hc, if_true] at q
          have e1 := lets_strOf (hasL_let hh)
          obtain ⟨e2, n0⟩ := cnt_intOf hc
          generalize strOf l = s at q e1
          generalize intOf n = m at q e2 n0
          subst e1 e2
          simp [dLc, dItT]
          refine ⟨_, rfl, lc_mp CO.enD (fun e => CO.enD (cntE s m e)) _ [] (fun e he Kp kp => ?_) (by have := kx.few; simp [sl24']; omega) ?_⟩
          · simp [CO.enD, cntE] at kp
            simp [CO.enD, wipeD, wCmp, wEq, sz3, dIf]
            by_cases h2 : e.l = s
            · simp [h2] at kp ⊢
              exact ⟨rfl, kp⟩
            · simp [h2] at kp ⊢
              exact ⟨rfl, kp⟩
          · simp [wB1, wTuple, seqW, lstW, tupW]
            refine ⟨co, k, (cxA co k).map (cntE s m), rfl, rfl, k1, ok.c1, ?_, q⟩
            simp [cxD]
    · rw [hk] at q
      exact q
end K
set_option maxHeartbeats 4000000
namespace K
open PySem DL DP CO
def spFits : FnD := fun xs h P _ => match xs with
  | [c, t, x] => ∃ co es m, c = coD co ∧ t = cxD es ∧ cxOk m es ∧ okA x = true ∧ P (.bl (fits co es x)) h
  | _ => False
theorem k_fits_in {F : Fns} (f1 : F.f 6 = tellsA isEnt) (f2 : F.f 18 = spHas) : Kp M F m_fits_in 3 spFits := by
  intro xs h Q Z q0
  match xs, q0 with
  | [c, t, x], ⟨co, es, m, hc, ht, hm, ho, q⟩ =>
    subst hc ht
    simp [m_fits_in, Ss.d, S.d, E.d, E.t, Es.d, Es.len, startD, fin, f1, f2, tellsA]
    refine ⟨ho, ?_⟩
    cases he : isEnt x with
    | false =>
      have e : fits co es x = false := by
        unfold fits
        split
        · rw [he]; rfl
        · rfl
      rw [e] at q
      simpa using q
    | true =>
      obtain ⟨s, n, z, rfl, hs, hn, hz⟩ := isEnt_inv he
      have h0 : okA (.str s) = true := (okA_tup ho).2 (.str s) (by simp)
      rcases hz with rfl | ⟨j, rfl⟩
      · have e : fits co es (.tup [.str s, .int n, .non]) = !hasL es (.str s) := by simp [fits, he]
        rw [e] at q
        simp [wIx, seqW, lstW, tupW]
        refine ⟨es, m, rfl, hm, h0, ?_⟩
        cases hh : hasL es (.str s) with
        | true => rw [hh] at q; simpa using q
        | false => rw [hh] at q; simpa using q
      · have e : fits co es (.tup [.str s, .int n, .int j]) = (!hasL es (.str s) && decide ((j : Int) < co.cs.length)) := by simp [fits, he, intOf]
        rw [e] at q
        simp [wIx, seqW, lstW, tupW]
        refine ⟨es, m, rfl, hm, h0, ?_⟩
        cases hh : hasL es (.str s) with
        | true => rw [hh] at q; simpa using q
        | false =>
          rw [hh] at q
          simpa [coD, wB1, wLen, seqW, lstW, tupW, wCmp, wLt] using q
def spEnt : FnD := fun xs h P Z => match xs with
  | [c, i, x, a] => ∃ co, c = coD co ∧ co.ok ∧ okA i = true ∧ okA x = true ∧ okA a = true ∧ outC (wEntry co i x a) h P Z
  | _ => False
theorem fits_en {co : Co} {es : List En} {x : D} (h : fits co es x = true) : x = CO.enD (enOf x) := by
  unfold fits at h
  split at h
  · simp only [Bool.and_eq_true] at h
    obtain ⟨s, n, z, e, hs, hn, hz⟩ := isEnt_inv h.1
    simp only [D.tup.injEq, List.cons.injEq, and_true] at e
    obtain ⟨rfl, rfl, rfl⟩ := e
    rcases hz with rfl | ⟨j, rfl⟩
    · rfl
    · simp [CO.enD, enOf, strOf, intOf, natOf, nxD]
  · cases h
theorem entry_tail {F : Fns} {co : Co} {k j : Nat} {e : En} {w3 : Option W} {h : Hs} {Q : D → Hs → Prop} {Zf Zg : XD} (ok : co.ok) (k1 : k < co.cs.length) (kx : cxOk co.cs.length (cxA co k)) (q : Q (coD (setX co k ((cxA co k).take j ++ e :: (cxA co k).drop j))) h) :
    starD F [(true, (E.var 4).sl Oe.no (Oe.some (E.var 5))), (false, E.var 2), (true, (E.var 4).sl (Oe.some (E.var 5)) Oe.no)]
      [some (W.d (coD co)), some (W.d (D.int k)), some (W.d (CO.enD e)), w3, some (W.d (cxD (cxA co k))), some (W.d (D.int (j : Int)))] h
      (fun xs h1 => xs.length ≤ sizeLine ∧ spEns [coD co, D.int k, D.tup xs] h1 (fun d h' => Q d h') Zf) Zg := by
  simp [starD, dStarC, E.d, dSl, Oe.d, dNo, dPart, wSl, seqW, lstW, tupW, cxD]
  rw [cutD_take, cutD_drop]
  have := kx.few
  refine ⟨by simp [sl24']; omega, co, k, _, rfl, rfl, k1, ok.c1, ?_, q⟩
  simp [cxD, List.map_take, List.map_drop]
theorem k_with_entry {F : Fns} (f1 : F.f 17 = spOf) (f2 : F.f 11 = spReq) (f3 : F.f 20 = spFits) (f4 : F.f 1 = tellsA isNum) (f5 : F.f 16 = spEns) : Kp M F m_with_entry 6 spEnt := by
  intro xs h Q Z q0
  match xs, q0 with
  | [c, i, x, a], ⟨co, hc, ok, hi, hx, ha, q⟩ =>
    subst hc
    simp [m_with_entry, Ss.d, S.d, E.d, E.t, Es.d, Es.len, startD, List.replicate_succ, fin, dDrop, f1, f2, f3, f4, f5]
    unfold wEntry at q
    refine ⟨co, rfl, ok.c1, hi, fun k hk => ?_, fun hk => by rw [hk] at q; exact q⟩
    rw [hk] at q
    obtain ⟨k1, rfl, kx⟩ := cx_of ok hk
    refine ⟨co, cxA co k, _, rfl, rfl, kx, hx, ?_⟩
    cases hf : fits co (cxA co k) x with
    | false =>
      simp only [hf, Bool.false_eq_true, if_false] at q
      exact ⟨fun z => (by simp at z), fun _ => q⟩
    | true =>
      refine ⟨fun _ => ?_, fun z => (by simp at z)⟩
      simp only [hf, if_true] at q
      have ex := fits_en hf
      generalize enOf x = e at ex q
      subst ex
      have len : wB1 B1.len (W.d (cxD (cxA co k))) = fun Kp => Kp (W.d (.int ((cxA co k).length : Nat))) := by
        funext Kp
        simp [cxD, wB1, wLen, seqW, lstW, tupW]
      have bad : spot (cxA co k) a = none → Z (xnU "at") h := fun z => by rw [z] at q; exact q
      have good : ∀ j, spot (cxA co k) a = some j → Q (coD (setX co k ((cxA co k).take j ++ e :: (cxA co k).drop j))) h := fun j z => by rw [z] at q; exact q
      cases a with
      | non =>
        simp [len]
        refine ⟨fun _ => ?_, fun z => (by simp at z)⟩
        exact entry_tail ok k1 kx (good _ rfl)
      | int i =>
        simp [len]
        refine ⟨ha, ?_⟩
        by_cases h0 : 0 ≤ i
        · obtain ⟨j, rfl⟩ := Int.eq_ofNat_of_zero_le h0
          simp [isNum, wCmp, wLt]
          refine ⟨fun hj => ?_, fun hj => bad ?_⟩
          · exact entry_tail ok k1 kx (good j (by
              show (if 0 ≤ (j : Int) ∧ (j : Int) ≤ (cxA co k).length then some (j : Int).toNat else none) = some j
              rw [if_pos ⟨by omega, by simpa using hj⟩]; rfl))
          · show (if 0 ≤ (j : Int) ∧ (j : Int) ≤ (cxA co k).length then some (j : Int).toNat else none) = none
            rw [if_neg (by simp at hj; omega)]
        · have e0 : isNum (.int i) = false := by simpa [isNum] using h0
          rw [e0]
          refine .inl ⟨rfl, fun z => (by simp at z), fun _ => bad ?_⟩
          show (if 0 ≤ i ∧ i ≤ (cxA co k).length then some i.toNat else none) = none
          rw [if_neg (by omega)]
      | _ =>
        simp [len]
        refine ⟨ha, ?_⟩
        first
          | exact .inl ⟨rfl, fun z => (by simp [isNum] at z), fun _ => bad rfl⟩
          | (simp [isNum]; exact ⟨fun z => (by simp at z), fun _ => bad rfl⟩)
end K
set_option maxHeartbeats 4000000
set_option exponentiation.threshold 2000
namespace K
open PySem DL DP CO
def spWo : FnD := fun xs h P Z => match xs with
  | [c, i, l] => ∃ co, c = coD co ∧ co.ok ∧ okA i = true ∧ okA l = true ∧ outC (woEntry co i l) h P Z
  | _ => False
theorem k_without_entry {F : Fns} (f1 : F.f 17 = spOf) (f2 : F.f 11 = spReq) (f3 : F.f 18 = spHas) (f5 : F.f 16 = spEns) : Kp M F m_without_entry 5 spWo := by
  intro xs h Q Z q0
  match xs, q0 with
  | [c, i, l], ⟨co, hc, ok, hi, hl, q⟩ =>
    subst hc
    simp [m_without_entry, Ss.d, S.d, E.d, E.t, Es.d, Es.len, Ic.d, Oe.t, startD, List.replicate_succ, fin, dDrop, f1, f2, f3, f5]
    unfold woEntry at q
    refine ⟨co, rfl, ok.c1, hi, fun k hk => ?_, fun hk => by rw [hk] at q; exact q⟩
    rw [hk] at q
    obtain ⟨k1, rfl, kx⟩ := cx_of ok hk
    refine ⟨cxA co k, _, rfl, kx, hl, ?_⟩
    have len : wB1 B1.len (W.d (cxD (cxA co k))) = fun Kp => Kp (W.d (.int ((cxA co k).length : Nat))) := by
      funext Kp
      simp [cxD, wB1, wLen, seqW, lstW, tupW]
    cases hh : hasL (cxA co k) l with
    | false =>
      have q : Z (xnU "letter") h := by simpa [hh, outC] using q
      simp [spReq, q]
    | true =>
      simp [len, wCmp, wLt, spReq]
      by_cases h2 : 2 < (cxA co k).length
      · have q9 : Q (coD (setX co k ((cxA co k).filter fun e => !decide (e.l = strOf l)))) h := by simpa [hh, h2, outC] using q
        clear q
        refine ⟨fun _ => ?_, fun z => (by omega)⟩
        have e1 := lets_strOf (hasL_let hh)
        generalize strOf l = s at q9 e1
        subst e1
        simp [dLc, dItT]
        refine ⟨_, rfl, lc_fil (fun x => !decide (letD x = s)) (fun x => x) _ [] (fun y hy Kt Kf k1 k2 => ?_) (by have := kx.few; simp [sl24']; omega) ?_⟩
        · obtain ⟨e, he, rfl⟩ := List.mem_map.mp hy
          have el : letD (CO.enD e) = e.l := rfl
          simp only [el] at k1 k2
          simp [CO.enD, Tg.put, wipeD, wIx, seqW, lstW, tupW, wCmp, wEq]
          by_cases h3 : e.l = s
          · exact .inl ⟨h3, k2 (by simpa using h3)⟩
          · exact .inr ⟨h3, k1 (by simpa using h3)⟩
        · simp [wB1, wTuple, seqW, lstW, tupW]
          refine ⟨co, k, _, rfl, rfl, k1, ok.c1, ?_, q9⟩
          simp [cxD, List.filter_map, Function.comp_def]
          rfl
      · have q : Z (xnU "letter") h := by simpa [hh, h2, outC] using q
        exact ⟨fun z => (by omega), fun _ => q⟩
def spSwap : FnD := fun xs h P Z => match xs with
  | [c, i, a] => ∃ co, c = coD co ∧ co.ok ∧ okA i = true ∧ okA a = true ∧ outC (wSwap co i a) h P Z
  | _ => False
theorem swap_eq {es : List En} {j : Nat} (h : j + 1 < es.length) : swapE es j = es.take j ++ es[j + 1] :: es[j] :: es.drop (j + 2) := by
  unfold swapE
  rw [List.getElem?_eq_getElem (by omega : j < es.length), List.getElem?_eq_getElem h]
theorem k_exchanged {F : Fns} (f1 : F.f 17 = spOf) (f2 : F.f 11 = spReq) (f4 : F.f 1 = tellsA isNum) (f5 : F.f 16 = spEns) : Kp M F m_exchanged 4 spSwap := by
  intro xs h Q Z q0
  match xs, q0 with
  | [c, i, a], ⟨co, hc, ok, hi, ha, q⟩ =>
    subst hc
    simp [m_exchanged, Ss.d, S.d, E.d, E.t, Es.d, Es.len, Ic.d, Oe.t, startD, List.replicate_succ, fin, dDrop, f1, f2, f4, f5]
    unfold wSwap at q
    refine ⟨co, rfl, ok.c1, hi, fun k hk => ?_, fun hk => by rw [hk] at q; exact q⟩
    rw [hk] at q
    obtain ⟨k1, rfl, kx⟩ := cx_of ok hk
    refine ⟨ha, ?_⟩
    have len : wB1 B1.len (W.d (cxD (cxA co k))) = fun Kp => Kp (W.d (.int ((cxA co k).length : Nat))) := by
      funext Kp
      simp [cxD, wB1, wLen, seqW, lstW, tupW]
    cases hn : isNum a with
    | false =>
      have q : Z (xnU "at") h := by simpa [hn, outC] using q
      simp [spReq, q]
    | true =>
      cases a <;> first | (simp [isNum] at hn; done) | skip
      rename_i j
      simp [isNum] at hn
      obtain ⟨j, rfl⟩ := Int.eq_ofNat_of_zero_le hn
      simp [len, wCmp, wLt, spReq, wBin, wInt]
      by_cases h2 : j + 1 < (cxA co k).length
      · have q : Q (coD (setX co k (swapE (cxA co k) j))) h := by
          have : (j : Int) + 1 < (cxA co k).length := by omega
          simpa [isNum, intOf, outC, this] using q
        refine ⟨fun _ => ?_, fun z => (by omega)⟩
        rw [swap_eq h2] at q
        have ea : L2.atI ((cxA co k).map CO.enD) ((j : Int) + 1) = some (CO.enD (cxA co k)[j + 1]) := by
          have := atI_n (xs := (cxA co k).map CO.enD) (k := j + 1) (by simpa using h2)
          rw [show ((j + 1 : Nat) : Int) = (j : Int) + 1 by push_cast; rfl] at this
          rw [this, List.getElem_map]
        have eb : L2.atI ((cxA co k).map CO.enD) (j : Int) = some (CO.enD (cxA co k)[j]) := by
          rw [atI_n (by simp; omega), List.getElem_map]
        simp [starD, dStarC, E.d, dSl, Oe.d, dNo, dPart, wSl, seqW, lstW, tupW, cxD, wIx, ea, eb, wBin, wInt]
        rw [cutD_take, cut_dropT]
        have := kx.few
        refine ⟨by simp [sl24']; omega, co, k, _, rfl, rfl, k1, ok.c1, ?_, q⟩
        simp [cxD, List.map_take, List.map_drop]
      · have q : Z (xnU "at") h := by
          have : ¬ (j : Int) + 1 < (cxA co k).length := by omega
          simpa [isNum, intOf, outC, this] using q
        exact ⟨fun z => (by omega), fun _ => q⟩
end K
set_option maxHeartbeats 4000000
set_option exponentiation.threshold 2000
namespace K
open PySem DL DP CO
def spScale : FnD := fun xs h P Z => match xs with
  | [c, x] => ∃ co, c = coD co ∧ co.ok ∧ co.cb 1000 ∧ okA x = true ∧ intOf x < 2 ^ 1000 ∧ outC (wScale co x) h P Z
  | _ => False
theorem mul_ok {a b : Int} (a0 : 0 < a) (b0 : 0 < b) (a1 : a < 2 ^ 1000) (b1 : b < 2 ^ 1000) : CMulA a b := by
  obtain ⟨m, rfl⟩ := Int.eq_ofNat_of_zero_le (Int.le_of_lt a0)
  obtain ⟨n, rfl⟩ := Int.eq_ofNat_of_zero_le (Int.le_of_lt b0)
  exact cmulB (p := 1000) (q := 1000) (by exact_mod_cast a1) (by exact_mod_cast b1) (by decide) (by decide) (by decide)
theorem k_scaled {F : Fns} (f2 : F.f 11 = spReq) (f4 : F.f 2 = tellsA isCnt) (f5 : F.f 15 = spCxs) : Kp M F m_scaled 7 spScale := by
  intro xs h Q Z q0
  match xs, q0 with
  | [c, x], ⟨co, hc, ok, cb, hx, hb, q⟩ =>
    subst hc
    unfold wScale at q
    simp [m_scaled, Ss.d, S.d, E.d, E.t, Es.d, Es.len, Ic.d, Oe.t, startD, List.replicate_succ, fin, dDrop, f2, f4, f5]
    refine ⟨hx, ?_⟩
    cases hn : isCnt x with
    | false =>
      have q : Z (xnU "times") h := by simpa [hn, outC] using q
      simp [spReq, q]
    | true =>
      obtain ⟨e1, x0⟩ := cnt_intOf hn
      have q9 : Q (coD { co with cs := co.cs.map fun es => es.map (mulE (intOf x)) }) h := by simpa [hn, outC] using q
      clear q
      generalize intOf x = t at q9 e1 x0 hb
      subst e1
      refine ⟨fun _ => ?_, fun z => (by simp at z)⟩
      simp [stW, dItT, wIx, seqW, lstW, tupW]
      have e2 : L2.atI [D.int co.z, D.tup (List.map cxD co.cs), D.str co.dv, D.str co.mn] 1 = some (D.tup (List.map cxD co.cs)) := rfl
      simp only [coD]
      refine ⟨_, .inr ⟨trivial, rfl⟩, _, rfl, _, rfl, for_inv (fun i ds h' => h' = h ∧ ∃ w3, ds = [some (W.d (coD co)), some (W.d (D.int t)), some (.own ((co.cs.take i).map fun es => cxD (es.map (mulE t)))), w3, none, none, none]) _ (fun i y ds h' En hy hI e1 e2 e3 hn hc => ?_) ⟨rfl, _, rfl⟩ fun ds h' hI => ?_⟩
      · obtain ⟨rfl, w3, rfl⟩ := hI
        have hi : i < co.cs.length := by have := (List.getElem?_eq_some_iff.mp hy).1; simpa using this
        have hy : y = cxD co.cs[i] := by
          have := (List.getElem?_eq_some_iff.mp hy).2
          rw [← this]; simp
        subst hy
        have kx := ok.cx _ (List.getElem_mem hi)
        have hcb := cb _ (List.getElem_mem hi)
        have ht : (co.cs.take (i + 1)).map (fun es => cxD (es.map (mulE t))) = (co.cs.take i).map (fun es => cxD (es.map (mulE t))) ++ [cxD (co.cs[i].map (mulE t))] := by
          rw [List.take_add_one, List.getElem?_eq_getElem hi, List.map_append]; rfl
        generalize co.cs[i] = es at kx hcb ht
        simp [dApp, dLc, dItT]
        refine ⟨by have := ok.c1; simp [sl24']; omega, _, rfl, lc_mp CO.enD (fun e => CO.enD (mulE t e)) _ [] (fun e he Kp kp => ?_) (by have := kx.few; simp [sl24']; omega) ?_⟩
        · have cm := mul_ok (kx.en e he).2.1 x0 (hcb e he) hb
          simp [CO.enD, mulE] at kp
          simp [CO.enD, wipeD, wBin, wInt, cm, sz3]
          exact ⟨rfl, kp⟩
        · simp [wB1, wTuple, seqW, lstW, tupW]
          have := hn [some (W.d (coD co)), some (W.d (D.int t)), some (.own ((co.cs.take (i + 1)).map fun es => cxD (es.map (mulE t)))), some (W.d (cxD es)), none, none, none] h' ⟨rfl, _, rfl⟩
          rw [ht] at this
          simpa [cxD, Function.comp_def] using this
      · obtain ⟨rfl, w3, rfl⟩ := hI
        simp [wB1, wTuple, seqW, lstW, tupW]
        simp only [coD]
        show Q _ h'
        simpa [coD, Function.comp_def] using q9
end K
set_option maxHeartbeats 4000000
namespace K
open PySem DL DP CO
theorem tn2 {x : D} (h : isTn x 2 = true) : ∃ a b, x = .tup [a, b] := by
  cases x <;> first | (simp [isTn] at h; done) | skip
  rename_i l
  simp only [isTn, decide_eq_true_eq] at h
  match l, h with
  | [a, b], _ => exact ⟨a, b, rfl⟩
  | [], h => simp at h
  | [_], h => simp at h
  | _ :: _ :: _ :: l, h => simp at h; omega
theorem isPr_tn {x : D} (h : isPr x = true) : isTn x 2 = true := by
  unfold isPr at h
  split at h
  · rfl
  · cases h
theorem isPr_inv {x : D} (h : isPr x = true) : ∃ s u, x = .tup [.str s, .str u] ∧ isL s = true ∧ isL u = true := by
  unfold isPr at h
  split at h
  · rename_i a b
    simp only [Bool.and_eq_true] at h
    have e1 := lets_strOf h.1
    have e2 := lets_strOf h.2
    have l1 := h.1
    have l2 := h.2
    generalize strOf a = s at e1
    generalize strOf b = u at e2
    subst e1 e2
    exact ⟨s, u, rfl, l1, l2⟩
  · cases h
theorem k_are_pairs {F : Fns} (f1 : F.f 3 = spTn) (f2 : F.f 5 = tellsA isLet) : Kp M F m_are_pairs 4 (tellsA arePr) := by
  intro xs h Q Z q0
  match xs, q0 with
  | [x], ⟨ho, q⟩ =>
    have hx := okA_good ho
    simp [m_are_pairs, Ss.d, S.d, E.d, E.t, Es.d, Es.len, Ic.d, Oe.t, startD, List.replicate_succ, f1, f2, w_tuple hx, fin]
    cases x <;> first | (simp_all [isT, arePr]; done) | skip
    rename_i ps
    obtain ⟨hl, hm⟩ := okA_tup ho
    have lz : ps.length ≤ sizeLine := by simp [sl24']; omega
    simp [isT, arePr]
    have neg : (ps.all isPr && decide ((ps.map fun p => (prOf p).1).Nodup)) = false → Q (.bl false) h := fun z => by
      have e : arePr (.tup ps) = false := z
      rw [e] at q; exact q
    unfold dLc dItT
    simp
    refine lc_map (fun x => .bl (isTn x 2)) _ [] (fun y hy Kp k => ?_) (by simpa using lz) ?_
    · simp [Tg.put, wipeD]
      exact ⟨hm y hy, k⟩
    · simp [wB1, wAll, lstW]
      refine ⟨ps.map fun x => isTn x 2, by simp, ?_⟩
      cases h2 : ps.all fun x => isTn x 2 with
      | false =>
        obtain ⟨y, hy, hf⟩ := List.all_eq_false.mp h2
        refine .inl ⟨List.mem_map.mpr ⟨y, hy, by simpa using hf⟩, neg ?_⟩
        have : ps.all isPr = false := List.all_eq_false.mpr ⟨y, hy, fun z => hf (isPr_tn z)⟩
        rw [this, Bool.false_and]
      | true =>
        have h2' := List.all_eq_true.mp h2
        refine .inr ⟨fun z => ?_, ?_⟩
        · obtain ⟨y, hy, hf⟩ := List.mem_map.mp z
          rw [h2' y hy] at hf; cases hf
        · refine lc_map (fun x => .bl (isPr x)) _ [] (fun y hy Kp k => ?_) (by simpa using lz) ?_
          · obtain ⟨a, b, rfl⟩ := tn2 (h2' y hy)
            have oy := (okA_tup (hm _ hy)).2
            simp [isPr] at k
            simp [wipeD]
            refine ⟨rfl, oy a (by simp), ?_⟩
            cases ha : isLet a with
            | false => simpa [ha] using k
            | true =>
              simp [ha] at k
              simp
              exact ⟨oy b (by simp), k⟩
          · refine ⟨ps.map isPr, by simp, ?_⟩
            cases h3 : ps.all isPr with
            | false =>
              obtain ⟨y, hy, hf⟩ := List.all_eq_false.mp h3
              refine .inl ⟨List.mem_map.mpr ⟨y, hy, by simpa using hf⟩, neg ?_⟩
              rw [h3, Bool.false_and]
            | true =>
              have h3' := List.all_eq_true.mp h3
              refine .inr ⟨fun z => ?_, ?_⟩
              · obtain ⟨y, hy, hf⟩ := List.mem_map.mp z
                rw [h3' y hy] at hf; cases hf
              · refine lc_map (fun x => .str (prOf x).1) _ [] (fun y hy Kp k => ?_) (by simpa using lz) ?_
                · obtain ⟨s, u, rfl, _⟩ := isPr_inv (h3' y hy)
                  simp [Tg.put, wipeD, wIx, seqW, lstW, tupW]
                  exact k
                · simp only [List.nil_append]
                  refine ⟨(ps.map fun p => (prOf p).1).map Sum.inr, ?_, by simp; omega, ?_⟩
                  · rw [kD_strs, List.map_map]; rfl
                  · have e3 := dd_eq ((ps.map fun p => (prOf p).1).map Sum.inr)
                    rw [List.length_map, List.length_map, show decide (((ps.map fun p => (prOf p).1).map (Sum.inr : Str → L2.Key)).Nodup) = decide (ps.map fun p => (prOf p).1).Nodup from decide_eq_decide.mpr nodup_inr] at e3
                    have e : arePr (.tup ps) = decide (ps.map fun p => (prOf p).1).Nodup := by show (ps.all isPr && _) = _; rw [h3, Bool.true_and]
                    rw [e, ← e3] at q
                    simpa [wLen, seqW, lstW, tupW, wCmp, wEq] using q
end K
set_option maxHeartbeats 4000000
namespace K
open PySem DL DP CO
/-- the names as a dict -/
def nmD (t : List (Str × Str)) : List (L2.Key × D) := t.map fun p => (Sum.inr p.1, D.str p.2)
theorem nm_val (s : Str) : ∀ (t : List (Str × Str)), (valD (nmD t) (.inr s)).getD (.str s) = .str (ren t s)
  | [] => rfl
  | p :: t => by
    have ih := nm_val s t
    unfold valD nmD ren at ih ⊢
    rw [List.map_cons, List.find?_cons, List.find?_cons]
    by_cases h : p.1 = s
    · subst h; simp
    · have h1 : (decide ((Sum.inr p.1 : L2.Key) = Sum.inr s)) = false := decide_eq_false (fun e => h (Sum.inr.inj e))
      have h2 : (decide (p.1 = s)) = false := decide_eq_false h
      simp only [h1, h2]
      exact ih
theorem put_new {acc : List (L2.Key × D)} {k : L2.Key} {d : D} (h : k ∉ acc.map (·.1)) : putD acc k d = acc ++ [(k, d)] := by
  unfold putD
  rw [if_neg]
  intro z
  obtain ⟨p, hp, e⟩ := List.any_eq_true.mp z
  exact h (List.mem_map.mpr ⟨p, hp, of_decide_eq_true e⟩)
theorem dk_mp {ds : DSt} {vs : List Nat} {g : Tg} {tk tv : TDE} {P : List (L2.Key × D) → Hs → Prop} {h : Hs} : ∀ (ps : List (Str × Str)) (xs : List D) (acc : List (Str × Str)), xs.map prOf = ps → (∀ x ∈ xs, ∀ Kp : DSt → Prop, (∀ ds2, (∀ P Z, P (.d (.str (prOf x).1)) h → tk ds2 h P Z) → (∀ P Z, P (.d (.str (prOf x).2)) h → tv ds2 h P Z) → Kp ds2) → g.put x (wipeD ds vs) Kp) →
    ((acc ++ ps).map (·.1)).Nodup → acc.length + ps.length < sizeLine → P (nmD (acc ++ ps)) h → dkD ds vs g dYes tk tv P xs (nmD acc) h
  | ps, [], acc, e, _, _, _, p => by
    subst e
    unfold dkD
    simpa using p
  | ps, x :: xs, acc, e, H, nd, hl, p => by
    subst e
    unfold dkD
    refine H x (by simp) _ fun ds2 h1 h2 => ?_
    simp only [dYes, if_true]
    refine h1 _ _ (h2 _ _ ⟨_, rfl, .inr (prOf x).1, rfl, by simp [nmD]; simp at hl; omega, ?_⟩)
    have nin : (Sum.inr (prOf x).1 : L2.Key) ∉ (nmD acc).map (·.1) := fun z => by
      obtain ⟨p, hp, e⟩ := List.mem_map.mp z
      obtain ⟨r, hr, rfl⟩ := List.mem_map.mp hp
      have e := Sum.inr.inj e
      rw [List.map_append, List.nodup_append] at nd
      exact nd.2.2 r.1 (List.mem_map.mpr ⟨r, hr, rfl⟩) (prOf x).1 (by simp) e
    rw [put_new nin]
    have ea : nmD acc ++ [(Sum.inr (prOf x).1, D.str (prOf x).2)] = nmD (acc ++ [prOf x]) := by simp [nmD]
    rw [ea]
    refine dk_mp (xs.map prOf) xs (acc ++ [prOf x]) rfl (fun y hy => H y (List.mem_cons_of_mem _ hy)) (by simpa using nd) (by simp at hl ⊢; omega) (by simpa using p)
end K
set_option maxHeartbeats 4000000
namespace K
open PySem DL DP CO
theorem arePr_inv {x : D} (h : arePr x = true) : ∃ ps, x = .tup ps ∧ (∀ p ∈ ps, isPr p = true) ∧ (ps.map fun p => (prOf p).1).Nodup := by
  cases x <;> first | (simp [arePr] at h; done) | skip
  rename_i ps
  simp only [arePr, Bool.and_eq_true, List.all_eq_true, decide_eq_true_eq] at h
  exact ⟨ps, rfl, h.1, h.2⟩
theorem ren_isL {t : List (Str × Str)} {s : Str} (ht : ∀ p ∈ t, isL p.2 = true) (h : isL s = true) : isL (ren t s) = true := by
  unfold ren
  cases e : t.find? fun p => decide (p.1 = s) with
  | none => exact h
  | some p => exact ht p (List.mem_of_find?_eq_some e)
theorem renE_ok {t : List (Str × Str)} {m : Nat} {e : En} (ht : ∀ p ∈ t, isL p.2 = true) (h : enOk m e) : enOk m (renE t e) := ⟨ren_isL ht h.1, h.2.1, h.2.2⟩
theorem okA_cxe {m : Nat} {es : List En} (hl : es.length ≤ 1000) (h : ∀ e ∈ es, enOk m e) : okA (cxD es) = true := by
  simp only [cxD, okA, Bool.and_eq_true, decide_eq_true_eq, List.length_map]
  refine ⟨hl, okAs_iff.mpr fun x hx => ?_⟩
  obtain ⟨e, he, rfl⟩ := List.mem_map.mp hx
  exact okA_en (h e he).1
def spRen : FnD := fun xs h P Z => match xs with
  | [c, x] => ∃ co, c = coD co ∧ co.ok ∧ okA x = true ∧ ∀ R, outC (wRen co x) (h ++ R) P Z
  | _ => False
theorem k_renamed {F : Fns} (f1 : F.f 24 = tellsA arePr) (f2 : F.f 11 = spReq) (f3 : F.f 7 = tellsA isCtx) (f5 : F.f 15 = spCxs) : Kp M F m_renamed 10 spRen := by
  intro xs h Q Z q0
  match xs, q0 with
  | [c, x], ⟨co, hc, ok, hx, q⟩ =>
    subst hc
    unfold wRen at q
    simp [m_renamed, Ss.d, S.d, E.d, E.t, Es.d, Es.len, Ic.d, Oe.t, startD, List.replicate_succ, fin, dDrop, f1, f2, f3, f5]
    refine ⟨hx, ?_⟩
    cases hn : arePr x with
    | false =>
      have q : Z (xnU "letters") h := by have := q []; simpa [hn, outC] using this
      simp [spReq, q]
    | true =>
      obtain ⟨ps, rfl, hp, nd⟩ := arePr_inv hn
      have q9 : ∀ R, outC (if ∀ es ∈ co.cs, ((es.map (renE (ps.map prOf))).map (·.l)).Nodup then .inl { co with cs := co.cs.map fun es => es.map (renE (ps.map prOf)) } else .inr "letters") (h ++ R) Q Z := fun R => by
        have := q R
        rw [hn, if_pos rfl] at this
        exact this
      clear q
      have hl := (okA_tup hx).1
      refine ⟨fun _ => ?_, fun z => (by simp at z)⟩
      have tl : ∀ p ∈ ps.map prOf, isL p.2 = true := fun p hpm => by
        obtain ⟨y, hy, rfl⟩ := List.mem_map.mp hpm
        obtain ⟨s, u, rfl, _, hu⟩ := isPr_inv (hp y hy)
        exact hu
      simp [dDk, dItT]
      refine dk_mp (ps.map prOf) ps [] rfl (fun y hy Kp kp => ?_) (by simpa [List.map_map, Function.comp_def] using nd) (by simp [sl24']; omega) ?_
      · obtain ⟨s, u, rfl, _, _⟩ := isPr_inv (hp y hy)
        simp [wipeD]
        refine ⟨rfl, kp _ (fun P Z p => ?_) fun P Z p => ?_⟩
        · simp [E.d]; exact p
        · simp [E.d]; exact p
      · generalize ps.map prOf = t at q9 tl
        simp only [List.nil_append]
        have hr : (h ++ [O.dic (nmD t)])[h.length]? = some (O.dic (nmD t)) := by simp
        have q9 := q9 [.dic (nmD t)]
        generalize hH : h ++ [O.dic (nmD t)] = H at q9 hr ⊢
        refine ⟨[.int co.z, .tup (co.cs.map cxD), .str co.dv, .str co.mn], .tup (co.cs.map cxD), rfl, rfl, _, rfl, _, rfl, ?_⟩
        refine for_inv (fun i ds h' => h' = H ∧ ∃ w4, ds = [some (W.d (coD co)), some (W.d (D.tup ps)), some (W.d (D.ref h.length)), some (.own ((co.cs.take i).map fun es => cxD (es.map (renE t)))), w4, none, none, none, none, none]) _ (fun i y ds h' En hy hI e1 e2 e3 hn hc => ?_) ⟨rfl, _, rfl⟩ fun ds h' hI => ?_
        · obtain ⟨rfl, w4, rfl⟩ := hI
          have hi : i < co.cs.length := by have := (List.getElem?_eq_some_iff.mp hy).1; simpa using this
          have hy : y = cxD co.cs[i] := by
            have := (List.getElem?_eq_some_iff.mp hy).2
            rw [← this]; simp
          subst hy
          have kx := ok.cx _ (List.getElem_mem hi)
          have ht : (co.cs.take (i + 1)).map (fun es => cxD (es.map (renE t))) = (co.cs.take i).map (fun es => cxD (es.map (renE t))) ++ [cxD (co.cs[i].map (renE t))] := by
            rw [List.take_add_one, List.getElem?_eq_getElem hi, List.map_append]; rfl
          generalize co.cs[i] = es at kx ht
          simp [dApp, dLc, dItT]
          refine ⟨by have := ok.c1; simp [sl24']; omega, _, rfl, lc_mp CO.enD (fun e => CO.enD (renE t e)) _ [] (fun e he Kp kp => ?_) (by have := kx.few; simp [sl24']; omega) ?_⟩
          · simp [CO.enD, renE] at kp
            have nv := nm_val e.l t
            simp [CO.enD, wipeD, sz3, dCgetD]
            refine ⟨rfl, ⟨_, hr⟩, _, hr, ?_⟩
            rw [nv]
            exact kp
          · simp [wB1, wTuple, seqW, lstW, tupW]
            have := hn [some (W.d (coD co)), some (W.d (D.tup ps)), some (W.d (D.ref h.length)), some (.own ((co.cs.take (i + 1)).map fun es => cxD (es.map (renE t)))), some (W.d (cxD es)), none, none, none, none, none] h' ⟨rfl, _, rfl⟩
            rw [ht] at this
            simpa [cxD, Function.comp_def] using this
        · obtain ⟨rfl, w4, rfl⟩ := hI
          have fin : ((∀ es ∈ co.cs, ((es.map (renE t)).map (·.l)).Nodup) → Q (.tup [.int co.z, .tup (co.cs.map fun es => cxD (es.map (renE t))), .str co.dv, .str co.mn]) h') ∧ ((¬ ∀ es ∈ co.cs, ((es.map (renE t)).map (·.l)).Nodup) → Z (xnU "letters") h') := by
            constructor
            · intro z
              rw [if_pos z] at q9
              simpa [outC, coD, Function.comp_def] using q9
            · intro z
              rw [if_neg z] at q9
              exact q9
          have ee : ∀ es ∈ co.cs, ∀ e ∈ es.map (renE t), enOk co.cs.length e := fun es hes e he => by
            obtain ⟨f, hf, rfl⟩ := List.mem_map.mp he
            exact renE_ok tl ((ok.cx es hes).en f hf)
          have ec : ∀ es ∈ co.cs, isCtx (cxD (es.map (renE t))) = decide ((es.map (renE t)).map (·.l)).Nodup := fun es hes =>
            isCtx_cx (by simpa using (ok.cx es hes).two) (ee es hes)
          simp [dFrz, dDrop, dLc, dItL]
          refine lc_mp (fun es => cxD (es.map (renE t))) (fun es => .bl (isCtx (cxD (es.map (renE t))))) co.cs [] (fun es hes Kp kp => ?_) (by have := ok.c1; simp [sl24']; omega) ?_
          · simp [Tg.put, wipeD]
            exact ⟨okA_cxe (by have := (ok.cx es hes).few; simp; omega) (ee es hes), kp⟩
          · simp [wB1, wAll, lstW]
            refine ⟨co.cs.map fun es => isCtx (cxD (es.map (renE t))), by simp, ?_⟩
            refine ⟨fun z => ?_, fun z => fin.2 fun y => ?_⟩
            · refine ⟨_, rfl, _, rfl, fin.1 fun es hes => ?_⟩
              have := List.all_eq_true.mp z _ (List.mem_map.mpr ⟨es, hes, rfl⟩)
              simp only [id, ec es hes, decide_eq_true_eq] at this
              exact this
            · obtain ⟨b, hb, hf⟩ := List.all_eq_false.mp z
              obtain ⟨es, hes, rfl⟩ := List.mem_map.mp hb
              simp only [id, ec es hes, decide_eq_true_eq] at hf
              exact hf (y es hes)
end K
set_option maxHeartbeats 4000000
set_option exponentiation.threshold 2000
namespace K
open PySem DL DP CO
/-- the letters of the drawn coders -/
def alph : List Str := ("abcehxyz" : Str).cps.toList.map fun c => ⟨#[c]⟩
theorem alph_nd : alph.Nodup := by decide +kernel
theorem alph_len : alph.length = 8 := by decide +kernel
theorem alph_ok : ∀ s ∈ alph, isL s = true := by decide +kernel
/-- a drawn entry -/
def enT (m : Nat) (e : En) : Prop := e.l ∈ alph ∧ 0 < e.c ∧ e.c < 2 ^ 134 ∧ ∀ k, e.n = some k → k < m
theorem enT.ok {m : Nat} {e : En} (h : enT m e) : enOk m e := ⟨alph_ok _ h.1, h.2.1, h.2.2.2⟩
def cxT (m : Nat) (es : List En) : Prop := 2 ≤ es.length ∧ es.length ≤ 4 ∧ (∀ e ∈ es, enT m e) ∧ (es.map (·.l)).Nodup
theorem cxT.ok {m : Nat} {es : List En} (h : cxT m es) : cxOk m es := ⟨h.1, fun e he => (h.2.2.1 e he).ok, h.2.2.2⟩
def cntB : D → Bool
  | .int i => decide (0 < i) && decide (i < 2 ^ 134)
  | _ => false
def rowB : D → Bool
  | .lst xs => decide (2 ≤ xs.length) && (decide (xs.length ≤ 4) && xs.all cntB)
  | _ => false
theorem seqIx {k : Int} {n : Nat} (h0 : 0 ≤ k) (h1 : k < n) : seqIndex? k n = some k.toNat := by
  unfold seqIndex?
  simp [show ¬ k < 0 by omega]
  omega
theorem er_perm {α : Type} : ∀ (l : List α) (j : Nat) (h : j < l.length), (l[j] :: l.eraseIdx j).Perm l
  | [], _, h => by simp at h
  | a :: l, 0, _ => by simp
  | a :: l, j + 1, h => by
    have h2 : j < l.length := by simpa using h
    have := er_perm l j h2
    simp only [List.getElem_cons_succ, List.eraseIdx_cons_succ]
    exact (List.Perm.swap a l[j] (l.eraseIdx j)).trans (this.cons a)
theorem map_er {α β : Type} (f : α → β) : ∀ (l : List α) (j : Nat), (l.map f).eraseIdx j = (l.eraseIdx j).map f
  | [], _ => rfl
  | _ :: _, 0 => rfl
  | a :: l, j + 1 => by simp [map_er f l j]
theorem ctx_turn {F : Fns} (f0 : F.f 28 = spDraw) {many : Nat} {w2 w3 w7 w8 : Option W} {c : D} {ys : List Str} {found : List D} {k : Nat} {h : Hs} {En' : DEnds} (m0 : 0 < many) (m1 : many ≤ 10) (hc : cntB c = true) (l0 : 0 < ys.length) (l1 : ys.length ≤ 100) (lf : found.length < 100) (hs : SH k h) (hk : k + 2 ≤ 1000000)
    (q : ∀ (j : Nat) (hj : j < ys.length) (e : En) h' w7 w8, e.l = ys[j] → 0 < e.c → e.c < 2 ^ 134 → (∀ k, e.n = some k → k < many) → SH (k + 2) h' → En'.nx [some (.d (.ref 0)), some (.d (.int many)), w2, w3, some (.own ((ys.eraseIdx j).map D.str)), some (.own (found ++ [CO.enD e])), some (.d c), w7, w8] h') :
    m_law_context_B1.d M F [some (.d (.ref 0)), some (.d (.int many)), w2, w3, some (.own (ys.map D.str)), some (.own found), some (.d c), w7, w8] h En' := by
  simp [m_law_context_B1, Ss.d, S.d, E.d, E.t, Es.d, Es.len, f0, spDraw, dPop, wB1, wLen, seqW, lstW, tupW]
  refine ⟨k, hs, by omega, l0, by omega, fun r h1 r0 r1 s1 => ?_⟩
  obtain ⟨r', rfl⟩ := Int.eq_ofNat_of_zero_le r0
  have hr : r' < ys.length := by omega
  refine ⟨by omega, by omega, r', seqIx (by omega) (by omega), .str ys[r'], by simp [hr], ?_⟩
  cases c <;> first | (simp [cntB] at hc; done) | skip
  rename_i ci
  simp [cntB] at hc
  simp [wBin, wInt]
  refine ⟨k + 1, s1, by omega, by omega, fun r2 h2 r20 r21 s2 => ?_⟩
  obtain ⟨r2, rfl⟩ := Int.eq_ofNat_of_zero_le r20
  simp [dApp, wCmp, wLt]
  refine ⟨by unfold sizeLine; omega, ?_⟩
  by_cases h3 : r2 < many
  · have h3' : (r2 : Int) < many := by omega
    simp [h3, sz3]
    have := q r' hr ⟨ys[r'], ci, some r2⟩ h2 (some (.d (.str ys[r']))) (some (.d (.int r2))) rfl hc.1 hc.2 (fun k e => by cases e; exact h3) s2
    simpa [CO.enD, nxD, map_er] using this
  · simp [h3, sz3]
    have := q r' hr ⟨ys[r'], ci, none⟩ h2 (some (.d (.str ys[r']))) (some (.d (.int r2))) rfl hc.1 hc.2 (fun k e => by cases e) s2
    simpa [CO.enD, nxD, map_er] using this
theorem ctx_loop {F : Fns} (f0 : F.f 28 = spDraw) {many : Nat} {w2 w3 : Option W} {En' : DEnds} (m0 : 0 < many) (m1 : many ≤ 10) : ∀ (cs : List D) (ys : List Str) (fs : List En) (k : Nat) (h : Hs) (w6 w7 w8 : Option W), (∀ c ∈ cs, cntB c = true) → (∀ y ∈ ys, y ∈ alph) → (ys ++ fs.map (·.l)).Nodup → cs.length ≤ ys.length → ys.length ≤ 8 → (∀ e ∈ fs, enT many e) → fs.length + cs.length ≤ 4 → SH k h → k + 2 * cs.length ≤ 1000000 →
    (∀ (fs' : List En) h' ys' w6 w7 w8, (∀ e ∈ fs', enT many e) → (fs'.map (·.l)).Nodup → fs'.length = fs.length + cs.length → SH (k + 2 * cs.length) h' → En'.nx [some (.d (.ref 0)), some (.d (.int many)), w2, w3, some (.own ys'), some (.own (fs'.map CO.enD)), w6, w7, w8] h') →
    forD (.nm 6) (m_law_context_B1.d M F) En' cs [some (.d (.ref 0)), some (.d (.int many)), w2, w3, some (.own (ys.map D.str)), some (.own (fs.map CO.enD)), w6, w7, w8] h
  | [], ys, fs, k, h, w6, w7, w8, hc, hy, nd, l1, l2, hf, lf, hs, hk, q => by
    unfold forD
    exact q fs h _ w6 w7 w8 hf (List.nodup_append.mp nd).2.1 (by simp) hs
  | c :: cs, ys, fs, k, h, w6, w7, w8, hc, hy, nd, l1, l2, hf, lf, hs, hk, q => by
    unfold forD
    rw [put_nm]
    simp only [List.length_cons] at l1 lf hk q
    refine ctx_turn f0 m0 m1 (hc c (by simp)) (by omega) (by omega) (by simp; omega) hs (by omega) fun j hj e h' w7 w8 e1 e2 e3 e4 hs' => ?_
    have ef : fs.map CO.enD ++ [CO.enD e] = (fs ++ [e]).map CO.enD := by simp
    rw [ef]
    have pm : (ys[j] :: ys.eraseIdx j).Perm ys := er_perm ys j hj
    refine ctx_loop f0 m0 m1 cs (ys.eraseIdx j) (fs ++ [e]) (k + 2) h' _ w7 w8 (fun x hx => hc x (List.mem_cons_of_mem _ hx)) (fun y hy' => hy y (List.mem_of_mem_eraseIdx hy')) ?_ ?_ ?_ ?_ ?_ hs' (by omega) ?_
    · have p2 : (ys.eraseIdx j ++ (fs ++ [e]).map (·.l)).Perm (ys ++ fs.map (·.l)) := by
        have a : (ys.eraseIdx j ++ (fs ++ [e]).map (·.l)).Perm ((ys[j] :: ys.eraseIdx j) ++ fs.map (·.l)) := by
          simp only [List.map_append, List.map_cons, List.map_nil, e1]
          rw [← List.append_assoc]
          exact (List.perm_append_singleton _ _).trans (by simp)
        exact a.trans (pm.append_right _)
      exact p2.nodup_iff.mpr nd
    · rw [List.length_eraseIdx]; split <;> omega
    · rw [List.length_eraseIdx]; split <;> omega
    · intro x hx
      rcases List.mem_append.mp hx with hx | hx
      · exact hf x hx
      · simp at hx; subst hx; exact ⟨by rw [e1]; exact hy _ (List.getElem_mem hj), e2, e3, e4⟩
    · simp; omega
    · intro fs' h2 ys' w6 w7 w8 a b c d
      exact q fs' h2 ys' w6 w7 w8 a b (by rw [c]; simp; omega) (d.mono (by omega))
def spCtx : FnD := fun xs h P _ => match xs with
  | [.ref 0, .int many] => ∃ (k m : Nat), many = m ∧ SH k h ∧ k ≤ 900000 ∧ 0 < m ∧ m ≤ 10 ∧ ∀ es h', cxT m es → SH (k + 9) h' → P (cxD es) h'
  | _ => False
def rows0 : List D := [.lst [.int 1, .int 1], .lst [.int 2, .int 1], .lst [.int 2, .int 1, .int 1], .lst [.int 9, .int 1], .lst [.int 1, .int 9], .lst [.int 1, .int 2, .int 1], .lst [.int 3, .int 1, .int 2], .lst [.int 1, .int 1, .int 1, .int 1], .lst [.int 5, .int 3, .int 2, .int 2], .lst [.int 7, .int (10 ^ 40)]]
theorem rows0_ok : ∀ r ∈ rows0, rowB r = true := by decide +kernel
theorem rowB_inv {r : D} (h : rowB r = true) : ∃ xs, r = .lst xs ∧ 2 ≤ xs.length ∧ xs.length ≤ 4 ∧ ∀ x ∈ xs, cntB x = true := by
  cases r <;> first | (simp [rowB] at h; done) | skip
  rename_i xs
  simp only [rowB, Bool.and_eq_true, decide_eq_true_eq, List.all_eq_true] at h
  exact ⟨xs, rfl, h.1, h.2.1, h.2.2⟩
theorem alphD : ("abcehxyz" : Str).cps.toList.map (fun c => D.str ⟨#[c]⟩) = alph.map D.str := by unfold alph; rw [List.map_map]; rfl
def mCtail : Ss := (.cons (.for_ (.nm 6) (.l (.var 3)) m_law_context_B1) m_law_context_T1)
theorem ctail_ok {F : Fns} (f0 : F.f 28 = spDraw) {many : Nat} {w2 w6 w7 w8 : Option W} {xs : List D} {k : Nat} {h : Hs} {En' : DEnds} (m0 : 0 < many) (m1 : many ≤ 10) (l0 : 2 ≤ xs.length) (l1 : xs.length ≤ 4) (hc : ∀ x ∈ xs, cntB x = true) (hs : SH k h) (hk : k ≤ 900100) (q : ∀ es h', cxT many es → SH (k + 8) h' → En'.rt (cxD es) h') :
    mCtail.d M F [some (.d (.ref 0)), some (.d (.int many)), w2, some (.d (.lst xs)), some (.own (alph.map D.str)), some (.own []), w6, w7, w8] h En' := by
  unfold mCtail m_law_context_T1
  generalize hm : m_law_context_B1 = mc
  simp [Ss.d, S.d, E.d, Ic.d, dItL]
  subst hm
  have al := alph_len
  refine ctx_loop f0 m0 m1 xs alph [] k h _ _ _ hc (fun _ h => h) (by simpa using alph_nd) (by omega) (by omega) (by simp) (by simpa using l1) hs (by omega) fun fs h' ys' w6 w7 w8 a b c d => ?_
  simp [wB1, wTuple, seqW, lstW, tupW]
  exact q fs _ ⟨by simp at c; omega, by simp at c; omega, a, b⟩ (d.mono (by omega))
theorem k_law_context {F : Fns} (f0 : F.f 28 = spDraw) (f16 : F.f 29 = spPick) : Kp M F m_law_context 9 spCtx := by
  intro xs h Q Z q0
  match xs, q0 with
  | [.ref 0, .int many], ⟨k, m, hm, hs, hk, m0, m1, q⟩ =>
    subst hm
    have hmm : ∃ a b, m_law_context = .cons (.own 2 a) (.cons (.app 2 b) (.cons (.frz 2 (.par3 false 3 (.call 29 (.cons (.var 0) (.cons (.var 2) (.nil)))) true 4 (.lstS (.str "abcehxyz")) true 5 (.lst (.nil)))) mCtail)) ∧
        (∀ ds h P Z, P (.new (rows0.take 9)) h → a.d F ds h P Z) ∧ (∀ ds h P Z, P (.new [.int 7, .int (10 ^ 40)]) h → b.d F ds h P Z) := by
      refine ⟨_, _, rfl, fun ds h P Z p => ?_, fun ds h P Z p => ?_⟩
      · simp [E.d, Es.d]
        exact ⟨by decide, by decide, by decide, by decide, by decide, by decide, p⟩
      · have pw : L2.CPow 10 40 := ⟨by decide, by decide, by decide⟩
        simp [E.d, Es.d, wBin, wInt]
        exact ⟨pw, by decide, p⟩
    obtain ⟨a, b, hmm, ha, hb⟩ := hmm
    rw [hmm]
    have tl := fun (w2 : Option W) (xs : List D) (h : Hs) (k : Nat) => ctail_ok (F := F) f0 (many := m) (w2 := w2) (w6 := none) (w7 := none) (w8 := none) (xs := xs) (k := k) (h := h) (En' := fin Q Z) m0 m1
    generalize mCtail = mt at tl ⊢
    simp [Ss.d, S.d, startD, List.replicate_succ]
    refine ha _ _ _ _ ⟨_, rfl, ?_⟩
    simp [dApp]
    refine ⟨by decide, hb _ _ _ _ ⟨_, rfl, ?_⟩⟩
    simp [dFrz, dPar3, E.d, Es.d, Es.len, f16, spPick]
    refine ⟨k, hs, by omega, by decide, fun r h' hr hs' => ?_⟩
    have hr' : r ∈ rows0 := by simpa [rows0, or_assoc] using hr
    obtain ⟨xs, rfl, l0, l1, hc⟩ := rowB_inv (rows0_ok r hr')
    simp [wListS, stW]
    refine ⟨by decide, ?_⟩
    rw [alphD]
    exact tl _ xs h' (k + 1) l0 l1 hc hs' (by omega) fun es h2 a b => q es h2 a (b.mono (by omega))
end K
set_option maxHeartbeats 4000000
set_option exponentiation.threshold 2000
namespace K
open PySem DL DP CO
/-- a drawn coder -/
structure coT (c : Co) : Prop where
  z0 : 2 ≤ c.z
  z1 : c.z ≤ 5
  c0 : 0 < c.cs.length
  c1 : c.cs.length ≤ 3
  cx : ∀ es ∈ c.cs, cxT c.cs.length es
  dv : c.dv ∈ (["fine", "coarse"] : List Str)
  mn : c.mn ∈ (["plain", "pending", "cut", "late"] : List Str)
theorem coT.ok {c : Co} (h : coT c) : c.ok := ⟨h.z0, h.z1, h.c0, by have := h.c1; omega, fun es he => (h.cx es he).ok, h.dv, h.mn⟩
theorem coT.cb {c : Co} (h : coT c) : c.cb 134 := fun es he e hee => ((h.cx es he).2.2.1 e hee).2.2.1
theorem cod_loop {F : Fns} (f17 : F.f 30 = spCtx) {m : Nat} {w2 w3 w4 w5 : Option W} {P : List D → Hs → Prop} (m0 : 0 < m) (m1 : m ≤ 10) (xs : List D) (k : Nat) (h : Hs) (l : xs.length ≤ 3) (hs : SH k h) (hk : k + 27 ≤ 900000)
    (q : ∀ (cs : List (List En)) h', (∀ c ∈ cs, cxT m c) → cs.length = xs.length → SH (k + 9 * xs.length) h' → P (cs.map cxD) h') :
    lcD [some (.d (.ref 0)), some (.d (.int m)), w2, w3, w4, w5] [5] (.nm 5) dYes (E.d F (.call 30 (.cons (.var 0) (.cons (.var 1) (.nil))))) P xs [] h := by
  refine lc_inv (fun i acc h => ∃ cs : List (List En), acc = cs.map cxD ∧ (∀ c ∈ cs, cxT m c) ∧ SH (k + 9 * i) h) xs (by unfold sizeLine; omega) (fun i x acc h Kp hx hI ha hK => ?_) ⟨[], rfl, by simp, hs⟩ fun acc h' hI hl => ?_
  · obtain ⟨cs, rfl, hc, hs'⟩ := hI
    have hi : i < xs.length := (List.getElem?_eq_some_iff.mp hx).1
    simp [wipeD, E.d, Es.d, Es.len, f17]
    refine ⟨k + 9 * i, m, rfl, hs', by omega, m0, m1, fun es h' hr hs2 => hK _ _ ⟨cs ++ [es], by simp, fun c hc' => ?_, hs2.mono (by omega)⟩⟩
    rcases List.mem_append.mp hc' with hc' | hc'
    · exact hc c hc'
    · simp at hc'; subst hc'; exact hr
  · obtain ⟨cs, rfl, hc, hs'⟩ := hI
    exact q cs h' hc (by simpa using hl) hs'
def spCoder : FnD := fun xs h P _ => match xs with
  | [.ref 0] => ∃ k, SH k h ∧ k ≤ 800000 ∧ ∀ co h', coT co → SH (k + 31) h' → P (coD co) h'
  | _ => False
theorem k_law_coder {F : Fns} (f15 : F.f 28 = spDraw) (f16 : F.f 29 = spPick) (f17 : F.f 30 = spCtx) : Kp M F m_law_coder 6 spCoder := by
  intro xs h Q Z q0
  match xs, q0 with
  | [.ref 0], ⟨k, hs, hk, q⟩ =>
    simp [m_law_coder, Ss.d, S.d, E.d, Es.d, Es.len, startD, List.replicate_succ, f15, f16, spDraw, wBin, wInt, fin]
    refine ⟨k, hs, by omega, fun r h1 r0 r1 s1 => ?_⟩
    obtain ⟨m, rfl⟩ := Int.eq_ofNat_of_zero_le r0
    simp [dPar2, Ic.d, E.d, Es.d, dLc, Oe.t, f16, f15, spDraw, wBin, wInt, Es.len]
    refine ⟨k + 1, s1, by omega, fun r2 h2 r20 r21 s2 => ?_⟩
    simp [spPick, stW]
    refine ⟨by decide, k + 2, s2, by omega, fun p h3 hp s3 => ?_⟩
    obtain ⟨p, rfl, hp2⟩ : ∃ s, p = .str s ∧ s ∈ (["fine", "coarse"] : List Str) := by
      rcases hp with rfl | rfl
      · exact ⟨_, rfl, by simp⟩
      · exact ⟨_, rfl, by simp⟩
    simp [dItR1, dCons]
    refine ⟨by omega, by omega, ?_⟩
    have e1 : (1 : Int) + (m : Int) = ((m + 1 : Nat) : Int) := by push_cast; omega
    rw [e1]
    refine cod_loop f17 (by omega) (by omega) _ (k + 3) h3 (by simp; omega) s3 (by omega) fun cs h4 ha hl s4 => ?_
    simp at hl s4
    simp [wB1, wTuple, seqW, lstW, tupW]
    refine ⟨by decide, k + 30, s4.mono (by omega), by omega, fun mn h5 hm s5 => ⟨by decide, ?_⟩⟩
    obtain ⟨mn, rfl, hm2⟩ : ∃ s, mn = .str s ∧ s ∈ (["plain", "pending", "cut", "late"] : List Str) := by
      rcases hm with rfl | rfl | rfl | rfl <;> exact ⟨_, rfl, by simp⟩
    exact q ⟨2 + r2, cs, p, mn⟩ _ ⟨by show 2 ≤ 2 + r2; omega, by show 2 + r2 ≤ 5; omega, by show 0 < cs.length; omega, by show cs.length ≤ 3; omega, fun es he => by
      show cxT cs.length es
      have : cs.length = m + 1 := by omega
      rw [this]; exact ha es he, hp2, hm2⟩ (s5.mono (by omega))
end K
set_option maxHeartbeats 4000000
namespace K
open PySem DL DP CO
theorem k_law_is_number {F : Fns} : Kp M F m_law_is_number 1 (tellsA isNum) := by
  intro xs h Q Z q0
  match xs, q0 with
  | [x], ⟨ho, q⟩ =>
    have hx := okA_good ho
    simp [m_law_is_number, Ss.d, S.d, E.d, startD, w_int hx, w_bool hx, fin]
    cases x <;> simp_all [isI, isB, isNum, good, wCmp, wLt]
theorem lts_iff {c : Nat} : c ∈ lts ↔ 97 ≤ c ∧ c ≤ 122 := by
  have e : lts = (List.range 26).map (· + 97) := by decide +kernel
  rw [e]
  constructor
  · intro h
    obtain ⟨i, hi, rfl⟩ := List.mem_map.mp h
    have := List.mem_range.mp hi
    omega
  · intro h
    exact List.mem_map.mpr ⟨c - 97, List.mem_range.mpr (by omega), by omega⟩
theorem lt1 {a b : Nat} : ([a] : List Nat) < [b] ↔ a < b := by simp [List.cons_lt_cons_iff]
theorem k_law_is_letter {F : Fns} : Kp M F m_law_is_letter 1 (tellsA isLet) := by
  intro xs h Q Z q0
  match xs, q0 with
  | [x], ⟨ho, q⟩ =>
    have hx := okA_good ho
    simp [m_law_is_letter, Ss.d, S.d, E.d, startD, w_str hx, fin, dChainV]
    cases x <;> first | (simp_all [isS, isLet]; done) | skip
    rename_i s
    obtain ⟨⟨l⟩⟩ := s
    have hz : l.length ≤ 1000 := by simp [okA] at ho; exact ho.1
    simp [isS, wB1, wLen, wCmp, wEq]
    have e0 : isLet (.str ⟨⟨l⟩⟩) = (decide (l.length = 1) && l.all fun c => decide (c ∈ lts)) := by simp [isLet, CO.isL]
    rw [e0] at q
    refine ⟨by show l.length ≤ sizeLine; simp [sl24']; omega, ?_⟩
    have el : (((⟨⟨l⟩⟩ : Str).length : Nat) : Int) = l.length := rfl
    rw [el]
    match l, q with
    | [], q => simpa using q
    | [c], q =>
      simp [wLt]
      have ea : ("a" : Str).cps.toList = [97] := by decide +kernel
      have ez : ("z" : Str).cps.toList = [122] := by decide +kernel
      simp [ea, ez, lts_iff] at q ⊢
      by_cases h1 : c < 97
      · have e1 : decide (97 ≤ c) = false := decide_eq_false (by omega)
        rw [e1, Bool.false_and] at q
        exact .inl ⟨lt1.mpr h1, q⟩
      · have e1 : decide (97 ≤ c) = true := decide_eq_true (by omega)
        have e2 : (!decide (([122] : List Nat) < [c])) = decide (c ≤ 122) := by
          by_cases h2 : c ≤ 122
          · have : ¬ ([122] : List Nat) < [c] := fun z => by have := lt1.mp z; omega
            rw [decide_eq_false this, decide_eq_true h2]; rfl
          · have : ([122] : List Nat) < [c] := lt1.mpr (by omega)
            rw [decide_eq_true this, decide_eq_false h2]; rfl
        rw [e1, Bool.true_and] at q
        exact .inr ⟨fun z => h1 (lt1.mp z), by rw [e2]; exact q⟩
    | a :: b :: l, q =>
      have e1 : decide (((a :: b :: l : List Nat).length : Int) = 1) = false := decide_eq_false (by simp; omega)
      have q : Q (.bl false) h := by simpa using q
      refine .inl ⟨by simp; omega, ?_⟩
      rw [e1]; exact q
theorem k_law_is_entry {F : Fns} (f1 : F.f 32 = tellsA isNum) (f2 : F.f 33 = tellsA isLet) : Kp M F m_law_is_entry 1 (tellsA isEnt) := by
  intro xs h Q Z q0
  match xs, q0 with
  | [x], ⟨ho, q⟩ =>
    have hx := okA_good ho
    simp [m_law_is_entry, Ss.d, S.d, E.d, E.t, Es.d, Es.len, startD, w_tuple hx, fin, f1, f2]
    cases x <;> first | (simp_all [isT, isEnt]; done) | skip
    rename_i l
    simp [isT, wB1, wLen, seqW, lstW, tupW, wCmp, wEq]
    have hm := (okA_tup ho).2
    by_cases h3 : l.length = 3
    · match l, h3 with
      | [a, b, c], _ =>
        simp [wIx, seqW, lstW, tupW]
        refine ⟨hm a (by simp), ?_⟩
        cases ha : isLet a with
        | false => simp [isEnt, ha] at q; simpa using q
        | true =>
          simp
          refine ⟨hm b (by simp), ?_⟩
          cases hb : isNum b with
          | false =>
            have : isCnt b = false := by
              cases b <;> first | rfl | skip
              simp [isNum] at hb
              simp [isCnt]; omega
            simp [isEnt, ha, this] at q; simpa using q
          | true =>
            cases b <;> first | (simp [isNum] at hb; done) | skip
            rename_i i _
            simp [wLt]
            by_cases hi : 0 < i
            · refine .inr ⟨hi, ?_⟩
              simp [isEnt, ha, isCnt, hi] at q
              have hc := hm c (by simp)
              cases c <;> first | (exact .inr ⟨rfl, q⟩) | exact .inl ⟨rfl, hc, q⟩
            · simp [isEnt, ha, isCnt, hi] at q
              refine .inl ⟨by omega, ?_⟩
              rw [decide_eq_false hi]
              exact q
    · have e : isEnt (.tup l) = false := by
        unfold isEnt; split
        · rename_i h5
          cases h5
          exact absurd rfl h3
        · rfl
      rw [e] at q
      exact .inr ⟨by omega, q⟩
end K
set_option maxHeartbeats 4000000
namespace K
open PySem DL DP CO
theorem at_cx {co : Co} {k : Nat} (h : k < co.cs.length) : L2.atI (co.cs.map cxD) (k : Int) = some (cxD (cxA co k)) := by
  rw [atI_n (by simpa using h), List.getElem_map, cxA_get h]
theorem at_en {es : List En} {j : Nat} (h : j < es.length) : L2.atI (es.map CO.enD) (j : Int) = some (CO.enD es[j]) := by
  rw [atI_n (by simpa using h), List.getElem_map]
theorem take_l {es : List En} {j : Nat} (h : j < es.length) : (es.take (j + 1)).map (·.l) = (es.take j).map (·.l) ++ [es[j].l] := by
  rw [List.take_add_one, List.getElem?_eq_getElem h, List.map_append]; rfl
theorem nin_take {es : List En} {j : Nat} (nd : (es.map (·.l)).Nodup) (h : j < es.length) : es[j].l ∉ (es.take j).map (·.l) := by
  have e : es.map (·.l) = (es.take j).map (·.l) ++ es[j].l :: (es.drop (j + 1)).map (·.l) := by
    conv => lhs; rw [← List.take_append_drop j es, List.drop_eq_getElem_cons h]
    rw [List.map_append, List.map_cons]
  rw [e, List.nodup_append] at nd
  exact fun z => nd.2.2 _ z _ (by simp) rfl
theorem ix_of {xs : List D} {i : Int} {d : D} (h : L2.atI xs i = some d) : wIx (.d (.tup xs)) (.d (.int i)) = fun Q => Q (.d d) := by
  funext Q
  refine propext ⟨?_, fun q => ⟨xs, d, rfl, h, q⟩⟩
  rintro ⟨ys, e, h1, h2, q⟩
  cases h1
  rw [h] at h2
  cases h2
  exact q
theorem ln_of {xs : List D} : wLen (.d (.tup xs)) = fun Q => Q (.d (.int xs.length)) := by
  funext Q
  refine propext ⟨?_, fun q => ⟨xs, rfl, q⟩⟩
  rintro ⟨ys, h1, q⟩
  cases h1
  exact q
@[simp] theorem ix_co0 {co : Co} : wIx (.d (coD co)) (.d (.int 0)) = fun Q => Q (.d (.int co.z)) := ix_of rfl
@[simp] theorem ix_co1 {co : Co} : wIx (.d (coD co)) (.d (.int 1)) = fun Q => Q (.d (.tup (co.cs.map cxD))) := ix_of rfl
@[simp] theorem ix_co2 {co : Co} : wIx (.d (coD co)) (.d (.int 2)) = fun Q => Q (.d (.str co.dv)) := ix_of rfl
@[simp] theorem ix_co3 {co : Co} : wIx (.d (coD co)) (.d (.int 3)) = fun Q => Q (.d (.str co.mn)) := ix_of rfl
@[simp] theorem ix_en0 {e : En} : wIx (.d (CO.enD e)) (.d (.int 0)) = fun Q => Q (.d (.str e.l)) := ix_of rfl
@[simp] theorem ix_en1 {e : En} : wIx (.d (CO.enD e)) (.d (.int 1)) = fun Q => Q (.d (.int e.c)) := ix_of rfl
@[simp] theorem ix_en2 {e : En} : wIx (.d (CO.enD e)) (.d (.int 2)) = fun Q => Q (.d (nxD e.n)) := ix_of rfl
theorem ix_cs {co : Co} {k : Nat} (h : k < co.cs.length) : wIx (.d (.tup (co.cs.map cxD))) (.d (.int k)) = fun Q => Q (.d (cxD (cxA co k))) := ix_of (at_cx h)
theorem ix_cx {es : List En} {j : Nat} (h : j < es.length) : wIx (.d (cxD es)) (.d (.int j)) = fun Q => Q (.d (CO.enD es[j])) := ix_of (at_en h)
@[simp] theorem ln_cs {co : Co} : wLen (.d (.tup (co.cs.map cxD))) = fun Q => Q (.d (.int (co.cs.length : Nat))) := by rw [ln_of, List.length_map]
@[simp] theorem ln_cx {es : List En} : wLen (.d (cxD es)) = fun Q => Q (.d (.int (es.length : Nat))) := by unfold cxD; rw [ln_of, List.length_map]
theorem B1_turn {F : Fns} (f1 : F.f 34 = tellsA isEnt) {t sz dv mn : W} {co : Co} {i j : Nat} {w8 : Option W} {h : Hs} {E' : DEnds} (ok : co.ok) (hi : i < co.cs.length) (hj : j < (cxA co i).length)
    (q : ∀ w8, E'.nx [some t, some sz, some (.d (.tup (co.cs.map cxD))), some dv, some mn, some (.d (.int i)), some (.own (((cxA co i).take (j + 1)).map fun e => .str e.l)), some (.d (.int j)), w8] h) :
    m_law_fault_B1.d M F [some t, some sz, some (.d (.tup (co.cs.map cxD))), some dv, some mn, some (.d (.int i)), some (.own (((cxA co i).take j).map fun e => .str e.l)), some (.d (.int j)), w8] h E' := by
  have kx := ok.cx _ (cxA_mem hi)
  have he := kx.en _ (List.getElem_mem hj)
  have o1 := okA_en he.1
  have o2 := enD_ent he
  have nin := nin_take kx.nd hj
  have tl := take_l hj
  have eat := ix_cx hj
  have q := q (some (.d (CO.enD (cxA co i)[j])))
  have et : ((cxA co i).take (j + 1)).map (fun e => D.str e.l) = ((cxA co i).take j).map (fun e => D.str e.l) ++ [.str (cxA co i)[j].l] := by
    have := congrArg (List.map D.str) tl
    simpa [List.map_map, Function.comp_def] using this
  rw [et] at q
  have hfew := kx.few
  generalize (cxA co i)[j] = e at *
  unfold m_law_fault_B1 m_law_fault_T5 m_law_fault_T6 m_law_fault_T7
  simp [Ss.d, S.d, E.d, E.t, Es.d, Es.len, f1, ix_cs hi, eat, wB1]
  refine ⟨o1, ?_⟩
  rw [o2]
  have nin2 : e.l ∉ List.take j ((cxA co i).map (·.l)) := by rw [← List.map_take]; exact nin
  rw [List.map_take] at q
  refine .inr ⟨rfl, ?_⟩
  refine ⟨List.take j ((cxA co i).map (·.l)), by simp [seqW, lstW, List.map_take, Function.comp_def], .inl ⟨by simp [nin2], ?_⟩⟩
  have ap : dApp 6 (dOp2 wIx (dVar 8) (dC (D.int 0)))
      [some t, some sz, some (W.d (D.tup (List.map cxD co.cs))), some dv, some mn, some (W.d (D.int ↑i)), some (W.own (List.take j (List.map (fun e => D.str e.l) (cxA co i)))), some (W.d (D.int ↑j)), some (W.d (CO.enD e))]
      h { nx := fun ds' h' => E'.nx ds' h', rt := E'.rt, ex := E'.ex, bk := E'.bk, ct := E'.ct } := by
    simp [dApp]
    exact ⟨by simp [sl24']; omega, q⟩
  cases hn : e.n with
  | none => simp [nxD]; exact ap
  | some k =>
    have hk := he.2.2 k hn
    simp [nxD, wCmp, wLt]
    exact .inl ⟨by omega, ap⟩
@[simp] theorem isT_cx {es : List En} : isT (cxD es) = true := rfl
/-- a context passes -/
theorem B2_turn {F : Fns} (f1 : F.f 34 = tellsA isEnt) {t sz dv mn : W} {co : Co} {i : Nat} {w6 w7 w8 : Option W} {h : Hs} {E' : DEnds} (ok : co.ok) (hi : i < co.cs.length)
    (q : ∀ w6 w7 w8, E'.nx [some t, some sz, some (.d (.tup (co.cs.map cxD))), some dv, some mn, some (.d (.int i)), w6, w7, w8] h) :
    m_law_fault_B2.d M F [some t, some sz, some (.d (.tup (co.cs.map cxD))), some dv, some mn, some (.d (.int i)), w6, w7, w8] h E' := by
  have kx := ok.cx _ (cxA_mem hi)
  have gc := okA_good (okA_cx kx)
  have h2 := kx.two
  unfold m_law_fault_B2 m_law_fault_T4
  have tn := fun j w8 (E2 : DEnds) (hj : j < (cxA co i).length) => B1_turn (F := F) f1 (t := t) (sz := sz) (dv := dv) (mn := mn) (j := j) (w8 := w8) (h := h) (E' := E2) ok hi hj
  generalize m_law_fault_B1 = b1 at tn ⊢
  simp [Ss.d, S.d, E.d, E.t, Es.d, Es.len, Ic.d, dItR1, ix_cs hi, wB1, w_tuple gc, wCmp, wLt]
  have hf := kx.few
  rw [if_neg (by omega)]
  refine ⟨by omega, ?_⟩
  refine for_inv (fun j ds h' => h' = h ∧ ∃ w7 w8, ds = [some t, some sz, some (.d (.tup (co.cs.map cxD))), some dv, some mn, some (.d (.int i)), some (.own (((cxA co i).take j).map fun e => .str e.l)), w7, w8]) _ (fun j y ds h' En hy hI e1 e2 e3 hn hc => ?_) ⟨rfl, _, _, rfl⟩ fun ds h' hI => ?_
  · obtain ⟨rfl, w7, w8, rfl⟩ := hI
    obtain ⟨rfl, hj⟩ := rng_get hy
    rw [put_nm]
    have e0 : (0 : Int) + (j : Int) = (j : Int) := by omega
    rw [e0]
    exact tn j w8 En hj fun w8 => hn _ _ ⟨rfl, _, _, rfl⟩
  · obtain ⟨rfl, w7, w8, rfl⟩ := hI
    exact q _ _ _
theorem okA_co {co : Co} (ok : co.ok) : okA (coD co) = true := by
  have h1 : okAs (co.cs.map cxD) = true := okAs_iff.mpr fun x hx => by
    obtain ⟨es, he, rfl⟩ := List.mem_map.mp hx
    exact okA_cx (ok.cx es he)
  have h2 : ∀ s ∈ (["fine", "coarse"] : List Str), okA (.str s) = true := by decide +kernel
  have h3 : ∀ s ∈ (["plain", "pending", "cut", "late"] : List Str), okA (.str s) = true := by decide +kernel
  have h4 := h2 _ ok.dv
  have h5 := h3 _ ok.mn
  have h6 : okA (.tup (co.cs.map cxD)) = true := by
    have := ok.c1
    simp only [okA, h1, Bool.and_true, decide_eq_true_eq, List.length_map]
    omega
  simp only [coD, okA, okAs, Bool.and_true, Bool.and_eq_true]
  refine ⟨by simp, trivial, ?_, ?_, ?_⟩
  · simpa [okA] using h6
  · simpa [okA] using h4
  · simpa [okA] using h5
@[simp] theorem isT_co {co : Co} : isT (coD co) = true := rfl
def spFault : FnD := fun xs h P _ => match xs with
  | [c] => ∃ co, c = coD co ∧ co.ok ∧ co.cb 1000 ∧ P .non h
  | _ => False
theorem nin_of {s : Str} {zs : List Str} {Q : W → Prop} (h : s ∈ zs) (q : Q (.d (.bl false))) : DL.wCmp .nin (.d (.str s)) (.d (.tup (zs.map D.str))) Q := ⟨zs, rfl, by simpa [h] using q⟩
theorem eq_nilT {xs : List D} {n d : Nat} {Q : W → Prop} (h : Bd n d (.tup xs)) (hd : d ≤ 64) (h0 : xs ≠ []) (q : Q (.d (.bl false))) : wData false (.d (.tup xs)) (.d (.tup [])) Q := by
  refine (data_bd h (Bds.nil (d := 0)).tup hd (by omega) ?_)
  cases xs with
  | nil => exact absurd rfl h0
  | cons x xs => simpa [pyD, pyDs, eqv_nilT] using q
theorem fault_T8 {F : Fns} {t sz cs : W} {dv mn : Str} {w5 w6 w7 w8 : Option W} {h : Hs} {E' : DEnds} (hd : dv ∈ (["fine", "coarse"] : List Str)) (hm : mn ∈ (["plain", "pending", "cut", "late"] : List Str)) (q : E'.rt .non h) :
    m_law_fault_T8.d M F [some t, some sz, some cs, some (.d (.str dv)), some (.d (.str mn)), w5, w6, w7, w8] h E' := by
  have g1 : good (.str dv) = true := rfl
  have g2 : good (.str mn) = true := rfl
  unfold m_law_fault_T8 m_law_fault_T9 m_law_fault_T10
  simp [Ss.d, S.d, E.d, E.t, Es.d, Es.len, w_str g1, w_str g2, isS]
  refine ⟨by decide, nin_of (zs := ["fine", "coarse"]) hd (.inl ⟨rfl, ?_⟩)⟩
  refine ⟨by decide, nin_of (zs := ["plain", "pending", "cut", "late"]) hm (.inl ⟨rfl, ?_⟩)⟩
  exact q
theorem fault_T3 {F : Fns} (f1 : F.f 34 = tellsA isEnt) {t sz : W} {co : Co} {w5 w6 w7 w8 : Option W} {h : Hs} {E' : DEnds} (ok : co.ok) (q : E'.rt .non h) :
    m_law_fault_T3.d M F [some t, some sz, some (.d (.tup (co.cs.map cxD))), some (.d (.str co.dv)), some (.d (.str co.mn)), w5, w6, w7, w8] h E' := by
  have c1 := ok.c1
  have t8 := fun w5 w6 w7 w8 => fault_T8 (F := F) (t := t) (sz := sz) (cs := .d (.tup (co.cs.map cxD))) (w5 := w5) (w6 := w6) (w7 := w7) (w8 := w8) (h := h) (E' := E') ok.dv ok.mn q
  have tn := fun i w6 w7 w8 (E2 : DEnds) (hi : i < co.cs.length) => B2_turn (F := F) f1 (t := t) (sz := sz) (dv := .d (.str co.dv)) (mn := .d (.str co.mn)) (i := i) (w6 := w6) (w7 := w7) (w8 := w8) (h := h) (E' := E2) ok hi
  unfold m_law_fault_T3
  generalize m_law_fault_B2 = b2 at tn ⊢
  generalize m_law_fault_T8 = t8' at t8 ⊢
  simp [Ss.d, S.d, E.d, E.t, Es.d, Es.len, Ic.d, dItR1, wB1]
  refine ⟨by omega, ?_⟩
  refine for_inv (fun j ds h' => h' = h ∧ ∃ w5 w6 w7 w8, ds = [some t, some sz, some (.d (.tup (co.cs.map cxD))), some (.d (.str co.dv)), some (.d (.str co.mn)), w5, w6, w7, w8]) _ (fun j y ds h' En hy hI e1 e2 e3 hn hc => ?_) ⟨rfl, _, _, _, _, rfl⟩ fun ds h' hI => ?_
  · obtain ⟨rfl, w5, w6, w7, w8, rfl⟩ := hI
    obtain ⟨rfl, hj⟩ := rng_get hy
    rw [put_nm]
    have e0 : (0 : Int) + (j : Int) = (j : Int) := by omega
    rw [e0]
    exact tn j w6 w7 w8 En hj fun w6 w7 w8 => hn _ _ ⟨rfl, _, _, _, _, rfl⟩
  · obtain ⟨rfl, w5, w6, w7, w8, rfl⟩ := hI
    exact t8 _ _ _ _
theorem k_law_fault {F : Fns} (f0 : F.f 32 = tellsA isNum) (f1 : F.f 34 = tellsA isEnt) : Kp M F m_law_fault 9 spFault := by
  intro xs h Q Z q0
  match xs, q0 with
  | [c], ⟨co, hc, ok, cb, q⟩ =>
    subst hc
    have gc := okA_good (okA_co ok)
    have gt : good (.tup (co.cs.map cxD)) = true := by
      have : good (coD co) = true := gc
      simp only [coD, good, goods, Bool.and_eq_true] at this
      exact this.2.1
    have z0 := ok.z0
    have z1 := ok.z1
    have hne : co.cs.map cxD ≠ [] := by have := ok.c0; intro e; rw [List.map_eq_nil_iff] at e; rw [e] at this; simp at this
    have bc := bd_cs ok cb
    have t3 := fun w5 w6 w7 w8 => fault_T3 (F := F) f1 (t := .d (coD co)) (sz := .d (.int co.z)) (co := co) (w5 := w5) (w6 := w6) (w7 := w7) (w8 := w8) (h := h) (E' := fin Q Z) ok q
    unfold m_law_fault m_law_fault_T1 m_law_fault_T2
    generalize m_law_fault_T3 = t3' at t3 ⊢
    have ln : wLen (.d (coD co)) = fun Q => Q (.d (.int 4)) := by unfold coD; exact ln_of
    have t3 := t3 none none none none
    simp only [coD] at gc ln t3 ⊢
    simp [Ss.d, S.d, E.d, E.t, Es.d, Es.len, Tgs.len, Ic.d, dItR1, startD, List.replicate_succ, fin, wB1, ln, w_tuple gc, w_tuple gt, f0, isT, wCmp, wEq]
    have en : isNum (.int co.z) = true := by simp [isNum]; omega
    refine ⟨rfl, ?_⟩
    rw [en]
    refine .inr ⟨rfl, ?_⟩
    simp [dChain, wCmp, wLt, z0, z1]
    exact eq_nilT bc (by omega) hne (.inl ⟨rfl, t3⟩)
end K
set_option maxHeartbeats 4000000
namespace K
open PySem DL DP CO
def spRows : FnD := fun xs h P _ => match xs with
  | [c] => ∃ co, c = coD co ∧ co.ok ∧ P (.lst (rowsL co.cs)) h
  | _ => False
theorem k_law_rows {F : Fns} : Kp M F m_law_rows 4 spRows := by
  intro xs h Q Z q0
  match xs, q0 with
  | [c], ⟨co, hc, ok, q⟩ =>
    subst hc
    have c1 := ok.c1
    simp [m_law_rows, Ss.d, S.d, E.d, E.t, Es.d, Es.len, Ic.d, dItR1, startD, List.replicate_succ, fin, wB1, stW]
    refine ⟨by omega, ?_⟩
    refine for_inv (fun i ds h' => h' = h ∧ ∃ w2 w3, ds = [some (.d (coD co)), some (.own (rowsL (co.cs.take i))), w2, w3]) _ (fun i y ds h' En hy hI e1 e2 e3 hn hc => ?_) ⟨rfl, _, _, rfl⟩ fun ds h' hI => ?_
    · obtain ⟨rfl, w2, w3, rfl⟩ := hI
      obtain ⟨rfl, hi⟩ := rng_get hy
      have e0 : (0 : Int) + (i : Int) = (i : Int) := by omega
      rw [put_nm, e0]
      have kx := ok.cx _ (cxA_mem hi)
      have hf := kx.few
      have ix := ix_cs hi
      simp [dItR1, ix]
      refine ⟨by omega, ?_⟩
      refine for_inv (fun k ds h2 => h2 = h' ∧ ∃ w3, ds = [some (.d (coD co)), some (.own (rowsL (co.cs.take i) ++ rowsX i ((cxA co i).take k))), some (.d (.int i)), w3]) _ (fun k y ds h2 En2 hy hI e1' e2' e3' hn2 hc2 => ?_) ⟨rfl, w3, by simp [rowsX]⟩ fun ds h2 hI => ?_
      · obtain ⟨rfl, w3, rfl⟩ := hI
        obtain ⟨rfl, hk⟩ := rng_get hy
        have e0 : (0 : Int) + (k : Int) = (k : Int) := by omega
        rw [put_nm, e0]
        have ix2 := ix_cx hk
        simp [dApp, ix, ix2]
        have l1 := rowsL_len ok i (by omega)
        have l2 : (rowsX i ((cxA co i).take k)).length ≤ 26 := by rw [rowsX_len, List.length_take]; omega
        refine ⟨by simp only [sl24']; omega, by simp only [sl24']; omega, ?_⟩
        have := hn2 [some (.d (coD co)), some (.own (rowsL (co.cs.take i) ++ rowsX i ((cxA co i).take (k + 1)))), some (.d (.int i)), some (.d (.int k))] h2 ⟨rfl, _, rfl⟩
        rw [rowsX_take hk] at this
        generalize (cxA co i)[k] = e at this ⊢
        simp [wBin, CO.enD]
        first
          | (refine ⟨by simp [sl24'], ?_⟩; simpa [rowD] using this)
          | simpa [rowD] using this
      · obtain ⟨rfl, w3, rfl⟩ := hI
        have := hn [some (.d (coD co)), some (.own (rowsL (co.cs.take (i + 1)))), some (.d (.int i)), w3] h2 ⟨rfl, _, _, rfl⟩
        rw [rowsL_take hi, cxA_get hi] at this
        simpa using this
    · obtain ⟨rfl, w2, w3, rfl⟩ := hI
      simp [dFrz]
      simpa using q
def spSame : FnD := fun xs h P _ => match xs with
  | [c, d] => ∃ co, c = coD co ∧ d = coD co ∧ co.ok ∧ co.cb 1000 ∧ P (.bl true) h
  | _ => False
theorem k_law_is_same {F : Fns} (f1 : F.f 35 = spFault) : Kp M F m_law_is_same 2 spSame := by
  intro xs h Q Z q0
  match xs, q0 with
  | [c, d], ⟨co, hc, hd, ok, cb, q⟩ =>
    subst hc hd
    simp [m_law_is_same, Ss.d, S.d, E.d, E.t, Es.d, Es.len, startD, fin, f1]
    refine ⟨co, rfl, ok, cb, ?_⟩
    simp
    refine repr2 (bd_co ok cb) (by decide) (by decide) fun s => eqS ?_
    simpa using q
end K
set_option maxHeartbeats 4000000
set_option exponentiation.threshold 2000
namespace K
open PySem DL DP CO
theorem okA_s {s : Str} (h : isL s = true) : okA (.str s) = true := by
  have h1 := isL_strOk h
  have h2 : s.cps.size = 1 := by simp only [CO.isL, Bool.and_eq_true, decide_eq_true_eq] at h; exact h.1
  simp [okA, h1, h2]
theorem okA_dv : ∀ s ∈ (["fine", "coarse"] : List Str), okA (.str s) = true := by decide +kernel
theorem okA_mn : ∀ s ∈ (["plain", "pending", "cut", "late"] : List Str), okA (.str s) = true := by decide +kernel
theorem c_div {co : Co} {p : Str} {h : Hs} {P : D → Hs → Prop} {Z : XD} (hp : p ∈ (["fine", "coarse"] : List Str)) (q : P (coD { co with dv := p }) h) : spTop wDiv [coD co, .str p] h P Z := by
  have e : isDiv (.str p) = true := by simpa [isDiv] using hp
  refine ⟨co, rfl, okA_dv p hp, ?_⟩
  unfold wDiv outC
  rw [if_pos e]
  exact q
theorem c_man {co : Co} {p : Str} {h : Hs} {P : D → Hs → Prop} {Z : XD} (hp : p ∈ (["plain", "pending", "cut", "late"] : List Str)) (q : P (coD { co with mn := p }) h) : spTop wMan [coD co, .str p] h P Z := by
  have e : isMan (.str p) = true := by simpa [isMan] using hp
  refine ⟨co, rfl, okA_mn p hp, ?_⟩
  unfold wMan outC
  rw [if_pos e]
  exact q
theorem c_size {co : Co} {z : Int} {h : Hs} {P : D → Hs → Prop} {Z : XD} (h0 : 2 ≤ z) (h1 : z ≤ 5) (q : P (coD { co with z := z }) h) : spTop wSize [coD co, .int z] h P Z := by
  have e : isSz (.int z) = true := by simp [isSz, h0, h1]
  refine ⟨co, rfl, rfl, ?_⟩
  unfold wSize outC
  rw [if_pos e]
  exact q
theorem hasL_in {es : List En} {s : Str} (h : isL s = true) (hm : s ∈ es.map (·.l)) : hasL es (.str s) = true := by
  unfold hasL
  simp only [isLet, h, strOf]
  simpa using hm
theorem hasL_no {es : List En} {s : Str} (hm : s ∉ es.map (·.l)) : hasL es (.str s) = false := by
  have e : decide (strOf (.str s) ∈ es.map (·.l)) = false := decide_eq_false hm
  unfold hasL
  rw [e, Bool.and_false]
theorem c_cnt {co : Co} {a : Nat} {s : Str} {n : Int} {h : Hs} {P : D → Hs → Prop} {Z : XD} (ok : co.ok) (ha : a < co.cs.length) (hs : isL s = true) (hm : s ∈ (cxA co a).map (·.l)) (hn : 0 < n) (q : P (coD (setX co a ((cxA co a).map (cntE s n)))) h) : spCnt [coD co, .int a, .str s, .int n] h P Z := by
  have e1 := hasL_in hs hm
  have e2 : isCnt (.int n) = true := by simpa [isCnt] using hn
  refine ⟨co, rfl, ok, rfl, okA_s hs, rfl, ?_⟩
  unfold wCount
  rw [idx_nat ha]
  simp only [e1, e2, if_true, outC, strOf, intOf]
  exact q
theorem c_ent {co : Co} {a j : Nat} {e : En} {x : D} {h : Hs} {P : D → Hs → Prop} {Z : XD} (ok : co.ok) (ha : a < co.cs.length) (he : enOk co.cs.length e) (hm : e.l ∉ (cxA co a).map (·.l)) (hj : j ≤ (cxA co a).length) (hx : x = .int j ∨ x = .non ∧ j = (cxA co a).length) (q : P (coD (setX co a ((cxA co a).take j ++ e :: (cxA co a).drop j))) h) : spEnt [coD co, .int a, CO.enD e, x] h P Z := by
  have hf : fits co (cxA co a) (CO.enD e) = true := by
    have h1 := enD_ent he
    have h2 := hasL_no hm
    unfold CO.enD at h1 ⊢
    cases hn : e.n with
    | none => rw [hn] at h1; simp only [nxD] at h1; simp [fits, nxD, h1, h2]
    | some k =>
      have := he.2.2 k hn
      rw [hn] at h1
      simp only [nxD] at h1
      simp [fits, nxD, h1, h2, intOf]
      omega
  have hs : spot (cxA co a) x = some j := by
    rcases hx with rfl | ⟨rfl, rfl⟩
    · show (if 0 ≤ (j : Int) ∧ (j : Int) ≤ (cxA co a).length then some (j : Int).toNat else none) = some j
      rw [if_pos ⟨by omega, by omega⟩]; rfl
    · rfl
  have eo : enOf (CO.enD e) = e := by
    obtain ⟨l, c, n⟩ := e
    cases n <;> simp [enOf, CO.enD, strOf, intOf, natOf, nxD]
  refine ⟨co, rfl, ok, rfl, okA_en he.1, ?_, ?_⟩
  · rcases hx with rfl | ⟨rfl, _⟩ <;> rfl
  unfold wEntry
  rw [idx_nat ha]
  simp only [hf, hs, if_true, outC, eo]
  exact q
theorem c_wo {co : Co} {a : Nat} {s : Str} {h : Hs} {P : D → Hs → Prop} {Z : XD} (ok : co.ok) (ha : a < co.cs.length) (hs : isL s = true) (hm : s ∈ (cxA co a).map (·.l)) (h2 : 2 < (cxA co a).length) (q : P (coD (setX co a ((cxA co a).filter fun e => !decide (e.l = s)))) h) : spWo [coD co, .int a, .str s] h P Z := by
  have e1 := hasL_in hs hm
  refine ⟨co, rfl, ok, rfl, okA_s hs, ?_⟩
  unfold woEntry
  rw [idx_nat ha]
  simp only [e1, h2, and_self, if_true, outC, strOf]
  exact q
theorem c_swap {co : Co} {a j : Nat} {h : Hs} {P : D → Hs → Prop} {Z : XD} (ok : co.ok) (ha : a < co.cs.length) (hj : j + 1 < (cxA co a).length) (q : P (coD (setX co a (swapE (cxA co a) j))) h) : spSwap [coD co, .int a, .int j] h P Z := by
  refine ⟨co, rfl, ok, rfl, rfl, ?_⟩
  unfold wSwap
  rw [idx_nat ha]
  have e : isNum (.int (j : Int)) = true ∧ intOf (.int (j : Int)) + 1 < (cxA co a).length := ⟨by simp [isNum], by show (j : Int) + 1 < _; omega⟩
  simp only [e, and_self, if_true, outC]
  exact q
theorem c_scale {co : Co} {t : Int} {h : Hs} {P : D → Hs → Prop} {Z : XD} (ok : co.ok) (cb : co.cb 1000) (t0 : 0 < t) (t1 : t < 2 ^ 1000) (q : P (coD { co with cs := co.cs.map fun es => es.map (mulE t) }) h) : spScale [coD co, .int t] h P Z := by
  have e : isCnt (.int t) = true := by simpa [isCnt] using t0
  refine ⟨co, rfl, ok, cb, rfl, t1, ?_⟩
  unfold wScale outC
  rw [if_pos e]
  exact q
theorem c_same {co : Co} {h : Hs} {P : D → Hs → Prop} {Z : XD} (ok : co.ok) (cb : co.cb 1000) (q : P (.bl true) h) : spSame [coD co, coD co] h P Z := ⟨co, rfl, rfl, ok, cb, q⟩
theorem c_rows {co : Co} {h : Hs} {P : D → Hs → Prop} {Z : XD} (ok : co.ok) (q : P (.lst (rowsL co.cs)) h) : spRows [coD co] h P Z := ⟨co, rfl, ok, q⟩
theorem bd_row {m i k : Nat} {e : En} (h : enOk m e) (hm : m ≤ 10) (h1 : e.c < 2 ^ 1000) (hi : i < 100) (hk : k < 100) : Bd 1300 1 (rowD i k e) :=
  (Bds.cons (bd_int64 (i := (i : Int)) (by omega) (by omega)) (Bds.cons (bd_int64 (i := (k : Int)) (by omega) (by omega)) (Bds.cons (bd_l h.1) (Bds.cons (bd_pos h.2.1 h1) (Bds.cons (bd_nx fun k e => by have := h.2.2 k e; omega) (Bds.nil (d := 0))))))).tup.mono
theorem bd_rows {co : Co} (ok : co.ok) (cb : co.cb 1000) : Bd 340000 2 (.lst (rowsL co.cs)) := by
  have := (Bds.all (n := 1300) (d := 1) (xs := rowsL co.cs) fun x hx => by
    obtain ⟨i, hi, k, hk, rfl⟩ := rowsL_mem hx
    have kx := ok.cx _ (List.getElem_mem hi)
    have := kx.few
    have := ok.c1
    exact bd_row (kx.en _ (List.getElem_mem hk)) ok.c1 (cb _ (List.getElem_mem hi) _ (List.getElem_mem hk)) (by omega) (by omega)).lst
  refine this.mono ?_
  have l := rowsL_len ok co.cs.length (Nat.le_refl _)
  rw [List.take_length] at l
  have := ok.c1
  have : (rowsL co.cs).length * (1300 + 2) ≤ 260 * 1302 := Nat.mul_le_mul_right _ (by omega)
  omega
end K
set_option maxHeartbeats 4000000
set_option exponentiation.threshold 2000
namespace K
open PySem DL DP CO
/-- a law's test: the source stays one, the answer is True -/
def spParts : FnD := fun xs h P _ => match xs with
  | [.ref 0, c, .int i, .int k] => ∃ (co : Co) (a b n : Nat), c = coD co ∧ coT co ∧ i = a ∧ k = b ∧ a < co.cs.length ∧ b < (cxA co a).length ∧ SH n h ∧ n ≤ 700000 ∧ ∀ h', SH (n + 10) h' → P (.bl true) h'
  | _ => False
/-- a row with another count -/
def newC (a b : Nat) (n : Int) : D → D
  | .tup [.int i, .int k, l, c, x] => .tup [.int i, .int k, l, if i = a ∧ k = b then .int n else c, x]
  | x => x
theorem rows_cnt {co : Co} {a b : Nat} {n : Int} (ok : co.ok) (ha : a < co.cs.length) (hb : b < (cxA co a).length) : rowsL (setX co a ((cxA co a).map (cntE (cxA co a)[b].l n))).cs = (rowsL co.cs).map (newC a b n) := by
  have kx := ok.cx _ (cxA_mem ha)
  refine rowsL_set ha (rowsX_ext (by simp) fun k h1 h2 => ?_) fun i hi j e => ?_
  · rw [List.getElem_map]
    simp only [rowD, newC, cntE]
    by_cases hk : (cxA co a)[k].l = (cxA co a)[b].l
    · have := nd_idx kx.nd h1 hb hk
      subst this
      simp
    · have : ¬ k = b := fun e => hk (by subst e; rfl)
      have h3 : ¬ (k : Int) = b := by omega
      simp [hk, h3]
  · simp only [rowD, newC]
    have h3 : ¬ (i : Int) = a := by omega
    simp [h3]
theorem okz {co : Co} {z : Int} (ok : co.ok) (h0 : 2 ≤ z) (h1 : z ≤ 5) : ({ co with z := z } : Co).ok := ⟨h0, h1, ok.c0, ok.c1, ok.cx, ok.dv, ok.mn⟩
theorem cnt_co {co : Co} {a : Nat} {s : Str} {n : Int} (ok : co.ok) (cb : co.cb 1000) (ha : a < co.cs.length) (n0 : 0 < n) (n1 : n < 2 ^ 1000) : (setX co a ((cxA co a).map (cntE s n))).ok ∧ (setX co a ((cxA co a).map (cntE s n))).cb 1000 := by
  refine ⟨setX_ok ok ha (cnt_ok (ok.cx _ (cxA_mem ha)) n0), setX_cb cb fun e he => ?_⟩
  obtain ⟨f, hf, rfl⟩ := List.mem_map.mp he
  show (if f.l = s then n else f.c) < 2 ^ 1000
  split
  · exact n1
  · exact cb _ (cxA_mem ha) f hf
section
variable {F : Fns} (f2 : F.f 12 = spTop wSize) (f3 : F.f 13 = spTop wDiv) (f4 : F.f 14 = spTop wMan) (f5 : F.f 19 = spCnt) (f6 : F.f 36 = spRows) (f7 : F.f 37 = spSame)
include f2 f5 f7 in
theorem parts_T4 {co : Co} {a b : Nat} {e : En} {z n : Int} {w0 w6 w7 w9 w11 w12 w13 w14 w15 : Option W} {h : Hs} {E' : DEnds} (ok : co.ok) (cb : co.cb 1000) (ha : a < co.cs.length) (hb : b < (cxA co a).length) (he : e = (cxA co a)[b]) (z0 : 2 ≤ z) (z1 : z ≤ 5) (n0 : 0 < n) (n1 : n < 2 ^ 1000) (q : E'.rt (.bl true) h) :
    m_law_are_parts_right_T4.d M F [w0, some (.d (coD co)), some (.d (.int a)), some (.d (.int b)), some (.d (CO.enD e)), some (.d (.int z)), w6, w7, some (.d (.int n)), w9, some (.d (coD co)), w11, w12, w13, w14, w15] h E' := by
  have kx := ok.cx _ (cxA_mem ha)
  have hl : isL e.l = true := by rw [he]; exact (kx.en _ (List.getElem_mem hb)).1
  have hm : e.l ∈ (cxA co a).map (·.l) := by rw [he]; exact List.mem_map.mpr ⟨_, List.getElem_mem hb, rfl⟩
  simp [m_law_are_parts_right_T4, Ss.d, S.d, E.d, E.t, Es.d, Es.len, f2, f5, f7]
  refine c_cnt ok ha hl hm n0 (c_size z0 z1 ?_)
  refine c_size z0 z1 (c_cnt (okz ok z0 z1) ha hl hm n0 ?_)
  refine c_same ok cb ?_
  obtain ⟨o1, c1⟩ := cnt_co (s := e.l) (okz ok z0 z1) cb ha n0 n1
  exact .inr ⟨rfl, c_same o1 c1 q⟩
theorem eq2 {i k a b : Nat} {Q : W → Prop} (hi : i < 100) (hk : k < 100) (ha : a < 100) (hb : b < 100) (q : Q (.d (.bl (decide ((i : Int) = a ∧ (k : Int) = b))))) : wCmp .eq (.d (.tup [.int i, .int k])) (.d (.tup [.int a, .int b])) Q := by
  have b1 : Bd 141 1 (.tup [.int (i : Int), .int (k : Int)]) := (Bds.cons (bd_int64 (by omega) (by omega)) (Bds.cons (bd_int64 (by omega) (by omega)) (Bds.nil (d := 0)))).tup.mono
  have b2 : Bd 141 1 (.tup [.int (a : Int), .int (b : Int)]) := (Bds.cons (bd_int64 (by omega) (by omega)) (Bds.cons (bd_int64 (by omega) (by omega)) (Bds.nil (d := 0)))).tup.mono
  refine eqT (data_bd b1 b2 (by omega) (by omega) ?_)
  have e : PyData.eqv (pyD (.tup [.int (i : Int), .int (k : Int)])) (pyD (.tup [.int (a : Int), .int (b : Int)])) = decide ((i : Int) = a ∧ (k : Int) = b) := by
    simp [pyD, pyDs, PyData.eqv, PyData.eqvAll]
    by_cases h1 : (i : Int) = a <;> by_cases h2 : (k : Int) = b <;> simp_all
  simp only [e, Bool.false_eq_true, if_false]
  exact q
theorem cut2 {α : Type} {xs : List α} : cutD xs none (some 2) = xs.take 2 := cutD_take (k := 2)
theorem cut3 {α : Type} {xs : List α} : cutD xs none (some 3) = xs.take 3 := cutD_take (k := 3)
@[simp] theorem at4 {α : Type} {a b c d e : α} {xs : List α} : L2.atI (a :: b :: c :: d :: e :: xs) 4 = some e := atI_n (k := 4) (by simp)
include f2 f5 f6 f7 in
theorem parts_T3 {co : Co} {a b : Nat} {e : En} {z n : Int} {w0 w6 w7 w9 w11 w12 w13 w14 w15 : Option W} {h : Hs} {E' : DEnds} (ok : co.ok) (cb : co.cb 1000) (ha : a < co.cs.length) (hb : b < (cxA co a).length) (he : e = (cxA co a)[b]) (z0 : 2 ≤ z) (z1 : z ≤ 5) (n0 : 0 < n) (n1 : n < 2 ^ 1000) (q : E'.rt (.bl true) h) :
    m_law_are_parts_right_T3.d M F [w0, some (.d (coD co)), some (.d (.int a)), some (.d (.int b)), some (.d (CO.enD e)), some (.d (.int z)), w6, w7, some (.d (.int n)), w9, some (.d (coD co)), w11, w12, w13, w14, w15] h E' := by
  have kx := ok.cx _ (cxA_mem ha)
  have hf := kx.few
  have hl : isL e.l = true := by rw [he]; exact (kx.en _ (List.getElem_mem hb)).1
  have hm : e.l ∈ (cxA co a).map (·.l) := by rw [he]; exact List.mem_map.mpr ⟨_, List.getElem_mem hb, rfl⟩
  have e0 : 0 < e.c := by rw [he]; exact (kx.en _ (List.getElem_mem hb)).2.1
  obtain ⟨o1, c1⟩ := cnt_co (s := e.l) ok cb ha n0 n1
  have t4 := fun w11 w12 w15 => parts_T4 f2 f5 f7 (w0 := w0) (w6 := w6) (w7 := w7) (w9 := w9) (w11 := w11) (w12 := w12) (w13 := w13) (w14 := w14) (w15 := w15) (h := h) (E' := E') ok cb ha hb he z0 z1 n0 n1 q
  unfold m_law_are_parts_right_T3
  generalize m_law_are_parts_right_T4 = t4' at t4 ⊢
  simp [Ss.d, S.d, E.d, E.t, Es.d, Es.len, Ic.d, Oe.t, f5, f6, f7, dLc, dItL]
  refine c_cnt ok ha hl hm n0 ?_
  refine c_rows ok ?_
  simp
  refine lc_map (newC a b n) _ [] (fun x hx Kp kp => ?_) (by have := rowsL_len ok co.cs.length (Nat.le_refl _); rw [List.take_length] at this; have := ok.c1; simp [sl24']; omega) ?_
  · obtain ⟨i, hi, k, hk, rfl⟩ := rowsL_mem hx
    have := ok.c1
    have k2 := (ok.cx _ (List.getElem_mem hi)).few
    generalize co.cs[i][k] = e2 at kp ⊢
    have kp : Kp (.tup [.int i, .int k, .str e2.l, if (i : Int) = a ∧ (k : Int) = b then .int n else .int e2.c, nxD e2.n]) h := kp
    simp [Tg.put, wipeD, Oe.d, dSl, dNo, dPart, wSl, seqW, lstW, tupW, rowD, cut2, cut3, E.d, wIx, wBin]
    refine ⟨by simp [sl24'], eq2 (by omega) (by omega) (by omega) (by omega) ?_⟩
    by_cases h2 : (i : Int) = a ∧ (k : Int) = b
    · rw [if_pos h2] at kp
      refine .inr ⟨by rw [decide_eq_true h2], ?_⟩
      simp [sl24']
      first | exact kp | exact ⟨by simp [sl24'], _, rfl, kp⟩
    · rw [if_neg h2] at kp
      refine .inl ⟨by rw [decide_eq_false h2], ?_⟩
      simp [sl24']
      first | exact kp | exact ⟨by simp [sl24'], _, rfl, kp⟩
  · refine c_rows o1 ?_
    have er : rowsL (setX co a ((cxA co a).map (cntE e.l n))).cs = (rowsL co.cs).map (newC a b n) := by rw [he]; exact rows_cnt ok ha hb
    rw [List.nil_append, ← er]
    refine repr2 (bd_rows o1 c1) (by decide) (by decide) fun s => neS (.inl ⟨rfl, ?_⟩)
    refine c_cnt o1 (by rw [setX_len ha]; exact ha) hl (by rw [cxA_set ha, cnt_l]; exact hm) e0 ?_
    have eb : setX (setX co a ((cxA co a).map (cntE e.l n))) a ((cxA (setX co a ((cxA co a).map (cntE e.l n))) a).map (cntE e.l e.c)) = co := by
      rw [cxA_set ha, setX_set ha, cnt_cnt, he, cnt_id kx.nd hb, setX_id ha]
    rw [eb]
    exact c_same ok cb (.inr ⟨rfl, t4 _ _ _⟩)
include f2 f3 f4 f5 f6 f7 in
theorem parts_T2 {co : Co} {a b : Nat} {e : En} {z n : Int} {p hb' : Str} {w0 w6 w7 w10 w11 w12 w13 w14 w15 : Option W} {h : Hs} {E' : DEnds} (ok : co.ok) (cb : co.cb 1000) (ha : a < co.cs.length) (hb : b < (cxA co a).length) (he : e = (cxA co a)[b]) (z0 : 2 ≤ z) (z1 : z ≤ 5) (n0 : 0 < n) (n1 : n < 2 ^ 1000) (q : E'.rt (.bl true) h) :
    m_law_are_parts_right_T2.d M F [w0, some (.d (coD co)), some (.d (.int a)), some (.d (.int b)), some (.d (CO.enD e)), some (.d (.int z)), w6, w7, some (.d (.int n)), some (.d (coD { co with z := z, dv := p, mn := hb' })), w10, w11, w12, w13, w14, w15] h E' := by
  have t3 := fun w9 w11 w12 w15 => parts_T3 f2 f5 f6 f7 (w0 := w0) (w6 := w6) (w7 := w7) (w9 := w9) (w11 := w11) (w12 := w12) (w13 := w13) (w14 := w14) (w15 := w15) (h := h) (E' := E') ok cb ha hb he z0 z1 n0 n1 q
  unfold m_law_are_parts_right_T2
  generalize m_law_are_parts_right_T3 = t3' at t3 ⊢
  simp [Ss.d, S.d, E.d, E.t, Es.d, Es.len, f2, f3, f4]
  refine c_man ok.mn (c_size ok.z0 ok.z1 (c_div ok.dv ?_))
  exact t3 _ _ _ _
include f2 f3 f4 f5 f6 f7 in
theorem parts_T1 {co : Co} {a b : Nat} {e : En} {z n : Int} {p hb' : Str} {w0 w9 w10 w11 w12 w13 w14 w15 : Option W} {h : Hs} {E' : DEnds} (ok : co.ok) (cb : co.cb 1000) (ha : a < co.cs.length) (hb : b < (cxA co a).length) (he : e = (cxA co a)[b]) (z0 : 2 ≤ z) (z1 : z ≤ 5) (n0 : 0 < n) (n1 : n < 2 ^ 1000) (hp : p ∈ (["fine", "coarse"] : List Str)) (hh : hb' ∈ (["plain", "pending", "cut", "late"] : List Str)) (q : E'.rt (.bl true) h) :
    m_law_are_parts_right_T1.d M F [w0, some (.d (coD co)), some (.d (.int a)), some (.d (.int b)), some (.d (CO.enD e)), some (.d (.int z)), some (.d (.str p)), some (.d (.str hb')), some (.d (.int n)), w9, w10, w11, w12, w13, w14, w15] h E' := by
  have t2 := fun w10 w11 w12 w15 => parts_T2 f2 f3 f4 f5 f6 f7 (w0 := w0) (w6 := some (.d (.str p))) (w7 := some (.d (.str hb'))) (w10 := w10) (w11 := w11) (w12 := w12) (w13 := w13) (w14 := w14) (w15 := w15) (p := p) (hb' := hb') (h := h) (E' := E') ok cb ha hb he z0 z1 n0 n1 q
  have o9 : ({ co with z := z, dv := p, mn := hb' } : Co).ok := ⟨z0, z1, ok.c0, ok.c1, ok.cx, hp, hh⟩
  unfold m_law_are_parts_right_T1
  generalize m_law_are_parts_right_T2 = t2' at t2 ⊢
  simp [Ss.d, S.d, E.d, E.t, Es.d, Es.len, f2, f3, f4]
  refine c_div hp (c_man hh (c_size z0 z1 ?_))
  simp [sz4]
  refine repr2 (x := coD { co with z := z, dv := p, mn := hb' }) (bd_co o9 cb) (by decide) (by decide) fun s => neS (.inl ⟨rfl, ?_⟩)
  exact t2 _ _ _ _
end
theorem k_law_are_parts_right {F : Fns} (f0 : F.f 28 = spDraw) (f1 : F.f 29 = spPick) (f2 : F.f 12 = spTop wSize) (f3 : F.f 13 = spTop wDiv) (f4 : F.f 14 = spTop wMan) (f5 : F.f 19 = spCnt) (f6 : F.f 36 = spRows) (f7 : F.f 37 = spSame) : Kp M F m_law_are_parts_right 16 spParts := by
  intro xs h Q Z q0
  match xs, q0 with
  | [.ref 0, c, .int i, .int k], ⟨co, a, b, n, hc, ct, hi, hk, ha, hb, hs, hn, q⟩ =>
    subst hc hi hk
    have ok := ct.ok
    have kx := ok.cx _ (cxA_mem ha)
    have cb := cb_mono ct.cb (show 134 ≤ 1000 by decide)
    have pw : L2.CPow 10 30 := ⟨by decide, by decide, by decide⟩
    have t1 := fun (z m : Int) (p u : Str) (w9 : Option W) (h' : Hs) => parts_T1 f2 f3 f4 f5 f6 f7 (e := (cxA co a)[b]) (z := z) (n := m) (p := p) (hb' := u) (w0 := some (.d (.ref 0))) (w9 := w9) (w10 := none) (w11 := none) (w12 := none) (w13 := none) (w14 := none) (w15 := none) (h := h') (E' := fin Q Z) ok cb ha hb rfl
    unfold m_law_are_parts_right
    generalize m_law_are_parts_right_T1 = t1' at t1 ⊢
    simp [Ss.d, S.d, E.d, E.t, Es.d, Es.len, startD, List.replicate_succ, f0, f1, ix_cs ha, ix_cx hb, dPar2, wBin, wInt, stW, pw]
    refine ⟨n, hs, by omega, by decide, by decide, fun r h1 r0 r1 s1 => ?_⟩
    refine ⟨by decide, n + 1, s1, by omega, by decide, by decide, fun p h2 hp s2 => ?_⟩
    obtain ⟨p, rfl, hp2⟩ : ∃ s, p = .str s ∧ s ∈ (["fine", "coarse"] : List Str) := by
      simp at hp
      rcases hp with rfl | rfl
      · exact ⟨_, rfl, by simp⟩
      · exact ⟨_, rfl, by simp⟩
    refine ⟨by decide, n + 2, s2, by omega, by decide, by decide, fun u h3 hu s3 => ?_⟩
    obtain ⟨u, rfl, hu2⟩ : ∃ s, u = .str s ∧ s ∈ (["plain", "pending", "cut", "late"] : List Str) := by
      simp at hu
      rcases hu with rfl | rfl | rfl | rfl <;> exact ⟨_, rfl, by simp⟩
    refine ⟨by decide, n + 3, s3, by omega, by decide, by decide, fun m h4 hm s4 => ?_⟩
    obtain ⟨m, rfl, m0, m1⟩ : ∃ i, m = .int i ∧ 0 < i ∧ i < 2 ^ 1000 := by
      simp at hm
      rcases hm with rfl | rfl | rfl | rfl
      · exact ⟨_, rfl, by decide, by decide⟩
      · exact ⟨_, rfl, by decide, by decide⟩
      · exact ⟨_, rfl, by decide, by decide⟩
      · exact ⟨_, rfl, by decide, by decide⟩
    refine ⟨by decide, rfl, ?_⟩
    exact t1 (2 + r) m p u _ h4 (by omega) (by omega) m0 m1 hp2 hu2 (q h4 (s4.mono (by omega)))
end K
set_option maxHeartbeats 4000000
set_option exponentiation.threshold 2000
namespace K
open PySem DL DP CO
@[simp] theorem sl_cx {es : List En} {lo hi : Option Int} : wSl (W.d (cxD es)) lo hi = fun Q => Q (.d (.tup (cutD (es.map CO.enD) lo hi))) := rfl
theorem b1_len : wB1 B1.len = wLen := rfl
theorem ix_set {co : Co} {a : Nat} {X : List En} (ha : a < co.cs.length) : wIx (.d (.tup ((setX co a X).cs.map cxD))) (.d (.int a)) = fun Q => Q (.d (cxD X)) := by
  rw [ix_cs (by rw [setX_len ha]; exact ha), cxA_set ha]
theorem put_co {co : Co} {a j : Nat} {e : En} (ok : co.ok) (cb : co.cb 1000) (ha : a < co.cs.length) (he : enOk co.cs.length e) (h1 : e.c < 2 ^ 1000) (hn : e.l ∉ (cxA co a).map (·.l)) : (setX co a ((cxA co a).take j ++ e :: (cxA co a).drop j)).ok ∧ (setX co a ((cxA co a).take j ++ e :: (cxA co a).drop j)).cb 1000 ∧ cxOk co.cs.length ((cxA co a).take j ++ e :: (cxA co a).drop j) ∧ (∀ x ∈ (cxA co a).take j ++ e :: (cxA co a).drop j, x.c < 2 ^ 1000) := by
  have o := put_ok (j := j) (ok.cx _ (cxA_mem ha)) he (fun x hx e2 => hn (List.mem_map.mpr ⟨x, hx, e2⟩))
  have cc : ∀ x ∈ (cxA co a).take j ++ e :: (cxA co a).drop j, x.c < 2 ^ 1000 := fun x hx => by
    rcases List.mem_cons.mp ((put_perm (es := cxA co a) (e := e) (j := j)).mem_iff.mp hx) with rfl | hx
    · exact h1
    · exact cb _ (cxA_mem ha) x hx
  exact ⟨setX_ok ok ha o, setX_cb cb cc, o, cc⟩
section
variable {F : Fns} (f0 : F.f 28 = spDraw) (f5 : F.f 21 = spEnt) (f6 : F.f 22 = spWo) (f7 : F.f 37 = spSame) (f8 : F.f 23 = spSwap)
include f7 f8 in
theorem ents_T6 {co : Co} {a b j : Nat} {w0 w3 w4 w5 w6 w7 w8 : Option W} {h : Hs} {E' : DEnds} (ok : co.ok) (cb : co.cb 1000) (ha : a < co.cs.length) (hj : j + 1 < (cxA co a).length) (q : E'.rt (.bl true) h) :
    m_law_are_entries_right_T6.d M F [w0, some (.d (coD co)), some (.d (.int a)), w3, w4, w5, w6, w7, w8, some (.d (.int j)), some (.d (coD (setX co a (swapE (cxA co a) j))))] h E' := by
  have p := swap_perm (es := cxA co a) (j := j)
  have o := perm_ok (ok.cx _ (cxA_mem ha)) p
  simp [m_law_are_entries_right_T6, Ss.d, S.d, E.d, E.t, Es.d, Es.len, f7, f8]
  refine c_swap (setX_ok ok ha o) (by rw [setX_len ha]; exact ha) (by rw [cxA_set ha, p.length_eq]; exact hj) ?_
  rw [cxA_set ha, setX_set ha, swap_swap hj, setX_id ha]
  exact c_same ok cb q
include f0 f7 f8 in
theorem ents_T5 {co : Co} {a b n : Nat} {w3 w5 w6 w7 w8 w9 w10 : Option W} {h : Hs} {E' : DEnds} (ok : co.ok) (cb : co.cb 1000) (ha : a < co.cs.length) (hs : SH n h) (hn : n ≤ 800000) (q : ∀ h', SH (n + 1) h' → E'.rt (.bl true) h') :
    m_law_are_entries_right_T5.d M F [some (.d (.ref 0)), some (.d (coD co)), some (.d (.int a)), w3, some (.d (cxD (cxA co a))), w5, w6, w7, w8, w9, w10] h E' := by
  have kx := ok.cx _ (cxA_mem ha)
  have hf := kx.few
  have h2 := kx.two
  have t6 := fun j w5 w6 w7 w8 h' (hj : j + 1 < (cxA co a).length) (s : SH (n + 1) h') => ents_T6 f7 f8 (b := b) (w0 := some (.d (.ref 0))) (w3 := w3) (w4 := some (.d (cxD (cxA co a)))) (w5 := w5) (w6 := w6) (w7 := w7) (w8 := w8) (h := h') (E' := E') ok cb ha hj (q h' s)
  unfold m_law_are_entries_right_T5
  generalize m_law_are_entries_right_T6 = t6' at t6 ⊢
  simp [Ss.d, S.d, E.d, E.t, Es.d, Es.len, f0, f8, b1_len, wBin, wInt]
  refine ⟨n, hs, by omega, by omega, by omega, fun r h' r0 r1 s1 => ?_⟩
  obtain ⟨j, rfl⟩ := Int.eq_ofNat_of_zero_le r0
  have hj : j + 1 < (cxA co a).length := by omega
  refine c_swap ok ha hj ?_
  have p := swap_perm (es := cxA co a) (j := j)
  have o := perm_ok kx p
  have cbs : ∀ x ∈ swapE (cxA co a) j, x.c < 2 ^ 1000 := fun x hx => cb _ (cxA_mem ha) x (p.mem_iff.mp hx)
  have i1 := ix_cx (es := cxA co a) (j := j) (by omega)
  have i2 := ix_cx hj
  rw [show ((j + 1 : Nat) : Int) = (j : Int) + 1 by push_cast; rfl] at i2
  simp [ix_set ha, i1, i2, dSl, Oe.d, dNo, dPart, wBin, wInt, E.d]
  refine repr_bd (bd_cx o ok.c1 cbs) (by decide) (by decide) ?_
  rw [cutD_take, cut_dropT]
  refine ⟨by simp [sl24'], by simp [sl24']; omega, by simp [sl24']; omega, ?_⟩
  have et : D.tup (List.take j ((cxA co a).map CO.enD) ++ [CO.enD (cxA co a)[j + 1], CO.enD (cxA co a)[j]] ++ List.drop (j + 2) ((cxA co a).map CO.enD)) = cxD (swapE (cxA co a) j) := by
    rw [swap_at hj]
    simp [cxD, List.map_take, List.map_drop]
  rw [et]
  exact repr_bd (bd_cx o ok.c1 cbs) (by decide) (by decide) (neS (.inl ⟨rfl, t6 j _ _ _ _ h' hj s1⟩))
/-- what k11 knows of the new entry -/
structure frT (co : Co) (a : Nat) (e : En) : Prop where
  ok : enOk co.cs.length e
  c1 : e.c < 2 ^ 1000
  no : e.l ∉ (cxA co a).map (·.l)
  m : e.l = "m"
include f0 f5 f7 f8 in
theorem ents_T4 {co : Co} {a b n : Nat} {e : En} {w3 w5 w7 w8 w9 w10 : Option W} {h : Hs} {E' : DEnds} (ok : co.ok) (cb : co.cb 1000) (ha : a < co.cs.length) (fr : frT co a e) (hs : SH n h) (hn : n ≤ 800000) (q : ∀ h', SH (n + 1) h' → E'.rt (.bl true) h') :
    m_law_are_entries_right_T4.d M F [some (.d (.ref 0)), some (.d (coD co)), some (.d (.int a)), w3, some (.d (cxD (cxA co a))), w5, some (.d (CO.enD e)), w7, w8, w9, w10] h E' := by
  have t5 := ents_T5 f0 f7 f8 (b := b) (w3 := w3) (w5 := w5) (w6 := some (.d (CO.enD e))) (w7 := w7) (w8 := w8) (w9 := w9) (w10 := w10) (E' := E') ok cb ha hs hn q
  obtain ⟨o, c, _⟩ := put_co (j := (cxA co a).length) ok cb ha fr.ok fr.c1 fr.no
  unfold m_law_are_entries_right_T4
  generalize m_law_are_entries_right_T5 = t5' at t5 ⊢
  simp [Ss.d, S.d, E.d, E.t, Es.d, Es.len, f5, f7, b1_len, dCallO, pick, Kq.d]
  refine c_ent ok ha fr.ok fr.no (Nat.le_refl _) (.inr ⟨rfl, rfl⟩) ?_
  refine c_ent ok ha fr.ok fr.no (Nat.le_refl _) (.inl rfl) ?_
  exact c_same o c (.inr ⟨rfl, t5⟩)
include f0 f5 f6 f7 f8 in
theorem ents_T3 {co : Co} {a b n : Nat} {e : En} {w5 w7 w8 w9 w10 : Option W} {h : Hs} {E' : DEnds} (ok : co.ok) (cb : co.cb 1000) (ha : a < co.cs.length) (hb : b < (cxA co a).length) (fr : frT co a e) (hs : SH n h) (hn : n ≤ 800000) (q : ∀ h', SH (n + 1) h' → E'.rt (.bl true) h') :
    m_law_are_entries_right_T3.d M F [some (.d (.ref 0)), some (.d (coD co)), some (.d (.int a)), some (.d (.int b)), some (.d (cxD (cxA co a))), w5, some (.d (CO.enD e)), w7, w8, w9, w10] h E' := by
  have t4 := fun w8 => ents_T4 f0 f5 f7 f8 (b := b) (w3 := some (.d (.int b))) (w5 := w5) (w7 := w7) (w8 := w8) (w9 := w9) (w10 := w10) (E' := E') ok cb ha fr hs hn q
  have kx := ok.cx _ (cxA_mem ha)
  unfold m_law_are_entries_right_T3
  generalize m_law_are_entries_right_T4 = t4' at t4 ⊢
  simp [Ss.d, S.d, E.d, E.t, Es.d, Es.len, f5, f6, f7, b1_len, dCallO, pick, Kq.d, ix_cx hb, wCmp, wLt]
  have he := kx.en _ (List.getElem_mem hb)
  split
  · rename_i h2
    have h2 : 2 < (cxA co a).length := by omega
    refine c_wo ok ha he.1 (List.mem_map.mpr ⟨_, List.getElem_mem hb, rfl⟩) h2 ?_
    have fc := fil_cut kx.nd hb
    have co' := cut_ok kx h2 hb
    have oo := setX_ok ok ha co'
    have nin : (cxA co a)[b].l ∉ ((cxA co a).take b ++ (cxA co a).drop (b + 1)).map (·.l) := by
      rw [← fc]
      intro z
      obtain ⟨x, hx, e2⟩ := List.mem_map.mp z
      have := (List.mem_filter.mp hx).2
      simp at this
      exact this e2
    rw [fc]
    refine c_ent oo (by rw [setX_len ha]; exact ha) (by rw [setX_len ha]; exact he) (by rw [cxA_set ha]; exact nin) (by rw [cxA_set ha]; simp; omega) (.inl rfl) ?_
    rw [cxA_set ha, setX_set ha, put_cut hb, setX_id ha]
    exact c_same ok cb (.inr ⟨rfl, t4 _⟩)
  · exact t4 _
include f0 f5 f6 f7 f8 in
theorem ents_T1 {co : Co} {a b j n : Nat} {e : En} {w7 w8 w9 w10 : Option W} {h : Hs} {E' : DEnds} (ok : co.ok) (cb : co.cb 1000) (ha : a < co.cs.length) (hb : b < (cxA co a).length) (hj : j ≤ (cxA co a).length) (fr : frT co a e) (hs : SH n h) (hn : n ≤ 800000) (q : ∀ h', SH (n + 1) h' → E'.rt (.bl true) h') :
    m_law_are_entries_right_T1.d M F [some (.d (.ref 0)), some (.d (coD co)), some (.d (.int a)), some (.d (.int b)), some (.d (cxD (cxA co a))), some (.d (.int j)), some (.d (CO.enD e)), w7, w8, w9, w10] h E' := by
  have t3 := fun w7 => ents_T3 f0 f5 f6 f7 f8 (w5 := some (.d (.int j))) (w7 := w7) (w8 := w8) (w9 := w9) (w10 := w10) (E' := E') ok cb ha hb fr hs hn q
  have kx := ok.cx _ (cxA_mem ha)
  have hf := kx.few
  obtain ⟨o, c, ox, cx⟩ := put_co (j := j) ok cb ha fr.ok fr.c1 fr.no
  unfold m_law_are_entries_right_T1 m_law_are_entries_right_T2
  generalize m_law_are_entries_right_T3 = t3' at t3 ⊢
  simp [Ss.d, S.d, E.d, E.t, Es.d, Es.len, f5, f6, f7, b1_len, dCallO, pick, Kq.d]
  refine c_ent ok ha fr.ok fr.no hj (.inl rfl) ?_
  simp [ix_set ha, dSl, Oe.d, dNo, dPart, wBin, E.d]
  refine repr_bd (bd_cx ox ok.c1 cx) (by decide) (by decide) ?_
  rw [cutD_take, cutD_drop]
  refine ⟨by simp [sl24'], by simp [sl24']; omega, by simp [sl24']; omega, ?_⟩
  have et : D.tup (List.take j ((cxA co a).map CO.enD) ++ [CO.enD e] ++ List.drop j ((cxA co a).map CO.enD)) = cxD ((cxA co a).take j ++ e :: (cxA co a).drop j) := by
    simp [cxD, List.map_take, List.map_drop]
  rw [et]
  refine repr_bd (bd_cx ox ok.c1 cx) (by decide) (by decide) (neS (.inl ⟨rfl, ?_⟩))
  have em : (Str.ofString "m") = e.l := fr.m.symm
  rw [em]
  refine c_wo o (by rw [setX_len ha]; exact ha) fr.ok.1 (by rw [cxA_set ha]; simp) (by rw [cxA_set ha]; have := kx.two; simp; omega) ?_
  rw [cxA_set ha, setX_set ha, fil_put (fun x hx e2 => fr.no (List.mem_map.mpr ⟨x, hx, e2⟩)), setX_id ha]
  exact c_same ok cb (.inr ⟨rfl, t3 _⟩)
end
theorem m_ok : isL "m" = true ∧ (Str.ofString "m") ∉ alph := by decide +kernel
theorem k_law_are_entries_right {F : Fns} (f0 : F.f 28 = spDraw) (f1 : F.f 29 = spPick) (f5 : F.f 21 = spEnt) (f6 : F.f 22 = spWo) (f7 : F.f 37 = spSame) (f8 : F.f 23 = spSwap) : Kp M F m_law_are_entries_right 11 spParts := by
  intro xs h Q Z q0
  match xs, q0 with
  | [.ref 0, c, .int i, .int k], ⟨co, a, b, n, hc, ct, hi, hk, ha, hb, hs, hn, q⟩ =>
    subst hc hi hk
    have ok := ct.ok
    have kx := ok.cx _ (cxA_mem ha)
    have hf := kx.few
    have ctx := ct.cx _ (cxA_mem ha)
    have cb := cb_mono ct.cb (show 134 ≤ 1000 by decide)
    have no : (Str.ofString "m") ∉ (cxA co a).map (·.l) := fun z => by
      obtain ⟨x, hx, e⟩ := List.mem_map.mp z
      exact m_ok.2 (by rw [← e]; exact (ctx.2.2.1 x hx).1)
    have t1 := fun j e w7 h' (hj : j ≤ (cxA co a).length) fr s => ents_T1 f0 f5 f6 f7 f8 (j := j) (e := e) (n := n + 3) (w7 := w7) (w8 := none) (w9 := none) (w10 := none) (h := h') (E' := fin Q Z) ok cb ha hb hj fr s (by omega) fun h2 s2 => q h2 (s2.mono (by omega))
    unfold m_law_are_entries_right
    generalize m_law_are_entries_right_T1 = t1' at t1 ⊢
    simp [Ss.d, S.d, E.d, E.t, Es.d, Es.len, startD, List.replicate_succ, f0, f1, ix_cs ha, b1_len, wBin, wInt]
    refine ⟨n, hs, by omega, by omega, by omega, fun r h1 r0 r1 s1 => ?_⟩
    obtain ⟨j, rfl⟩ := Int.eq_ofNat_of_zero_le r0
    refine ⟨n + 1, s1, by omega, by decide, by decide, fun r2 h2 r20 r21 s2 => ?_⟩
    refine ⟨by simp [sl24'], n + 2, s2, by omega, by simp, by simp, fun x h3 hx s3 => ⟨by simp [sl24'], ?_⟩⟩
    have ca : a < co.cs.length := ha
    have m1 : (0 : Int) < 1 + r2 ∧ 1 + r2 < 2 ^ 1000 := ⟨by omega, Int.lt_of_lt_of_le (show 1 + r2 < 100 by omega) (by decide)⟩
    simp at hx
    rcases hx with rfl | rfl
    · exact t1 j ⟨"m", 1 + r2, none⟩ none h3 (by omega) ⟨⟨m_ok.1, m1.1, fun k e => by cases e⟩, m1.2, no, rfl⟩ s3
    · exact t1 j ⟨"m", 1 + r2, some a⟩ none h3 (by omega) ⟨⟨m_ok.1, m1.1, fun k e => by cases e; exact ca⟩, m1.2, no, rfl⟩ s3
end K
set_option maxHeartbeats 4000000
set_option exponentiation.threshold 2000
namespace K
open PySem DL DP CO
def scl (co : Co) (t : Int) : Co := { co with cs := co.cs.map fun es => es.map (mulE t) }
theorem scl_ok {co : Co} {t : Int} (ok : co.ok) (t0 : 0 < t) : (scl co t).ok := by
  refine ⟨ok.z0, ok.z1, by simpa [scl] using ok.c0, by simpa [scl] using ok.c1, fun es he => ?_, ok.dv, ok.mn⟩
  obtain ⟨fs, hf, rfl⟩ := List.mem_map.mp he
  have kx := ok.cx fs hf
  have hl : (scl co t).cs.length = co.cs.length := by simp [scl]
  rw [hl]
  refine ⟨by simpa using kx.two, fun e hee => ?_, by rw [List.map_map]; exact kx.nd⟩
  obtain ⟨f, hff, rfl⟩ := List.mem_map.mp hee
  have := kx.en f hff
  exact ⟨this.1, Int.mul_pos this.2.1 t0, this.2.2⟩
theorem scl_cb {co : Co} {t : Int} {b d : Nat} (ok : co.ok) (cb : co.cb b) (t0 : 0 < t) (t1 : t < 2 ^ d) : (scl co t).cb (b + d) := fun es he e hee => by
  obtain ⟨fs, hf, rfl⟩ := List.mem_map.mp he
  obtain ⟨f, hff, rfl⟩ := List.mem_map.mp hee
  have h1 := cb fs hf f hff
  have h0 := ((ok.cx fs hf).en f hff).2.1
  show f.c * t < 2 ^ (b + d)
  rw [Int.pow_add]
  exact Int.lt_of_lt_of_le (Int.mul_lt_mul_of_pos_right h1 t0) (Int.mul_le_mul_of_nonneg_left (Int.le_of_lt t1) (by exact_mod_cast Nat.zero_le _))
theorem scl_scl {co : Co} {t u : Int} : scl (scl co t) u = scl co (t * u) := by
  unfold scl
  simp only [List.map_map]
  congr 1
  refine List.map_congr_left fun es _ => ?_
  simp only [Function.comp, List.map_map]
  refine List.map_congr_left fun e _ => ?_
  simp [mulE, Int.mul_assoc]
def mulD (t : Int) : D → D
  | .tup [i, k, l, .int c, x] => .tup [i, k, l, .int (c * t), x]
  | x => x
theorem rows_scl {co : Co} {t : Int} : rowsL (scl co t).cs = (rowsL co.cs).map (mulD t) := by
  refine rowsL_ext (by simp [scl]) fun i h1 h2 => ?_
  refine rowsX_ext (by simp [scl]) fun k k1 k2 => ?_
  simp [scl, rowD, mulD, mulE]
theorem c_scl {co : Co} {t : Int} {h : Hs} {P : D → Hs → Prop} {Z : XD} (ok : co.ok) (cb : co.cb 1000) (t0 : 0 < t) (t1 : t < 2 ^ 1000) (q : P (coD (scl co t)) h) : spScale [coD co, .int t] h P Z := c_scale ok cb t0 t1 q
section
variable {F : Fns} (f0 : F.f 28 = spDraw) (f1 : F.f 29 = spPick) (f5 : F.f 26 = spScale) (f6 : F.f 36 = spRows) (f7 : F.f 37 = spSame) (f8 : F.f 25 = spRen)
include f5 f6 f7 in
theorem lets_T5 {co : Co} {t u : Int} {w0 w2 w3 w4 w5 w6 w7 w8 w9 w12 w13 w14 : Option W} {h : Hs} {E' : DEnds} (ok : co.ok) (cb : co.cb 134) (t0 : 0 < t) (t1 : t < 2 ^ 10) (u0 : 0 < u) (u1 : u < 2 ^ 70) (q : E'.rt (.bl true) h) :
    m_law_are_letters_right_T5.d M F [w0, some (.d (coD co)), w2, w3, w4, w5, w6, w7, w8, w9, some (.d (.int t)), some (.d (.int u)), w12, w13, w14] h E' := by
  have cb1 := cb_mono cb (show 134 ≤ 1000 by decide)
  have o1 := scl_ok ok t0
  have b1 := scl_cb ok cb t0 t1
  have o2 := scl_ok o1 u0
  have b2 := scl_cb o1 b1 u0 u1
  have b1' := cb_mono b1 (show 134 + 10 ≤ 1000 by decide)
  have b2' := cb_mono b2 (show 134 + 10 + 70 ≤ 1000 by decide)
  have big : ∀ {a b : Nat}, a ≤ b → (2 : Int) ^ a ≤ 2 ^ b := fun l => by exact_mod_cast Nat.pow_le_pow_right (by decide) l
  have t1' : t < 2 ^ 1000 := Int.lt_of_lt_of_le t1 (big (by decide))
  have u1' : u < 2 ^ 1000 := Int.lt_of_lt_of_le u1 (big (by decide))
  have tu0 := Int.mul_pos t0 u0
  have tu1 : t * u < 2 ^ 1000 := by
    have : t * u < 2 ^ (10 + 70) := by
      rw [Int.pow_add]
      exact Int.lt_of_lt_of_le (Int.mul_lt_mul_of_pos_right t1 u0) (Int.mul_le_mul_of_nonneg_left (Int.le_of_lt u1) (by decide))
    exact Int.lt_of_lt_of_le this (big (by decide))
  simp [m_law_are_letters_right_T5, Ss.d, S.d, E.d, E.t, Es.d, Es.len, Ic.d, Oe.t, f5, f6, f7, dLc, dItL]
  refine c_rows ok ?_
  simp
  refine lc_map (mulD (t * u)) _ [] (fun x hx Kp kp => ?_) (by have := rowsL_len ok co.cs.length (Nat.le_refl _); rw [List.take_length] at this; have := ok.c1; simp [sl24']; omega) ?_
  · obtain ⟨i, hi, k, hk, rfl⟩ := rowsL_mem hx
    have e1 := (ok.cx _ (List.getElem_mem hi)).en _ (List.getElem_mem hk)
    have e2 := cb _ (List.getElem_mem hi) _ (List.getElem_mem hk)
    generalize co.cs[i][k] = e at kp e1 e2 ⊢
    have m1 := mul_ok e1.2.1 t0 (Int.lt_of_lt_of_le e2 (big (by decide))) t1'
    have ct : e.c * t < 2 ^ 1000 := by
      have : e.c * t < 2 ^ (134 + 10) := by
        rw [Int.pow_add]
        exact Int.lt_of_lt_of_le (Int.mul_lt_mul_of_pos_right e2 t0) (Int.mul_le_mul_of_nonneg_left (Int.le_of_lt t1) (by decide))
      exact Int.lt_of_lt_of_le this (big (by decide))
    have m2 := mul_ok (Int.mul_pos e1.2.1 t0) u0 ct u1'
    have kp : Kp (.tup [.int i, .int k, .str e.l, .int (e.c * (t * u)), nxD e.n]) h := kp
    rw [← Int.mul_assoc] at kp
    simp [Tg.put, wipeD, Oe.d, dSl, dNo, dPart, wSl, seqW, lstW, tupW, rowD, cut3, E.d, wIx, wBin, wInt, m1, m2, sl24']
    first | exact kp | exact ⟨by simp [sl24'], _, rfl, kp⟩
  · rw [List.nil_append, ← rows_scl]
    refine c_scl ok cb1 t0 t1' (c_scl o1 b1' u0 u1' ?_)
    refine ⟨mul_ok t0 u0 t1' u1', _, rfl, ?_⟩
    refine c_scl ok cb1 tu0 tu1 ?_
    rw [scl_scl] at o2 b2' ⊢
    refine c_same o2 b2' (.inr ⟨rfl, c_rows o2 ?_⟩)
    refine repr2 (bd_rows o2 b2') (by decide) (by decide) fun s => eqS ?_
    exact ⟨_, rfl, q⟩
include f0 f1 f5 f6 f7 in
theorem lets_T4 {co : Co} {n : Nat} {w2 w3 w4 w5 w6 w7 w8 w9 w10 w11 w12 w13 w14 : Option W} {h : Hs} {E' : DEnds} (ok : co.ok) (cb : co.cb 134) (hs : SH n h) (hn : n ≤ 800000) (q : ∀ h', SH (n + 2) h' → E'.rt (.bl true) h') :
    m_law_are_letters_right_T4.d M F [some (.d (.ref 0)), some (.d (coD co)), w2, w3, w4, w5, w6, w7, w8, w9, w10, w11, w12, w13, w14] h E' := by
  have t5 := fun t u h' (t0 : 0 < t) t1 (u0 : 0 < u) u1 s => lets_T5 f5 f6 f7 (t := t) (u := u) (w0 := some (.d (.ref 0))) (w2 := w2) (w3 := w3) (w4 := w4) (w5 := w5) (w6 := w6) (w7 := w7) (w8 := w8) (w9 := w9) (w12 := w12) (w13 := w13) (w14 := w14) (h := h') (E' := E') ok cb t0 t1 u0 u1 (q h' s)
  unfold m_law_are_letters_right_T4
  generalize m_law_are_letters_right_T5 = t5' at t5 ⊢
  have pw : L2.CPow 10 20 := ⟨by decide, by decide, by decide⟩
  simp [Ss.d, S.d, E.d, E.t, Es.d, Es.len, f0, f1, wBin, wInt, pw]
  refine ⟨n, hs, by omega, by decide, by decide, fun r h1 r0 r1 s1 => ?_⟩
  refine ⟨by simp [sl24'], n + 1, s1, by omega, by decide, by decide, fun m h2 hm s2 => ⟨by simp [sl24'], rfl, ?_⟩⟩
  have b1 : (1 : Int) + r < 2 ^ 10 := by omega
  simp at hm
  rcases hm with rfl | rfl | rfl | rfl
  · exact t5 (1 + r) 1 h2 (by omega) b1 (by decide) (by decide) s2
  · exact t5 (1 + r) 2 h2 (by omega) b1 (by decide) (by decide) s2
  · exact t5 (1 + r) 7 h2 (by omega) b1 (by decide) (by decide) s2
  · exact t5 (1 + r) _ h2 (by omega) b1 (by decide) (by decide) s2
end
end K
set_option maxHeartbeats 4000000
set_option exponentiation.threshold 2000
namespace K
open PySem DL DP CO
def rnm (co : Co) (t : List (Str × Str)) : Co := { co with cs := co.cs.map fun es => es.map (renE t) }
def prD (p : Str × Str) : D := .tup [.str p.1, .str p.2]
theorem prOf_prD (p : Str × Str) : prOf (prD p) = p := rfl
theorem c_ren {co : Co} {t : List (Str × Str)} {h : Hs} {P : D → Hs → Prop} {Z : XD} (ok : co.ok) (ht : ∀ p ∈ t, isL p.1 = true ∧ isL p.2 = true) (nd : (t.map (·.1)).Nodup) (hl : t.length ≤ 100) (hn : ∀ es ∈ co.cs, ((es.map (renE t)).map (·.l)).Nodup) (q : ∀ R, P (coD (rnm co t)) (h ++ R)) : spRen [coD co, .tup (t.map prD)] h P Z := by
  have ep : prs (.tup (t.map prD)) = t := by
    simp [prs, Function.comp_def, prOf_prD]
  have ea : arePr (.tup (t.map prD)) = true := by
    have e1 : (t.map prD).all isPr = true := List.all_eq_true.mpr fun x hx => by
      obtain ⟨p, hp, rfl⟩ := List.mem_map.mp hx
      have := ht p hp
      simp [prD, isPr, isLet, this.1, this.2]
    have e2 : (t.map prD).map (fun p => (prOf p).1) = t.map (·.1) := by rw [List.map_map]; rfl
    show ((t.map prD).all isPr && decide (((t.map prD).map fun p => (prOf p).1).Nodup)) = true
    rw [e1, e2, decide_eq_true nd]; rfl
  have eo : okA (.tup (t.map prD)) = true := by
    simp only [okA, Bool.and_eq_true, decide_eq_true_eq, List.length_map]
    refine ⟨by omega, okAs_iff.mpr fun x hx => ?_⟩
    obtain ⟨p, hp, rfl⟩ := List.mem_map.mp hx
    have := ht p hp
    have h1 := okA_s this.1
    have h2 := okA_s this.2
    simp [prD, okA, okAs] at h1 h2 ⊢
    exact ⟨h1, h2⟩
  refine ⟨co, rfl, ok, eo, fun R => ?_⟩
  unfold wRen
  rw [if_pos ea, ep, if_pos hn]
  exact q R
theorem zsw {a b : List Str} : (a.zip b).map (fun p => (p.2, p.1)) = b.zip a := by
  induction a generalizing b with
  | nil => cases b <;> rfl
  | cons x a ih => cases b with
    | nil => rfl
    | cons y b => simp [ih]
theorem SH.app {k : Nat} {h R : Hs} (s : SH k h) : SH k (h ++ R) := by
  obtain ⟨cells, a, b, c, R0, rfl, x⟩ := s
  exact ⟨cells, a, b, c, R0 ++ R, rfl, x⟩
/-- the new letters: eight different ones -/
structure nsT (ns : List Str) : Prop where
  len : ns.length = 8
  nd : ns.Nodup
  ok : ∀ s ∈ ns, isL s = true
theorem zip_fst' {a b : List Str} (h : a.length = b.length) : (a.zip b).map (·.1) = a := DL.zip_fst (by omega)
theorem ns_tab {ns : List Str} (h : nsT ns) : (∀ p ∈ alph.zip ns, isL p.1 = true ∧ isL p.2 = true) ∧ ((alph.zip ns).map (·.1)).Nodup ∧ (alph.zip ns).length ≤ 100 := by
  have al := alph_len
  refine ⟨fun p hp => ?_, by rw [zip_fst' (by rw [al, h.len])]; exact alph_nd, by rw [List.length_zip]; omega⟩
  have := List.of_mem_zip hp
  exact ⟨alph_ok _ this.1, h.ok _ this.2⟩
theorem ns_tab' {ns : List Str} (h : nsT ns) : (∀ p ∈ ns.zip alph, isL p.1 = true ∧ isL p.2 = true) ∧ ((ns.zip alph).map (·.1)).Nodup ∧ (ns.zip alph).length ≤ 100 := by
  have al := alph_len
  refine ⟨fun p hp => ?_, by rw [zip_fst' (by rw [al, h.len])]; exact h.nd, by rw [List.length_zip]; omega⟩
  have := List.of_mem_zip hp
  exact ⟨h.ok _ this.1, alph_ok _ this.2⟩
theorem ren_nd {ns : List Str} (h : nsT ns) {m : Nat} {es : List En} (hx : cxT m es) : ((es.map (renE (alph.zip ns))).map (·.l)).Nodup := by
  have e : (es.map (renE (alph.zip ns))).map (·.l) = (es.map (·.l)).map (ren (alph.zip ns)) := by rw [List.map_map, List.map_map]; rfl
  rw [e]
  refine nodup_map hx.2.2.2 fun x hxm y hym he => ?_
  obtain ⟨a, ha, rfl⟩ := List.mem_map.mp hxm
  obtain ⟨b, hb, rfl⟩ := List.mem_map.mp hym
  exact ren_inj (by rw [alph_len, h.len]) alph_nd h.nd (hx.2.2.1 a ha).1 (hx.2.2.1 b hb).1 he
theorem rnm_ok {co : Co} {ns : List Str} (ct : coT co) (h : nsT ns) : (rnm co (alph.zip ns)).ok := by
  have ok := ct.ok
  refine ⟨ok.z0, ok.z1, by simpa [rnm] using ok.c0, by simpa [rnm] using ok.c1, fun es he => ?_, ok.dv, ok.mn⟩
  obtain ⟨fs, hf, rfl⟩ := List.mem_map.mp he
  have kx := ok.cx fs hf
  have hl : (rnm co (alph.zip ns)).cs.length = co.cs.length := by simp [rnm]
  rw [hl]
  refine ⟨by simpa using kx.two, fun e hee => ?_, ren_nd h (ct.cx fs hf)⟩
  obtain ⟨f, hff, rfl⟩ := List.mem_map.mp hee
  exact renE_ok (fun p hp => ((ns_tab h).1 p hp).2) (kx.en f hff)
theorem rnm_cb {co : Co} {b : Nat} {t : List (Str × Str)} (cb : co.cb b) : (rnm co t).cb b := fun es he e hee => by
  obtain ⟨fs, hf, rfl⟩ := List.mem_map.mp he
  obtain ⟨f, hff, rfl⟩ := List.mem_map.mp hee
  exact cb fs hf f hff
theorem rnm_back {co : Co} {ns : List Str} (ct : coT co) (h : nsT ns) : rnm (rnm co (alph.zip ns)) (ns.zip alph) = co := by
  have : (co.cs.map fun es => es.map (renE (alph.zip ns))).map (fun es => es.map (renE (ns.zip alph))) = co.cs := by
    rw [List.map_map]
    refine (List.map_congr_left fun es he => ?_).trans (List.map_id _)
    simp only [Function.comp, List.map_map, id]
    refine (List.map_congr_left fun e hee => ?_).trans (List.map_id _)
    have := ren_back (by rw [alph_len, h.len]) alph_nd h.nd (((ct.cx es he).2.2.1 e hee).1)
    simp only [Function.comp, renE, this, id]
  unfold rnm
  simp only [this]
theorem back_nd {co : Co} {ns : List Str} (ct : coT co) (h : nsT ns) : ∀ es ∈ (rnm co (alph.zip ns)).cs, ((es.map (renE (ns.zip alph))).map (·.l)).Nodup := fun es he => by
  have e := rnm_back ct h
  have hm : es.map (renE (ns.zip alph)) ∈ co.cs := by
    have : es.map (renE (ns.zip alph)) ∈ (rnm (rnm co (alph.zip ns)) (ns.zip alph)).cs := List.mem_map.mpr ⟨es, he, rfl⟩
    rw [e] at this; exact this
  exact (ct.cx _ hm).2.2.2
def renD (t : List (Str × Str)) : D → D
  | .tup [i, k, .str l, c, x] => .tup [i, k, .str (ren t l), c, x]
  | x => x
theorem rows_ren {co : Co} {t : List (Str × Str)} : rowsL (rnm co t).cs = (rowsL co.cs).map (renD t) := by
  refine rowsL_ext (by simp [rnm]) fun i h1 h2 => ?_
  refine rowsX_ext (by simp [rnm]) fun k k1 k2 => ?_
  simp [rnm, rowD, renD, renE]
theorem b1_tup : wB1 B1.tuple = wTuple := rfl
section
variable {F : Fns} (f0 : F.f 28 = spDraw) (f1 : F.f 29 = spPick) (f5 : F.f 26 = spScale) (f6 : F.f 36 = spRows) (f7 : F.f 37 = spSame) (f8 : F.f 25 = spRen)
include f0 f1 f5 f6 f7 f8 in
theorem lets_T3 {co : Co} {ns : List Str} {n : Nat} {w2 w3 w4 w5 w9 w10 w11 w12 w13 w14 : Option W} {h : Hs} {E' : DEnds} (ct : coT co) (hn : nsT ns) (hs : SH n h) (hk : n ≤ 800000) (q : ∀ h', SH (n + 2) h' → E'.rt (.bl true) h') :
    m_law_are_letters_right_T3.d M F [some (.d (.ref 0)), some (.d (coD co)), w2, w3, w4, w5, some (.d (.tup ((alph.zip ns).map prD))), some (.d (coD (rnm co (alph.zip ns)))), some (.d (.lst ((rowsL co.cs).map (renD (alph.zip ns))))), w9, w10, w11, w12, w13, w14] h E' := by
  have ok := ct.ok
  have cb := ct.cb
  have cb1 := cb_mono cb (show 134 ≤ 1000 by decide)
  have t4 := fun w3 w6 w7 w8 w9 w14 h' s => lets_T4 f0 f1 f5 f6 f7 (n := n) (w2 := w2) (w3 := w3) (w4 := w4) (w5 := w5) (w6 := w6) (w7 := w7) (w8 := w8) (w9 := w9) (w10 := w10) (w11 := w11) (w12 := w12) (w13 := w13) (w14 := w14) (h := h') (E' := E') ok cb s hk q
  have o2 := rnm_ok ct hn
  have c2 : (rnm co (alph.zip ns)).cb 1000 := rnm_cb cb1
  obtain ⟨a1, a2, a3⟩ := ns_tab' hn
  have lz : (alph.zip ns).length ≤ 100 := (ns_tab hn).2.2
  unfold m_law_are_letters_right_T3
  generalize m_law_are_letters_right_T4 = t4' at t4 ⊢
  simp [Ss.d, S.d, E.d, E.t, Es.d, Es.len, Ic.d, Oe.t, f6, f7, f8, dLc, dItT, -List.map_map]
  refine lc_mp prD (fun p => prD (p.2, p.1)) _ [] (fun p hp Kp kp => ?_) (by simp only [List.length_nil, Nat.zero_add, sl24']; omega) ?_
  · simp [Tg.put, wipeD, prD, wRevU]
    exact kp
  · have ez : (alph.zip ns).map (fun p => prD (p.2, p.1)) = (ns.zip alph).map prD := by rw [← zsw, List.map_map]; rfl
    rw [List.nil_append, ez]
    simp [b1_tup, wTuple, seqW, lstW, tupW, -List.map_map]
    refine c_ren o2 a1 a2 a3 (back_nd ct hn) fun R => c_rows o2 ?_
    rw [← rows_ren, rnm_back ct hn]
    refine repr2 (bd_rows o2 c2) (by decide) (by decide) fun s => neS (.inl ⟨rfl, ?_⟩)
    exact c_same ok cb1 (.inr ⟨rfl, t4 _ _ _ _ _ _ _ hs.app⟩)
theorem pys_strs : ∀ (l : List Str), pyDs (l.map D.str) = l.map PyData.str
  | [] => rfl
  | s :: l => by simp [pyDs, pyD, pys_strs l]
theorem idx_in {ms : List Str} {s : Str} {K : W → Prop} (nd : ms.Nodup) (ok : ∀ s ∈ ms, isL s = true) (hs : s ∈ ms) (q : ∀ j, (hj : j < ms.length) → s = ms[j] → K (.d (.int (j : Nat)))) :
    ∃ d xs j z, pyW (.d (.lst (ms.map D.str))) = some (.list xs) ∧ pyW (.d (.str s)) = some d ∧ SeqAt.shaped (.list xs) = true ∧ SeqAt.shaped d = true ∧ xs[j]? = some z ∧ PyData.eqv z d = true ∧ (∀ (m : Nat) (z' : PyData), m < j → xs[m]? = some z' → PyData.eqv z' d = false) ∧ K (.d (.int (j : Nat))) := by
  obtain ⟨j, hj, rfl⟩ := List.getElem_of_mem hs
  have b := (Bds.all (n := 12) (d := 0) (xs := ms.map D.str) fun x hx => by
    obtain ⟨u, hu, rfl⟩ := List.mem_map.mp hx
    exact bd_l (ok u hu)).lst
  have e1 : pyD (.lst (ms.map D.str)) = .list (ms.map PyData.str) := by simp only [pyD, pys_strs]
  have p1 := toPy_pl b.pl
  have s1 := shp_pl b.pl (Nat.le_trans b.dp (by omega))
  rw [e1] at p1 s1
  refine ⟨.str ms[j], ms.map PyData.str, j, .str ms[j], p1, by simp [pyW, toPy], s1, shp_str (okA_s (ok _ hs)), by simp [hj], by simp [eqv_str], fun m z' hm hz => ?_, q j hj rfl⟩
  rw [List.getElem?_map, List.getElem?_eq_getElem (by omega)] at hz
  cases hz
  rw [eqv_str]
  refine decide_eq_false fun e => ?_
  have := (List.getElem_inj nd).mp e
  omega
theorem cut3d {α : Type} {xs : List α} : cutD xs (some 3) none = xs.drop 3 := cutD_drop (k := 3)
include f0 f1 f5 f6 f7 f8 in
theorem lets_T2 {co : Co} {ns : List Str} {n : Nat} {w4 w5 w8 w9 w10 w11 w12 w13 w14 : Option W} {h : Hs} {E' : DEnds} (ct : coT co) (hn : nsT ns) (hs : SH n h) (hk : n ≤ 800000) (q : ∀ h', SH (n + 2) h' → E'.rt (.bl true) h') :
    m_law_are_letters_right_T2.d M F [some (.d (.ref 0)), some (.d (coD co)), some (.d (.lst (alph.map D.str))), some (.own (ns.map D.str)), w4, w5, some (.d (.tup ((alph.zip ns).map prD))), some (.d (coD (rnm co (alph.zip ns)))), w8, w9, w10, w11, w12, w13, w14] h E' := by
  have ok := ct.ok
  have t3 := fun w14 => lets_T3 f0 f1 f5 f6 f7 f8 (w2 := some (.d (.lst (alph.map D.str)))) (w3 := some (.own (ns.map D.str))) (w4 := w4) (w5 := w5) (w9 := w9) (w10 := w10) (w11 := w11) (w12 := w12) (w13 := w13) (w14 := w14) (E' := E') ct hn hs hk q
  unfold m_law_are_letters_right_T2
  generalize m_law_are_letters_right_T3 = t3' at t3 ⊢
  simp [Ss.d, S.d, E.d, E.t, Es.d, Es.len, Ic.d, Oe.t, f6, dLc, dItL, -List.map_map]
  refine c_rows ok ?_
  simp [-List.map_map]
  refine lc_map (renD (alph.zip ns)) _ [] (fun x hx Kp kp => ?_) (by have := rowsL_len ok co.cs.length (Nat.le_refl _); rw [List.take_length] at this; have := ok.c1; simp only [List.length_nil, Nat.zero_add, sl24']; omega) ?_
  · obtain ⟨i, hi, k, hk, rfl⟩ := rowsL_mem hx
    have ha := ((ct.cx _ (List.getElem_mem hi)).2.2.1 _ (List.getElem_mem hk)).1
    generalize co.cs[i][k] = e at kp ha ⊢
    have kp : Kp (.tup [.int i, .int k, .str (ren (alph.zip ns) e.l), .int e.c, nxD e.n]) h := kp
    have i2 : wIx (W.d (rowD i k e)) (W.d (D.int 2)) = fun Q => Q (.d (.str e.l)) := ix_of rfl
    have sl : ∀ lo hi, wSl (W.d (rowD i k e)) lo hi = fun Q => Q (.d (.tup (cutD [D.int i, D.int k, D.str e.l, D.int e.c, nxD e.n] lo hi))) := fun _ _ => rfl
    simp [Tg.put, wipeD, Oe.d, dSl, dNo, dPart, sl, i2, cut2, cut3d, E.d, dIdx, DL.isL, -List.map_map]
    obtain ⟨d, xs, j, z, h1, h2, h3, h4, h5, h6, h7, h8⟩ := idx_in (s := e.l) (K := fun w => wIx (W.own (List.map D.str ns)) w fun z => ∃ d, toD z = some d ∧ 1 ≤ sizeLine ∧ wBin Bop.add (W.d (D.tup [D.int i, D.int k])) (W.d (D.tup [d])) fun z => wBin Bop.add z (W.d (D.tup [D.int e.c, nxD e.n])) fun z => ∃ d, toD z = some d ∧ Kp d h) alph_nd alph_ok ha fun j hj es => by
      have hj2 : j < ns.length := by rw [hn.len, ← alph_len]; exact hj
      have er : ren (alph.zip ns) e.l = ns[j] := by rw [es]; exact ren_zip hj hj2 alph_nd
      rw [er] at kp
      refine ⟨ns.map D.str, .str ns[j], rfl, by rw [atI_n (by simpa using hj2), List.getElem_map], _, rfl, by simp [sl24'], by simp [sl24'], by simp [sl24'], _, rfl, kp⟩
    exact ⟨d, xs, h1, h2, h3, h4, j, z, h5, h6, h7, h8⟩
  · rw [List.nil_append]
    exact t3 _
include f0 f1 f5 f6 f7 f8 in
theorem lets_T1 {co : Co} {ns : List Str} {n : Nat} {w4 w5 w6 w7 w8 w9 w10 w11 w12 w13 w14 : Option W} {h : Hs} {E' : DEnds} (ct : coT co) (hn : nsT ns) (hs : SH n h) (hk : n ≤ 800000) (q : ∀ h', SH (n + 2) h' → E'.rt (.bl true) h') :
    m_law_are_letters_right_T1.d M F [some (.d (.ref 0)), some (.d (coD co)), some (.d (.lst (alph.map D.str))), some (.own (ns.map D.str)), w4, w5, w6, w7, w8, w9, w10, w11, w12, w13, w14] h E' := by
  have ok := ct.ok
  have al := alph_len
  have nl := hn.len
  have t2 := fun w4 h' s => lets_T2 f0 f1 f5 f6 f7 f8 (w4 := w4) (w5 := w5) (w8 := w8) (w9 := w9) (w10 := w10) (w11 := w11) (w12 := w12) (w13 := w13) (w14 := w14) (n := n) (h := h') (E' := E') ct hn s hk q
  obtain ⟨a1, a2, a3⟩ := ns_tab hn
  unfold m_law_are_letters_right_T1
  generalize m_law_are_letters_right_T2 = t2' at t2 ⊢
  simp [Ss.d, S.d, E.d, E.t, Es.d, Es.len, Ic.d, Oe.t, f8, dLc, dItR1, -List.map_map]
  have zl : (alph.zip ns).length = 8 := by rw [List.length_zip]; omega
  refine lc_inv (fun i acc h' => h' = h ∧ acc = ((alph.zip ns).take i).map prD) _ (by simp [sl24']) (fun i x acc h' Kp hx hI hac hK => ?_) ⟨rfl, by simp⟩ fun acc h' hI hl => ?_
  · obtain ⟨rfl, rfl⟩ := hI
    obtain ⟨rfl, hi⟩ := rng_get hx
    have e0 : (0 : Int) + (i : Int) = (i : Int) := by omega
    have ia : L2.atI (alph.map D.str) (i : Int) = some (.str (alph[i]'(by omega))) := by rw [atI_n (by simp; omega), List.getElem_map]
    have ib : L2.atI (ns.map D.str) (i : Int) = some (.str (ns[i]'(by omega))) := by rw [atI_n (by simp; omega), List.getElem_map]
    rw [e0]
    simp [Tg.put, wipeD, wIx, seqW, lstW, tupW, ia, ib, -List.map_map]
    refine ⟨by simp [sl24'], hK _ _ ⟨rfl, ?_⟩⟩
    rw [List.take_add_one, List.getElem?_eq_getElem (by omega), List.map_append]
    simp [prD]
  · obtain ⟨rfl, rfl⟩ := hI
    rw [rng_len, List.take_of_length_le (by omega)]
    simp [b1_tup, wTuple, seqW, lstW, tupW, -List.map_map]
    refine c_ren ok a1 a2 a3 (fun es he => ren_nd hn (ct.cx es he)) fun R => ?_
    exact t2 _ _ hs.app
end
def al9 : List Str := alph ++ ([Str.ofString "q"] : List Str)
theorem al9_nd : al9.Nodup := by decide +kernel
theorem al9_len : al9.length = 9 := by decide +kernel
theorem al9_ok : ∀ s ∈ al9, isL s = true := by decide +kernel
theorem alphL : [D.str "a", D.str "b", D.str "c", D.str "e", D.str "h", D.str "x", D.str "y", D.str "z"] = alph.map D.str := by
  have : alph = (["a", "b", "c", "e", "h", "x", "y", "z"] : List Str) := by decide +kernel
  rw [this]; rfl
/-- the letters that are left -/
def leftL (ns : List Str) : List Str := al9.filter fun s => !decide (s ∈ ns)
theorem left_pos {ns : List Str} (h : ns.length < 9) : 0 < (leftL ns).length := by
  cases e : leftL ns with
  | cons _ _ => simp
  | nil =>
    exfalso
    have : ∀ s ∈ al9, s ∈ ns := fun s hs => by
      have := List.filter_eq_nil_iff.mp e s hs
      simpa using this
    have := sub_len al9_nd this
    rw [al9_len] at this
    omega
theorem B1_let {F : Fns} (f0 : F.f 28 = spDraw) {co : Co} {ns : List Str} {n i : Nat} {w5 w6 w7 w8 w9 w10 w11 w12 w13 w14 : Option W} {h : Hs} {E' : DEnds} (hs : SH n h) (hk : n ≤ 800000) (hl : ns.length < 8) (nd : ns.Nodup) (ok : ∀ s ∈ ns, isL s = true)
    (q : ∀ (s : Str) w5 w13 h', (ns ++ [s]).Nodup → isL s = true → SH (n + 1) h' → E'.nx [some (.d (.ref 0)), some (.d (coD co)), some (.d (.lst (alph.map D.str))), some (.own ((ns ++ [s]).map D.str)), some (.d (.int i)), w5, w6, w7, w8, w9, w10, w11, w12, w13, w14] h') :
    m_law_are_letters_right_B1.d M F [some (.d (.ref 0)), some (.d (coD co)), some (.d (.lst (alph.map D.str))), some (.own (ns.map D.str)), some (.d (.int i)), w5, w6, w7, w8, w9, w10, w11, w12, w13, w14] h E' := by
  have a9 : alph.map D.str ++ [D.str "q"] = al9.map D.str := by simp [al9]
  simp [m_law_are_letters_right_B1, Ss.d, S.d, E.d, E.t, Es.d, Es.len, Ic.d, Oe.t, f0, dLc, dItL, wBin, wCat, lsjW, -List.map_map]
  rw [a9]
  refine ⟨by simp [sl24'], by rw [alph_len]; simp [sl24'], ?_⟩
  refine lc_fil (fun x => !decide (strOf x ∈ ns)) (fun x => x) _ [] (fun y hy Kt Kf k1 k2 => ?_) (by simp [al9_len, sl24']) ?_
  · obtain ⟨s, hs9, rfl⟩ := List.mem_map.mp hy
    have e : strOf (.str s) = s := rfl
    simp only [e] at k1 k2
    simp [Tg.put, wipeD, dCmpT, wCmp, wIn, seqW, lstW]
    refine ⟨ns, rfl, ?_⟩
    by_cases h3 : s ∈ ns
    · have := k2 (by simpa using h3)
      simpa [h3] using this
    · have := k1 (by simpa using h3)
      simpa [h3] using this
  · have el : ((al9.map D.str).filter fun x => !decide (strOf x ∈ ns)).map (fun x => x) = (leftL ns).map D.str := by
      rw [List.map_id', List.filter_map]; rfl
    rw [List.nil_append, el]
    have lp := left_pos (ns := ns) (by omega)
    have ll : (leftL ns).length ≤ 9 := by rw [← al9_len]; exact List.length_filter_le _ _
    simp [dApp, b1_len, wLen, seqW, lstW, tupW, -List.map_map]
    refine ⟨by simp [sl24']; omega, n, hs, by omega, by omega, by omega, fun r h' r0 r1 s1 => ?_⟩
    obtain ⟨j, rfl⟩ := Int.eq_ofNat_of_zero_le r0
    have hj : j < (leftL ns).length := by omega
    have hm := List.mem_filter.mp (List.getElem_mem hj)
    have hn : (leftL ns)[j] ∉ ns := by simpa using hm.2
    refine ⟨(leftL ns).map D.str, .str (leftL ns)[j], rfl, by rw [atI_n (by simpa using hj), List.getElem_map], _, rfl, ?_⟩
    have := q (leftL ns)[j] (some (.d (.lst ((leftL ns).map D.str)))) w13 h' (by
      rw [List.nodup_append]
      exact ⟨nd, by simp, fun a h1 b h2 e => by simp at h2; subst h2; subst e; exact hn h1⟩) (al9_ok _ hm.1) s1
    simpa using this
def spLet : FnD := fun xs h P _ => match xs with
  | [.ref 0, c] => ∃ (co : Co) (n : Nat), c = coD co ∧ coT co ∧ SH n h ∧ n ≤ 700000 ∧ ∀ h', SH (n + 10) h' → P (.bl true) h'
  | _ => False
theorem k_law_are_letters_right {F : Fns} (f0 : F.f 28 = spDraw) (f1 : F.f 29 = spPick) (f5 : F.f 26 = spScale) (f6 : F.f 36 = spRows) (f7 : F.f 37 = spSame) (f8 : F.f 25 = spRen) : Kp M F m_law_are_letters_right 15 spLet := by
  intro xs h Q Z q0
  match xs, q0 with
  | [.ref 0, c], ⟨co, n, hc, ct, hs, hk, q⟩ =>
    subst hc
    have t1 := fun ns w4 w5 w6 w7 w8 w9 w10 w11 w12 w13 w14 h' hn s => lets_T1 f0 f1 f5 f6 f7 f8 (ns := ns) (n := n + 8) (w4 := w4) (w5 := w5) (w6 := w6) (w7 := w7) (w8 := w8) (w9 := w9) (w10 := w10) (w11 := w11) (w12 := w12) (w13 := w13) (w14 := w14) (h := h') (E' := fin Q Z) ct hn s (by omega) q
    have tb := fun ns n i w5 w6 w7 w8 w9 w10 w11 w12 w13 w14 h E' => B1_let f0 (co := co) (ns := ns) (n := n) (i := i) (w5 := w5) (w6 := w6) (w7 := w7) (w8 := w8) (w9 := w9) (w10 := w10) (w11 := w11) (w12 := w12) (w13 := w13) (w14 := w14) (h := h) (E' := E')
    unfold m_law_are_letters_right
    generalize m_law_are_letters_right_T1 = t1' at t1 ⊢
    generalize m_law_are_letters_right_B1 = b1 at tb ⊢
    simp [Ss.d, S.d, E.d, E.t, Es.d, Es.len, Ic.d, dItR1, startD, List.replicate_succ, stW, -List.map_map]
    refine ⟨by simp [sl24'], ?_⟩
    rw [alphL]
    refine for_inv (fun i ds h' => ∃ (ns : List Str) (w4 w5 w13 : Option W), ns.length = i ∧ ns.Nodup ∧ (∀ s ∈ ns, isL s = true) ∧ SH (n + i) h' ∧ ds = [some (.d (.ref 0)), some (.d (coD co)), some (.d (.lst (alph.map D.str))), some (.own (ns.map D.str)), w4, w5, none, none, none, none, none, none, none, w13, none]) _ (fun i y ds h' En' hy hI e1 e2 e3 hn hc => ?_) ⟨[], _, _, _, rfl, by simp, by simp, hs, rfl⟩ fun ds h' hI => ?_
    · obtain ⟨ns, w4, w5, w13, hl, nd, ok, s, rfl⟩ := hI
      obtain ⟨rfl, hi⟩ := rng_get hy
      have e0 : (0 : Int) + (i : Int) = (i : Int) := by omega
      rw [put_nm, e0]
      refine tb ns (n + i) i w5 none none none none none none none w13 none h' En' s (by omega) (by omega) nd ok fun u w5 w13 h2 nd2 hu s2 => hn _ _ ⟨ns ++ [u], _, _, _, by simp [hl], nd2, fun v hv => ?_, s2, rfl⟩
      rcases List.mem_append.mp hv with hv | hv
      · exact ok v hv
      · simp at hv; subst hv; exact hu
    · obtain ⟨ns, w4, w5, w13, hl, nd, ok, s, rfl⟩ := hI
      rw [rng_len] at hl s
      exact t1 ns _ _ _ _ _ _ _ _ _ _ _ h' ⟨hl, nd, ok⟩ s
end K
set_option maxHeartbeats 4000000
namespace K
open PySem DL DP CO
def spLaw : FnD := fun xs h P _ => match xs with
  | [.fro cs] => ∃ ns : List Int, cs = ns.map D.int ∧ h = [] ∧ ∀ h', P (.bl true) h'
  | _ => False
theorem k_law {F : Fns} (f0 : F.f 27 = spSource) (f1 : F.f 31 = spCoder) (f2 : F.f 28 = spDraw) (f3 : F.f 38 = spParts) (f4 : F.f 39 = spParts) (f5 : F.f 40 = spLet) : Kp M F m_law 6 spLaw := by
  intro xs h Q Z q0
  match xs, q0 with
  | [.fro cs], ⟨ns, hc, hh, q⟩ =>
    subst hc hh
    simp [m_law, m_law_T1, Ss.d, S.d, E.d, E.t, Es.d, Es.len, startD, List.replicate_succ, f0, f1, f2, f3, f4, f5, dPar2, b1_len, stW]
    refine ⟨ns, rfl, rfl, fun h1 s1 => ?_⟩
    refine ⟨0, s1, by omega, fun co h2 ct s2 => ?_⟩
    have ok := ct.ok
    have cb1 := cb_mono ct.cb (show 134 ≤ 1000 by decide)
    have c0 := ok.c0
    have c1 := ok.c1
    refine repr_bd (bd_co ok cb1) (by decide) (by decide) ?_
    simp
    refine ⟨31, s2, by omega, by omega, by omega, fun r h3 r0 r1 s3 => ?_⟩
    obtain ⟨a, rfl⟩ := Int.eq_ofNat_of_zero_le r0
    have ha : a < co.cs.length := by omega
    have kx := ok.cx _ (cxA_mem ha)
    have := kx.two
    have := kx.few
    simp [ix_cs ha]
    refine ⟨32, s3, by omega, by omega, by omega, fun r h4 r0 r1 s4 => ?_⟩
    obtain ⟨b, rfl⟩ := Int.eq_ofNat_of_zero_le r0
    have hb : b < (cxA co a).length := by omega
    refine ⟨co, a, b, 33, rfl, ct, rfl, rfl, ha, hb, s4, by omega, fun h5 s5 => ?_⟩
    simp
    refine ⟨co, a, b, 43, rfl, ct, rfl, rfl, ha, hb, s5, by omega, fun h6 s6 => ?_⟩
    simp
    refine ⟨co, 53, rfl, ct, s6, by omega, fun h7 s7 => ?_⟩
    simp
    refine repr_bd (bd_co ok cb1) (by decide) (by decide) (eqS ?_)
    exact ⟨_, rfl, q h7⟩
end K
set_option maxHeartbeats 4000000
namespace K
open PySem PySem.Spec PyProof.Rows L2 DL DP BM M17 CO
def F0 : Fns := L.F0
def F1 : Fns := F0.up 0 ((tellsA isInt))
theorem s0 : Kp M F0 m_is_integer N_is_integer.length ((tellsA isInt)) := k_is_integer
def F2 : Fns := F1.up 1 ((tellsA isNum))
theorem s1 : Kp M F1 m_is_number N_is_number.length ((tellsA isNum)) := k_is_number rfl
def F3 : Fns := F2.up 2 ((tellsA isCnt))
theorem s2 : Kp M F2 m_is_count N_is_count.length ((tellsA isCnt)) := k_is_count rfl
def F4 : Fns := F3.up 3 (spTn)
theorem s3 : Kp M F3 m_is_tuple_of N_is_tuple_of.length (spTn) := k_is_tuple_of
def F5 : Fns := F4.up 4 ((tellsA isLets))
theorem s4 : Kp M F4 m_is_letters N_is_letters.length ((tellsA isLets)) := k_is_letters rfl
def F6 : Fns := F5.up 5 ((tellsA isLet))
theorem s5 : Kp M F5 m_is_letter N_is_letter.length ((tellsA isLet)) := k_is_letter rfl
def F7 : Fns := F6.up 6 ((tellsA isEnt))
theorem s6 : Kp M F6 m_is_entry N_is_entry.length ((tellsA isEnt)) := k_is_entry rfl rfl rfl rfl
def F8 : Fns := F7.up 7 ((tellsA isCtx))
theorem s7 : Kp M F7 m_is_context N_is_context.length ((tellsA isCtx)) := k_is_context rfl
def F9 : Fns := F8.up 8 ((tellsA isSz))
theorem s8 : Kp M F8 m_is_size N_is_size.length ((tellsA isSz)) := k_is_size rfl rfl rfl
def F10 : Fns := F9.up 9 ((tellsA isDiv))
theorem s9 : Kp M F9 m_is_division N_is_division.length ((tellsA isDiv)) := k_is_division rfl
def F11 : Fns := F10.up 10 ((tellsA isMan))
theorem s10 : Kp M F10 m_is_manner N_is_manner.length ((tellsA isMan)) := k_is_manner rfl
def F12 : Fns := F11.up 11 (spReq)
theorem s11 : Kp M F11 m_require_usable N_require_usable.length (spReq) := k_require_usable
def F13 : Fns := F12.up 12 ((spTop wSize))
theorem s12 : Kp M F12 m_with_size N_with_size.length ((spTop wSize)) := k_with_size rfl rfl
def F14 : Fns := F13.up 13 ((spTop wDiv))
theorem s13 : Kp M F13 m_with_division N_with_division.length ((spTop wDiv)) := k_with_division rfl rfl
def F15 : Fns := F14.up 14 ((spTop wMan))
theorem s14 : Kp M F14 m_with_manner N_with_manner.length ((spTop wMan)) := k_with_manner rfl rfl
def F16 : Fns := F15.up 15 (spCxs)
theorem s15 : Kp M F15 m_with_contexts N_with_contexts.length (spCxs) := k_with_contexts
def F17 : Fns := F16.up 16 (spEns)
theorem s16 : Kp M F16 m_with_entries N_with_entries.length (spEns) := k_with_entries rfl
def F18 : Fns := F17.up 17 (spOf)
theorem s17 : Kp M F17 m_entries_of N_entries_of.length (spOf) := k_entries_of rfl rfl
def F19 : Fns := F18.up 18 (spHas)
theorem s18 : Kp M F18 m_has_letter N_has_letter.length (spHas) := k_has_letter rfl
def F20 : Fns := F19.up 19 (spCnt)
theorem s19 : Kp M F19 m_with_count N_with_count.length (spCnt) := k_with_count rfl rfl rfl rfl rfl
def F21 : Fns := F20.up 20 (spFits)
theorem s20 : Kp M F20 m_fits_in N_fits_in.length (spFits) := k_fits_in rfl rfl
def F22 : Fns := F21.up 21 (spEnt)
theorem s21 : Kp M F21 m_with_entry N_with_entry.length (spEnt) := k_with_entry rfl rfl rfl rfl rfl
def F23 : Fns := F22.up 22 (spWo)
theorem s22 : Kp M F22 m_without_entry N_without_entry.length (spWo) := k_without_entry rfl rfl rfl rfl
def F24 : Fns := F23.up 23 (spSwap)
theorem s23 : Kp M F23 m_exchanged N_exchanged.length (spSwap) := k_exchanged rfl rfl rfl rfl
def F25 : Fns := F24.up 24 ((tellsA arePr))
theorem s24 : Kp M F24 m_are_pairs N_are_pairs.length ((tellsA arePr)) := k_are_pairs rfl rfl
def F26 : Fns := F25.up 25 (spRen)
theorem s25 : Kp M F25 m_renamed N_renamed.length (spRen) := k_renamed rfl rfl rfl rfl
def F27 : Fns := F26.up 26 (spScale)
theorem s26 : Kp M F26 m_scaled N_scaled.length (spScale) := k_scaled rfl rfl rfl
def F28 : Fns := F27.up 27 (spSource)
theorem s27 : Kp M F27 m_law_source N_law_source.length (spSource) := k_law_source
def F29 : Fns := F28.up 28 (spDraw)
theorem s28 : Kp M F28 m_law_draw N_law_draw.length (spDraw) := k_law_draw
def F30 : Fns := F29.up 29 (spPick)
theorem s29 : Kp M F29 m_law_pick N_law_pick.length (spPick) := k_law_pick rfl
def F31 : Fns := F30.up 30 (spCtx)
theorem s30 : Kp M F30 m_law_context N_law_context.length (spCtx) := k_law_context rfl rfl
def F32 : Fns := F31.up 31 (spCoder)
theorem s31 : Kp M F31 m_law_coder N_law_coder.length (spCoder) := k_law_coder rfl rfl rfl
def F33 : Fns := F32.up 32 ((tellsA isNum))
theorem s32 : Kp M F32 m_law_is_number N_law_is_number.length ((tellsA isNum)) := k_law_is_number
def F34 : Fns := F33.up 33 ((tellsA isLet))
theorem s33 : Kp M F33 m_law_is_letter N_law_is_letter.length ((tellsA isLet)) := k_law_is_letter
def F35 : Fns := F34.up 34 ((tellsA isEnt))
theorem s34 : Kp M F34 m_law_is_entry N_law_is_entry.length ((tellsA isEnt)) := k_law_is_entry rfl rfl
def F36 : Fns := F35.up 35 (spFault)
theorem s35 : Kp M F35 m_law_fault N_law_fault.length (spFault) := k_law_fault rfl rfl
def F37 : Fns := F36.up 36 (spRows)
theorem s36 : Kp M F36 m_law_rows N_law_rows.length (spRows) := k_law_rows
def F38 : Fns := F37.up 37 (spSame)
theorem s37 : Kp M F37 m_law_is_same N_law_is_same.length (spSame) := k_law_is_same rfl
def F39 : Fns := F38.up 38 (spParts)
theorem s38 : Kp M F38 m_law_are_parts_right N_law_are_parts_right.length (spParts) := k_law_are_parts_right rfl rfl rfl rfl rfl rfl rfl rfl
def F40 : Fns := F39.up 39 (spParts)
theorem s39 : Kp M F39 m_law_are_entries_right N_law_are_entries_right.length (spParts) := k_law_are_entries_right rfl rfl rfl rfl rfl rfl
def F41 : Fns := F40.up 40 (spLet)
theorem s40 : Kp M F40 m_law_are_letters_right N_law_are_letters_right.length (spLet) := k_law_are_letters_right rfl rfl rfl rfl rfl rfl
section
variable {P : Program} {w : World} {K : Fg} {mg : Str → Option Value} {base : Heap}
theorem d0 (hd : Hd L P K mg) : ModD L.M L.G F0 (L.Cl K) true 1 P w K mg base := hd.first chk
theorem d1 (hd : Hd L P K mg) (htb : ∀ p ∈ L.cs K, LamX.TabB base mg p.1 p.2) : ModD L.M L.G F1 (L.Cl K) true 2 P w K mg base := hd.add chk htb (d0 hd) rfl 0 rfl _ s0 (by decide +kernel)
theorem d2 (hd : Hd L P K mg) (htb : ∀ p ∈ L.cs K, LamX.TabB base mg p.1 p.2) : ModD L.M L.G F2 (L.Cl K) true 3 P w K mg base := hd.add chk htb (d1 hd htb) rfl 1 rfl _ s1 (by decide +kernel)
theorem d3 (hd : Hd L P K mg) (htb : ∀ p ∈ L.cs K, LamX.TabB base mg p.1 p.2) : ModD L.M L.G F3 (L.Cl K) true 4 P w K mg base := hd.add chk htb (d2 hd htb) rfl 2 rfl _ s2 (by decide +kernel)
theorem d4 (hd : Hd L P K mg) (htb : ∀ p ∈ L.cs K, LamX.TabB base mg p.1 p.2) : ModD L.M L.G F4 (L.Cl K) true 5 P w K mg base := hd.add chk htb (d3 hd htb) rfl 3 rfl _ s3 (by decide +kernel)
theorem d5 (hd : Hd L P K mg) (htb : ∀ p ∈ L.cs K, LamX.TabB base mg p.1 p.2) : ModD L.M L.G F5 (L.Cl K) true 6 P w K mg base := hd.add chk htb (d4 hd htb) rfl 4 rfl _ s4 (by decide +kernel)
theorem d6 (hd : Hd L P K mg) (htb : ∀ p ∈ L.cs K, LamX.TabB base mg p.1 p.2) : ModD L.M L.G F6 (L.Cl K) true 7 P w K mg base := hd.add chk htb (d5 hd htb) rfl 5 rfl _ s5 (by decide +kernel)
theorem d7 (hd : Hd L P K mg) (htb : ∀ p ∈ L.cs K, LamX.TabB base mg p.1 p.2) : ModD L.M L.G F7 (L.Cl K) true 8 P w K mg base := hd.add chk htb (d6 hd htb) rfl 6 rfl _ s6 (by decide +kernel)
theorem d8 (hd : Hd L P K mg) (htb : ∀ p ∈ L.cs K, LamX.TabB base mg p.1 p.2) : ModD L.M L.G F8 (L.Cl K) true 9 P w K mg base := hd.add chk htb (d7 hd htb) rfl 7 rfl _ s7 (by decide +kernel)
theorem d9 (hd : Hd L P K mg) (htb : ∀ p ∈ L.cs K, LamX.TabB base mg p.1 p.2) : ModD L.M L.G F9 (L.Cl K) true 10 P w K mg base := hd.add chk htb (d8 hd htb) rfl 8 rfl _ s8 (by decide +kernel)
theorem d10 (hd : Hd L P K mg) (htb : ∀ p ∈ L.cs K, LamX.TabB base mg p.1 p.2) : ModD L.M L.G F10 (L.Cl K) true 11 P w K mg base := hd.add chk htb (d9 hd htb) rfl 9 rfl _ s9 (by decide +kernel)
theorem d11 (hd : Hd L P K mg) (htb : ∀ p ∈ L.cs K, LamX.TabB base mg p.1 p.2) : ModD L.M L.G F11 (L.Cl K) true 12 P w K mg base := hd.add chk htb (d10 hd htb) rfl 10 rfl _ s10 (by decide +kernel)
theorem d12 (hd : Hd L P K mg) (htb : ∀ p ∈ L.cs K, LamX.TabB base mg p.1 p.2) : ModD L.M L.G F12 (L.Cl K) true 13 P w K mg base := hd.add chk htb (d11 hd htb) rfl 11 rfl _ s11 (by decide +kernel)
theorem d13 (hd : Hd L P K mg) (htb : ∀ p ∈ L.cs K, LamX.TabB base mg p.1 p.2) : ModD L.M L.G F13 (L.Cl K) true 14 P w K mg base := hd.add chk htb (d12 hd htb) rfl 12 rfl _ s12 (by decide +kernel)
theorem d14 (hd : Hd L P K mg) (htb : ∀ p ∈ L.cs K, LamX.TabB base mg p.1 p.2) : ModD L.M L.G F14 (L.Cl K) true 15 P w K mg base := hd.add chk htb (d13 hd htb) rfl 13 rfl _ s13 (by decide +kernel)
theorem d15 (hd : Hd L P K mg) (htb : ∀ p ∈ L.cs K, LamX.TabB base mg p.1 p.2) : ModD L.M L.G F15 (L.Cl K) true 16 P w K mg base := hd.add chk htb (d14 hd htb) rfl 14 rfl _ s14 (by decide +kernel)
theorem d16 (hd : Hd L P K mg) (htb : ∀ p ∈ L.cs K, LamX.TabB base mg p.1 p.2) : ModD L.M L.G F16 (L.Cl K) true 17 P w K mg base := hd.add chk htb (d15 hd htb) rfl 15 rfl _ s15 (by decide +kernel)
theorem d17 (hd : Hd L P K mg) (htb : ∀ p ∈ L.cs K, LamX.TabB base mg p.1 p.2) : ModD L.M L.G F17 (L.Cl K) true 18 P w K mg base := hd.add chk htb (d16 hd htb) rfl 16 rfl _ s16 (by decide +kernel)
theorem d18 (hd : Hd L P K mg) (htb : ∀ p ∈ L.cs K, LamX.TabB base mg p.1 p.2) : ModD L.M L.G F18 (L.Cl K) true 19 P w K mg base := hd.add chk htb (d17 hd htb) rfl 17 rfl _ s17 (by decide +kernel)
theorem d19 (hd : Hd L P K mg) (htb : ∀ p ∈ L.cs K, LamX.TabB base mg p.1 p.2) : ModD L.M L.G F19 (L.Cl K) true 20 P w K mg base := hd.add chk htb (d18 hd htb) rfl 18 rfl _ s18 (by decide +kernel)
theorem d20 (hd : Hd L P K mg) (htb : ∀ p ∈ L.cs K, LamX.TabB base mg p.1 p.2) : ModD L.M L.G F20 (L.Cl K) true 21 P w K mg base := hd.add chk htb (d19 hd htb) rfl 19 rfl _ s19 (by decide +kernel)
theorem d21 (hd : Hd L P K mg) (htb : ∀ p ∈ L.cs K, LamX.TabB base mg p.1 p.2) : ModD L.M L.G F21 (L.Cl K) true 22 P w K mg base := hd.add chk htb (d20 hd htb) rfl 20 rfl _ s20 (by decide +kernel)
theorem d22 (hd : Hd L P K mg) (htb : ∀ p ∈ L.cs K, LamX.TabB base mg p.1 p.2) : ModD L.M L.G F22 (L.Cl K) true 23 P w K mg base := hd.add chk htb (d21 hd htb) rfl 21 rfl _ s21 (by decide +kernel)
theorem d23 (hd : Hd L P K mg) (htb : ∀ p ∈ L.cs K, LamX.TabB base mg p.1 p.2) : ModD L.M L.G F23 (L.Cl K) true 24 P w K mg base := hd.add chk htb (d22 hd htb) rfl 22 rfl _ s22 (by decide +kernel)
theorem d24 (hd : Hd L P K mg) (htb : ∀ p ∈ L.cs K, LamX.TabB base mg p.1 p.2) : ModD L.M L.G F24 (L.Cl K) true 25 P w K mg base := hd.add chk htb (d23 hd htb) rfl 23 rfl _ s23 (by decide +kernel)
theorem d25 (hd : Hd L P K mg) (htb : ∀ p ∈ L.cs K, LamX.TabB base mg p.1 p.2) : ModD L.M L.G F25 (L.Cl K) true 26 P w K mg base := hd.add chk htb (d24 hd htb) rfl 24 rfl _ s24 (by decide +kernel)
theorem d26 (hd : Hd L P K mg) (htb : ∀ p ∈ L.cs K, LamX.TabB base mg p.1 p.2) : ModD L.M L.G F26 (L.Cl K) true 27 P w K mg base := hd.add chk htb (d25 hd htb) rfl 25 rfl _ s25 (by decide +kernel)
theorem d27 (hd : Hd L P K mg) (htb : ∀ p ∈ L.cs K, LamX.TabB base mg p.1 p.2) : ModD L.M L.G F27 (L.Cl K) true 28 P w K mg base := hd.add chk htb (d26 hd htb) rfl 26 rfl _ s26 (by decide +kernel)
theorem d28 (hd : Hd L P K mg) (htb : ∀ p ∈ L.cs K, LamX.TabB base mg p.1 p.2) : ModD L.M L.G F28 (L.Cl K) true 29 P w K mg base := hd.add chk htb (d27 hd htb) rfl 27 rfl _ s27 (by decide +kernel)
theorem d29 (hd : Hd L P K mg) (htb : ∀ p ∈ L.cs K, LamX.TabB base mg p.1 p.2) : ModD L.M L.G F29 (L.Cl K) true 30 P w K mg base := hd.add chk htb (d28 hd htb) rfl 28 rfl _ s28 (by decide +kernel)
theorem d30 (hd : Hd L P K mg) (htb : ∀ p ∈ L.cs K, LamX.TabB base mg p.1 p.2) : ModD L.M L.G F30 (L.Cl K) true 31 P w K mg base := hd.add chk htb (d29 hd htb) rfl 29 rfl _ s29 (by decide +kernel)
theorem d31 (hd : Hd L P K mg) (htb : ∀ p ∈ L.cs K, LamX.TabB base mg p.1 p.2) : ModD L.M L.G F31 (L.Cl K) true 32 P w K mg base := hd.add chk htb (d30 hd htb) rfl 30 rfl _ s30 (by decide +kernel)
theorem d32 (hd : Hd L P K mg) (htb : ∀ p ∈ L.cs K, LamX.TabB base mg p.1 p.2) : ModD L.M L.G F32 (L.Cl K) true 33 P w K mg base := hd.add chk htb (d31 hd htb) rfl 31 rfl _ s31 (by decide +kernel)
theorem d33 (hd : Hd L P K mg) (htb : ∀ p ∈ L.cs K, LamX.TabB base mg p.1 p.2) : ModD L.M L.G F33 (L.Cl K) true 34 P w K mg base := hd.add chk htb (d32 hd htb) rfl 32 rfl _ s32 (by decide +kernel)
theorem d34 (hd : Hd L P K mg) (htb : ∀ p ∈ L.cs K, LamX.TabB base mg p.1 p.2) : ModD L.M L.G F34 (L.Cl K) true 35 P w K mg base := hd.add chk htb (d33 hd htb) rfl 33 rfl _ s33 (by decide +kernel)
theorem d35 (hd : Hd L P K mg) (htb : ∀ p ∈ L.cs K, LamX.TabB base mg p.1 p.2) : ModD L.M L.G F35 (L.Cl K) true 36 P w K mg base := hd.add chk htb (d34 hd htb) rfl 34 rfl _ s34 (by decide +kernel)
theorem d36 (hd : Hd L P K mg) (htb : ∀ p ∈ L.cs K, LamX.TabB base mg p.1 p.2) : ModD L.M L.G F36 (L.Cl K) true 37 P w K mg base := hd.add chk htb (d35 hd htb) rfl 35 rfl _ s35 (by decide +kernel)
theorem d37 (hd : Hd L P K mg) (htb : ∀ p ∈ L.cs K, LamX.TabB base mg p.1 p.2) : ModD L.M L.G F37 (L.Cl K) true 38 P w K mg base := hd.add chk htb (d36 hd htb) rfl 36 rfl _ s36 (by decide +kernel)
theorem d38 (hd : Hd L P K mg) (htb : ∀ p ∈ L.cs K, LamX.TabB base mg p.1 p.2) : ModD L.M L.G F38 (L.Cl K) true 39 P w K mg base := hd.add chk htb (d37 hd htb) rfl 37 rfl _ s37 (by decide +kernel)
theorem d39 (hd : Hd L P K mg) (htb : ∀ p ∈ L.cs K, LamX.TabB base mg p.1 p.2) : ModD L.M L.G F39 (L.Cl K) true 40 P w K mg base := hd.add chk htb (d38 hd htb) rfl 38 rfl _ s38 (by decide +kernel)
theorem d40 (hd : Hd L P K mg) (htb : ∀ p ∈ L.cs K, LamX.TabB base mg p.1 p.2) : ModD L.M L.G F40 (L.Cl K) true 41 P w K mg base := hd.add chk htb (d39 hd htb) rfl 39 rfl _ s39 (by decide +kernel)
theorem d41 (hd : Hd L P K mg) (htb : ∀ p ∈ L.cs K, LamX.TabB base mg p.1 p.2) : ModD L.M L.G F41 (L.Cl K) true 42 P w K mg base := hd.add chk htb (d40 hd htb) rfl 40 rfl _ s40 (by decide +kernel)
abbrev kL : Nat := 45
theorem last (hd : Hd L P K mg) (htb : ∀ p ∈ L.cs K, LamX.TabB base mg p.1 p.2) {fd : FuncData} (Fu : FunD K "law" "law" (defArgs s_law) (defBody s_law) (defScope s_law) [] [] (He.ga K "law") fd) : FnG P w K mg base true kL (He.ga K "law") fd P_law (liftF K (L.Cl K) 1 spLaw) ∧ Binds K fd P_law [] := by
  have z := hd.one_ chk (d41 (w := w) hd htb) rfl htb (i := 41) rfl (sp := spLaw) (k_law rfl rfl rfl rfl rfl rfl) Fu
  exact ⟨z.1, z.2 rfl⟩
end
theorem law_true (ns : List Int) (_ : ns.length ≤ 63) : spLaw [.fro (ns.map D.int)] [] (fun d _ => d = .bl true) fun _ _ => False := ⟨ns, rfl, rfl, fun _ => rfl⟩
end K
set_option maxHeartbeats 0
open PySem PySem.W PySem.Calls PyProof.Rows DL
set_option maxRecDepth 100000 in
set_option maxHeartbeats 0 in
theorem PySem.Challenge.cw_bitspans_k11_whole_changes_there_and_bac_holds : PySem.Challenge.rw_bitspans_k11_whole_changes_there_and_bac.Holds := by
  w_on; o_law
  refine HandSHeadRun.head_any (r := OpenLaw.row PySem.Challenge.rw_bitspans_k11_whole_changes_there_and_bac) (q := view (OpenLaw.row PySem.Challenge.rw_bitspans_k11_whole_changes_there_and_bac).prog [54]) (H := K.hk) (ob := K.ob) (M := 4000) (loose := K.nm) (d := HandSHeadRun.topDef (OpenLaw.row PySem.Challenge.rw_bitspans_k11_whole_changes_there_and_bac).prog 54) (kwd := []) K.ob_eq
    (by kernel_rfl) (fun s => by kernel_rfl) K.run (by kernel_rfl) (by kernel_rfl) (by kernel_rfl) (by rfl) (by first | assumption | decide +kernel) (by decide +kernel) ⟨rfl, rfl, rfl, rfl, rfl, by decide +kernel⟩ ?hw ?hc
  case hw => w_witness2
  case hc =>
    refine walk_D (l := PySem.Challenge.rw_bitspans_k11_whole_changes_there_and_bac) (n := 63) (k := K.kL) (x := "_law_script") (gd := true) (f := K.spLaw) rfl (by decide) (by kernel_rfl) ⟨rfl, by decide, by decide⟩ K.law_true ?F
    intro w mg fa h Y G hmg0
    obtain ⟨KK, KX, c⟩ := Y
    have hmg : mg ("law" : PySem.Str) = some (.ref fa) := by
      have e : (HandSHeadRun.topDef (OpenLaw.row PySem.Challenge.rw_bitspans_k11_whole_changes_there_and_bac).prog 54).name = ("law" : PySem.Str) := by kernel_rfl
      rw [← e]
      exact hmg0
    have hd : Hd K.L (PySem.Challenge.rw_bitspans_k11_whole_changes_there_and_bac).prog KK mg := Hd.of KX G (by decide +kernel) c
    obtain ⟨fd, Fu, hg⟩ := hd.def_ 41 ⟨"law", K.s_law, K.N_law, K.P_law, K.m_law⟩ rfl
    have e2 := hmg.symm.trans hg
    cases e2
    have b := funD_binds Fu (chk_pos (Lw.chk_at K.chk (i := 41) rfl) rfl)
    exact ⟨KK, fd, K.L.Cl KK, K.L.cs KK, KX, fun s u => posA_bindsTo Fu (chk_pos (Lw.chk_at K.chk (i := 41) rfl) rfl) s u, Lw.cs_emp c, Lw.cs_out c, Lw.cs_hd c, Lw.cs_T, fun base _ _ htb => (K.last hd htb Fu).1⟩

