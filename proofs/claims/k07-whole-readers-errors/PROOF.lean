import PyProof.Rows.All
import Wide.All
import OpenK.AllK
import Wide.FinOn
import PySem.Challenge.RW_bitspans_k07_whole_readers_errors
import HandS.ForMost
import HandS.ForExc
import HandS.Defaults
import HandS.IsInst
import HandS.Wide
import HandS.WideBits
import HandS.Flow
import HandS.TryMany
import HandS.CallSlots
import HandS.Walk
import HandS.Lambda
import HandS.TupAny
import HandS.Conv
import HandS.Style
import PyProof.ReprReads
import HandS.Deep
import HandS.RaiseMore
import PyProof.ReprRoads
import HandS.SuiteRaise
import HandS.RaiseFrom
import KE.KAsSuite
import KE.GoesEnum
import HandS.HeadHook2
import KE.GoesZip
import KE.GoesMore
import HandS.Star
import HandS.TupMul
import HandS.SortOrd
import HandS.SortRule
import KE.KSortTupAny
import KE.KDictSum
import PyProof.TupleOfSeq
import PyProof.Rows.SortKeyStr
import PyProof.DictDisplay
import KE.KDictDisplayH
import HandS.Keys
import KE.KSortKeyAny
import PyProof.Rows.SortStr
import HandS.DictTup
import HandS.TupLe
import KE.KDictCopyH
import HandS.DictComp
import HandS.TupLen
import HandS.ExcField
import HandS.ExcInit
import HandS.TryOnly
import HandS.ExcIs
import KE.KExcSuper
import KE.KDictPairs
import PyProof.P3In
import KE.KExcIs
import HandS.SetKeys
import HandS.FStr
import HandS.HeadEnd
import HandS.EndTab
import KE.KStateDown
import HandS.Head0
import HandS.Head1
import HandS.Head2
import HandS.HeadHook4
import PyProof.ReprLen
import KE.OsArith
import KE.IntBitsLaws
set_option Elab.async false
set_option linter.all false
set_option maxRecDepth 100000
set_option maxHeartbeats 4000000
namespace DL
open PySem PySem.Spec PyProof.Rows L2
abbrev Fg := PySem.W.Frag
inductive D where
  | non | bl (b : Bool) | int (i : Int) | str (x : Str) | ty (n : String) | ref (n : Nat) | tup (xs : List D) | lst (xs : List D) | fro (xs : List D) | wtp (xs : List D)
/-- an object that changes: a list, a dict with keys that are numbers or texts, one with keys that are tuples of these, an instance of the class of index c -/
inductive O where
  | lst (xs : List D) | dic (kvs : List (Key × D)) | dit (kvs : List (List Key × D)) | fit (kvs : List (List Key × D)) | fic (kvs : List (Key × D)) | ins (c : Nat) (fs : List (Str × D))
/-- a value in flight: a tree; a new list; an own list of a slot -/
inductive W where
  | d (x : D) | new (xs : List D) | own (xs : List D) | fn (a : Addr)
abbrev Hs := List O
/-- the classes by index; the tables of code objects -/
structure Cm where
  cl : Nat → Addr
  T : List (Addr × Str)
instance : CoeFun Cm fun _ => Nat → Addr := ⟨Cm.cl⟩
abbrev DSt := List (Option W)
/-- how trees stand in the heap: the places of shared objects; the lists that never change any more -/
structure Rg where
  n : Nat
  at_ : Nat → Addr
  fz : Addr → Prop
/-- a list that never changes any more -/
def FzL (R : Rg) (H : Hp) (a : Addr) (vs : List V) : Prop := R.fz a ∧ H a = some (.lst vs)
/-- a list of another's: the script, one of the module -/
def FoL (K : Fg) (H : Hp) (a : Addr) (vs : List V) : Prop := (∃ o, H a = some (.frz o (.lst vs))) ∨
    ∃ (o : Obj) (its : Array Value) (n : Nat), K.lookup a = some o ∧ o.cls = .type "list" ∧ o.dict = none ∧ o.data = .seq its n ∧ its.size ≤ sizeLine ∧ Vals vs its.toList
/-- a tuple of the written part -/
def WrT (K : Fg) (a : Addr) (vs : List V) : Prop := ∀ H : Hp, SqT K H a vs
/-- a tracked tuple -/
def TpL (H : Hp) (a : Addr) (vs : List V) : Prop := H a = some (.tup vs)
theorem TpL.sq {K : Fg} {H : Hp} {a : Addr} {vs : List V} (r : TpL H a vs) : SqT K H a vs := .inl (.inl r)
mutual
def RelD (K : Fg) (R : Rg) (H : Hp) : D → V → Prop
  | .non, v => v = .non
  | .bl b, v => v = .bl b
  | .int i, v => v = .int i
  | .str x, v => v = .str x
  | .ty n, v => v = .ty n
  | .ref i, v => i < R.n ∧ v = .ref (R.at_ i)
  | .tup ds, v => ∃ a vs, v = .ref a ∧ TpL H a vs ∧ RelDs K R H ds vs
  | .lst ds, v => ∃ a vs, v = .ref a ∧ FzL R H a vs ∧ RelDs K R H ds vs
  | .fro ds, v => ∃ a vs, v = .ref a ∧ FoL K H a vs ∧ RelDs K R H ds vs
  | .wtp ds, v => ∃ a vs, v = .ref a ∧ WrT K a vs ∧ RelDs K R H ds vs
def RelDs (K : Fg) (R : Rg) (H : Hp) : List D → List V → Prop
  | [], vs => vs = []
  | d :: ds, vs => ∃ v r, vs = v :: r ∧ RelD K R H d v ∧ RelDs K R H ds r
end
/-- not the place of a shared object -/
def Out (R : Rg) (a : Addr) : Prop := ∀ i, i < R.n → R.at_ i ≠ a
def RelW (K : Fg) (H₁ : Hp) (R : Rg) (H : Hp) : W → V → Prop
  | .d x, v => RelD K R H x v
  | .new xs, v => ∃ a vs, v = .ref a ∧ H₁ a = none ∧ H a = some (.lst vs) ∧ ¬ R.fz a ∧ Out R a ∧ RelDs K R H xs vs
  | .own xs, v => ∃ a vs, v = .ref a ∧ H a = some (.lst vs) ∧ ¬ R.fz a ∧ Out R a ∧ RelDs K R H xs vs
  | .fn a, v => v = .ref a
def RelKd {κ : Type} (K : Fg) (R : Rg) (H : Hp) : List (κ × D) → List (κ × V) → Prop
  | [], vs => vs = []
  | (x, d) :: ds, vs => ∃ v r, vs = (x, v) :: r ∧ RelD K R H d v ∧ RelKd K R H ds r
def RelF (K : Fg) (R : Rg) (H : Hp) : List (Str × D) → List (Str × V) → Prop
  | [], vs => vs = []
  | (x, d) :: ds, vs => ∃ v r, vs = (x, v) :: r ∧ RelD K R H d v ∧ RelF K R H ds r
/-- Cl: which class an index is -/
def RelO (K : Fg) (Cl : Cm) (R : Rg) (H : Hp) : O → HO → Prop
  | .lst xs, u => ∃ vs, u = .lst vs ∧ RelDs K R H xs vs
  | .dic kvs, u => ∃ ks, u = .dK ks ∧ RelKd K R H kvs ks
  | .dit kvs, u => ∃ ks, u = .dT ks ∧ RelKd K R H kvs ks
  | .fit kvs, u => ∃ o ks, u = .frz o (.dT ks) ∧ RelKd K R H kvs ks
  | .fic kvs, u => ∃ o ks, u = .frz o (.dK ks) ∧ RelKd K R H kvs ks
  | .ins c fs, u => ∃ dx ks, u = .ins (Cl c) dx ks ∧ RelF K R H fs ks
structure HOk' (K : Fg) (Cl : Cm) (R : Rg) (H : Hp) (h : Hs) : Prop where
  len : h.length = R.n
  obj : ∀ i o, h[i]? = some o → ∃ u, H (R.at_ i) = some u ∧ RelO K Cl R H o u
  inj : ∀ i j, i < R.n → j < R.n → R.at_ i = R.at_ j → i = j
  nfz : ∀ i, i < R.n → ¬ R.fz (R.at_ i)
  fzd : ∀ a, R.fz a → ∃ vs, H a = some (.lst vs)
  tab : LamX.Tabs Cl.T H
/-- from one state to a later one: what is not shared stays -/
structure Ex (R : Rg) (H : Hp) (R' : Rg) (H' : Hp) : Prop where
  le : R.n ≤ R'.n
  at_ : ∀ i, i < R.n → R'.at_ i = R.at_ i
  fz : ∀ a, R.fz a → R'.fz a
  nat : ∀ i, R.n ≤ i → i < R'.n → H (R'.at_ i) = none
  nfz : ∀ a, R'.fz a → R.fz a ∨ H a = none
  frm : ∀ b o, H b = some o → Out R b → (∀ ps, o ≠ .tbl ps) → H' b = some o
  dom : ∀ b, H' b = none → H b = none
  lk : ∀ b o u, H b = some (.frz o u) → H' b = some (.frz o u)
section
variable {K : Fg} {Cl : Cm} {R R' R'' : Rg} {H H' H'' H₁ H₀ : Hp} {h h' : Hs}
theorem Ex.refl (R : Rg) (H : Hp) : Ex R H R H := ⟨Nat.le_refl _, fun _ _ => rfl, fun _ z => z, fun i a b => absurd b (by omega), fun _ z => .inl z, fun _ _ e _ _ => e, fun _ e => e, fun _ _ _ e => e⟩
theorem Ex.out {b : Addr} {o : HO} (x : Ex R H R' H') (e : H b = some o) (z : Out R b) : Out R' b := fun i hi q => by
  by_cases l : i < R.n
  · rw [x.at_ i l] at q; exact z i l q
  · have := x.nat i (by omega) hi; rw [q, e] at this; cases this
theorem Ex.trans (x : Ex R H R' H') (y : Ex R' H' R'' H'') : Ex R H R'' H'' where
  le := Nat.le_trans x.le y.le
  at_ := fun i hi => (y.at_ i (Nat.lt_of_lt_of_le hi x.le)).trans (x.at_ i hi)
  fz := fun a z => y.fz a (x.fz a z)
  nat := fun i a b => by
    by_cases l : i < R'.n
    · rw [y.at_ i l]; exact x.nat i a l
    · exact x.dom _ (y.nat i (by omega) b)
  nfz := fun a z => by
    rcases y.nfz a z with q | q
    · exact x.nfz a q
    · exact .inr (x.dom a q)
  frm := fun b o e z n => y.frm b o (x.frm b o e z n) (x.out e z) n
  dom := fun b e => x.dom b (y.dom b e)
  lk := fun b o u e => y.lk b o u (x.lk b o u e)
theorem HOk'.outT (ok : HOk' K Cl R H h) {a : Addr} {u : HO} (e : H a = some u) (hu : (∀ xs, u ≠ .lst xs) ∧ (∀ xs, u ≠ .dK xs) ∧ (∀ xs, u ≠ .dT xs) ∧ (∀ c d xs, u ≠ .ins c d xs) ∧ ∀ o v, u ≠ .frz o v) : Out R a := fun i hi q => by
  have hl : i < h.length := by rw [ok.len]; exact hi
  obtain ⟨u', e', r⟩ := ok.obj i h[i] (List.getElem?_eq_getElem hl)
  rw [q, e] at e'
  cases e'
  cases g : h[i] with
  | lst xs => rw [g] at r; obtain ⟨vs, e, _⟩ := r; exact hu.1 _ e
  | dic xs => rw [g] at r; obtain ⟨vs, e, _⟩ := r; exact hu.2.1 _ e
  | dit xs => rw [g] at r; obtain ⟨vs, e, _⟩ := r; exact hu.2.2.1 _ e
  | ins c xs => rw [g] at r; obtain ⟨dx, vs, e, _⟩ := r; exact hu.2.2.2.1 _ _ _ e
  | fit xs => rw [g] at r; obtain ⟨o, vs, e, _⟩ := r; exact hu.2.2.2.2 _ _ e
  | fic xs => rw [g] at r; obtain ⟨o, vs, e, _⟩ := r; exact hu.2.2.2.2 _ _ e
theorem HOk'.outF (ok : HOk' K Cl R H h) {a : Addr} (z : R.fz a) : Out R a := fun i hi q => ok.nfz i hi (by rw [q]; exact z)
theorem tpL_ex {a : Addr} {vs : List V} (ok : HOk' K Cl R H h) (x : Ex R H R' H') (r : TpL H a vs) : TpL H' a vs :=
  x.frm a _ r (ok.outT r ⟨fun _ => HO.noConfusion, fun _ => HO.noConfusion, fun _ => HO.noConfusion, fun _ _ _ => HO.noConfusion, fun _ _ => HO.noConfusion⟩) (fun _ => HO.noConfusion)
theorem fzL_ex {a : Addr} {vs : List V} (ok : HOk' K Cl R H h) (x : Ex R H R' H') (r : FzL R H a vs) : FzL R' H' a vs :=
  ⟨x.fz a r.1, x.frm a _ r.2 (ok.outF r.1) (fun _ => HO.noConfusion)⟩
theorem foL_ex {a : Addr} {vs : List V} (ok : HOk' K Cl R H h) (x : Ex R H R' H') (r : FoL K H a vs) : FoL K H' a vs := by
  rcases r with ⟨o, r⟩ | r
  · exact .inl ⟨o, x.lk _ _ _ r⟩
  · exact .inr r
theorem FzL.sq {a : Addr} {vs : List V} (r : FzL R H a vs) : SqL K H a vs := .inl (.inl r.2)
theorem FoL.sq {a : Addr} {vs : List V} (r : FoL K H a vs) : SqL K H a vs := by
  rcases r with ⟨o, r⟩ | r
  · exact .inl (.inr ⟨o, r⟩)
  · exact .inr r
/-- what trees lean on stays; locked things may be let go -/
structure Mo0 (K : Fg) (R : Rg) (H : Hp) (R' : Rg) (H' : Hp) : Prop where
  le : R.n ≤ R'.n
  at_ : ∀ i, i < R.n → R'.at_ i = R.at_ i
  tup : ∀ a vs, TpL H a vs → TpL H' a vs
  lst : ∀ a vs, FzL R H a vs → FzL R' H' a vs
  fro : ∀ a vs, FoL K H a vs → FoL K H' a vs
/-- what trees lean on stays -/
structure Mo (K : Fg) (R : Rg) (H : Hp) (R' : Rg) (H' : Hp) : Prop where
  le : R.n ≤ R'.n
  at_ : ∀ i, i < R.n → R'.at_ i = R.at_ i
  tup : ∀ a vs, TpL H a vs → TpL H' a vs
  lst : ∀ a vs, FzL R H a vs → FzL R' H' a vs
  fro : ∀ a vs, FoL K H a vs → FoL K H' a vs
  lk : ∀ b o u, H b = some (.frz o u) → H' b = some (.frz o u)
theorem Ex.mo (ok : HOk' K Cl R H h) (x : Ex R H R' H') : Mo K R H R' H' := ⟨x.le, x.at_, fun _ _ r => tpL_ex ok x r, fun _ _ r => fzL_ex ok x r, fun _ _ r => foL_ex ok x r, x.lk⟩
mutual
theorem relD_mo0 (x : Mo0 K R H R' H') : ∀ {d : D} {v : V}, RelD K R H d v → RelD K R' H' d v
  | .non, v, r => by unfold RelD at r ⊢; exact r
  | .bl _, v, r => by unfold RelD at r ⊢; exact r
  | .int _, v, r => by unfold RelD at r ⊢; exact r
  | .str _, v, r => by unfold RelD at r ⊢; exact r
  | .ty _, v, r => by unfold RelD at r ⊢; exact r
  | .ref i, v, r => by
    unfold RelD at r ⊢
    exact ⟨Nat.lt_of_lt_of_le r.1 x.le, by rw [x.at_ i r.1]; exact r.2⟩
  | .tup ds, v, r => by
    unfold RelD at r ⊢
    obtain ⟨a, vs, e, q, t⟩ := r
    exact ⟨a, vs, e, x.tup _ _ q, relDs_mo0 x t⟩
  | .lst ds, v, r => by
    unfold RelD at r ⊢
    obtain ⟨a, vs, e, q, t⟩ := r
    exact ⟨a, vs, e, x.lst _ _ q, relDs_mo0 x t⟩
  | .fro ds, v, r => by
    unfold RelD at r ⊢
    obtain ⟨a, vs, e, q, t⟩ := r
    exact ⟨a, vs, e, x.fro _ _ q, relDs_mo0 x t⟩
  | .wtp ds, v, r => by
    unfold RelD at r ⊢
    obtain ⟨a, vs, e, q, t⟩ := r
    exact ⟨a, vs, e, q, relDs_mo0 x t⟩
theorem relDs_mo0 (x : Mo0 K R H R' H') : ∀ {ds : List D} {vs : List V}, RelDs K R H ds vs → RelDs K R' H' ds vs
  | [], vs, r => by unfold RelDs at r ⊢; exact r
  | d :: ds, vs, r => by
    unfold RelDs at r ⊢
    obtain ⟨v, q, e, r1, r2⟩ := r
    exact ⟨v, q, e, relD_mo0 x r1, relDs_mo0 x r2⟩
end
theorem relF_mo0 (x : Mo0 K R H R' H') : ∀ {ds : List (Str × D)} {vs : List (Str × V)}, RelF K R H ds vs → RelF K R' H' ds vs
  | [], vs, r => r
  | (y, d) :: ds, vs, r => by
    obtain ⟨v, q, e, r1, r2⟩ := r
    exact ⟨v, q, e, relD_mo0 x r1, relF_mo0 x r2⟩
theorem relKd_mo0 {κ : Type} (x : Mo0 K R H R' H') : ∀ {ds : List (κ × D)} {vs : List (κ × V)}, RelKd K R H ds vs → RelKd K R' H' ds vs
  | [], vs, r => r
  | (y, d) :: ds, vs, r => by
    obtain ⟨v, q, e, r1, r2⟩ := r
    exact ⟨v, q, e, relD_mo0 x r1, relKd_mo0 x r2⟩
theorem relO_mo0 (x : Mo0 K R H R' H') {o : O} {u : HO} (r : RelO K Cl R H o u) : RelO K Cl R' H' o u := by
  cases o with
  | lst xs => obtain ⟨vs, e, t⟩ := r; exact ⟨vs, e, relDs_mo0 x t⟩
  | dic xs => obtain ⟨vs, e, t⟩ := r; exact ⟨vs, e, relKd_mo0 x t⟩
  | dit xs => obtain ⟨vs, e, t⟩ := r; exact ⟨vs, e, relKd_mo0 x t⟩
  | ins c xs => obtain ⟨dx, vs, e, t⟩ := r; exact ⟨dx, vs, e, relF_mo0 x t⟩
  | fit xs => obtain ⟨o, vs, e, t⟩ := r; exact ⟨o, vs, e, relKd_mo0 x t⟩
  | fic xs => obtain ⟨o, vs, e, t⟩ := r; exact ⟨o, vs, e, relKd_mo0 x t⟩
theorem Mo.m0 (x : Mo K R H R' H') : Mo0 K R H R' H' := ⟨x.le, x.at_, x.tup, x.lst, x.fro⟩
theorem relD_mo (x : Mo K R H R' H') {d : D} {v : V} (r : RelD K R H d v) : RelD K R' H' d v := relD_mo0 x.m0 r
theorem relDs_mo (x : Mo K R H R' H') {ds : List D} {vs : List V} (r : RelDs K R H ds vs) : RelDs K R' H' ds vs := relDs_mo0 x.m0 r
theorem relF_mo (x : Mo K R H R' H') {ds : List (Str × D)} {vs : List (Str × V)} (r : RelF K R H ds vs) : RelF K R' H' ds vs := relF_mo0 x.m0 r
theorem relO_mo (x : Mo K R H R' H') {o : O} {u : HO} (r : RelO K Cl R H o u) : RelO K Cl R' H' o u := relO_mo0 x.m0 r
theorem relD_ex (ok : HOk' K Cl R H h) (x : Ex R H R' H') {d : D} {v : V} (r : RelD K R H d v) : RelD K R' H' d v := relD_mo (x.mo ok) r
theorem relDs_ex (ok : HOk' K Cl R H h) (x : Ex R H R' H') {d : List D} {v : List V} (r : RelDs K R H d v) : RelDs K R' H' d v := relDs_mo (x.mo ok) r
theorem relF_ex (ok : HOk' K Cl R H h) (x : Ex R H R' H') {d : List (Str × D)} {v : List (Str × V)} (r : RelF K R H d v) : RelF K R' H' d v := relF_mo (x.mo ok) r
theorem relO_ex (ok : HOk' K Cl R H h) (x : Ex R H R' H') {o : O} {u : HO} (r : RelO K Cl R H o u) : RelO K Cl R' H' o u := relO_mo (x.mo ok) r
theorem relW_ex (ok : HOk' K Cl R H h) (x : Ex R H R' H') {w : W} {v : V} (r : RelW K H₁ R H w v) : RelW K H₁ R' H' w v := by
  cases w with
  | d _ => exact relD_ex ok x r
  | new xs =>
    obtain ⟨a, vs, e, n1, q, nf, o, t⟩ := r
    refine ⟨a, vs, e, n1, x.frm a _ q o (fun _ => HO.noConfusion), fun z => ?_, x.out q o, relDs_ex ok x t⟩
    rcases x.nfz a z with z | z
    · exact nf z
    · rw [q] at z; cases z
  | own xs =>
    obtain ⟨a, vs, e, q, nf, o, t⟩ := r
    refine ⟨a, vs, e, x.frm a _ q o (fun _ => HO.noConfusion), fun z => ?_, x.out q o, relDs_ex ok x t⟩
    rcases x.nfz a z with z | z
    · exact nf z
    · rw [q] at z; cases z
  | fn _ => exact r
theorem relW_start {w : W} {v : V} (hd : ∀ b, H₁ b = none → H₀ b = none) (r : RelW K H₁ R H w v) : RelW K H₀ R H w v := by
  cases w with
  | d _ => exact r
  | own _ => exact r
  | fn _ => exact r
  | new xs => obtain ⟨a, vs, e, n1, q⟩ := r; exact ⟨a, vs, e, hd a n1, q⟩
theorem relDs_len : ∀ {ds : List D} {vs : List V}, RelDs K R H ds vs → ds.length = vs.length
  | [], vs, r => by unfold RelDs at r; subst r; rfl
  | d :: ds, vs, r => by
    unfold RelDs at r
    obtain ⟨v, q, e, r1, r2⟩ := r
    subst e
    simp [relDs_len r2]
theorem relDs_get : ∀ {ds : List D} {vs : List V} {i : Nat} {d : D}, RelDs K R H ds vs → ds[i]? = some d → ∃ v, vs[i]? = some v ∧ RelD K R H d v
  | [], vs, i, d, r, e => by simp at e
  | d :: ds, vs, i, d', r, e => by
    unfold RelDs at r
    obtain ⟨v, q, e1, r1, r2⟩ := r
    subst e1
    cases i with
    | zero => simp at e; subst e; exact ⟨v, rfl, r1⟩
    | succ i =>
      obtain ⟨w, h1, h2⟩ := relDs_get (i := i) r2 (by simpa using e)
      exact ⟨w, by simpa using h1, h2⟩
theorem relDs_append : ∀ {ds es : List D} {vs us : List V}, RelDs K R H ds vs → RelDs K R H es us → RelDs K R H (ds ++ es) (vs ++ us)
  | [], es, vs, us, r, s => by unfold RelDs at r; subst r; exact s
  | d :: ds, es, vs, us, r, s => by
    unfold RelDs at r
    obtain ⟨v, q, e1, r1, r2⟩ := r
    subst e1
    show RelDs K R H (d :: (ds ++ es)) (v :: (q ++ us))
    unfold RelDs
    exact ⟨v, _, rfl, r1, relDs_append r2 s⟩
theorem relDs_set : ∀ {ds : List D} {vs : List V} {d : D} {v : V} (i : Nat), RelDs K R H ds vs → RelD K R H d v → RelDs K R H (ds.set i d) (vs.set i v)
  | [], vs, d, v, i, r, s => by unfold RelDs at r; subst r; simp; unfold RelDs; rfl
  | d0 :: ds, vs, d, v, i, r, s => by
    unfold RelDs at r
    obtain ⟨w, q, e1, r1, r2⟩ := r
    subst e1
    cases i with
    | zero => show RelDs K R H (d :: ds) (v :: q); unfold RelDs; exact ⟨v, q, rfl, s, r2⟩
    | succ i => show RelDs K R H (d0 :: ds.set i d) (w :: q.set i v); unfold RelDs; exact ⟨w, _, rfl, r1, relDs_set i r2 s⟩
theorem relDs_take : ∀ {ds : List D} {vs : List V} (n : Nat), RelDs K R H ds vs → RelDs K R H (ds.take n) (vs.take n)
  | _, _, 0, _ => by simp; unfold RelDs; rfl
  | [], vs, n + 1, r => by unfold RelDs at r; subst r; simp; unfold RelDs; rfl
  | d :: ds, vs, n + 1, r => by
    unfold RelDs at r
    obtain ⟨w, q, e1, r1, r2⟩ := r
    subst e1
    show RelDs K R H (d :: ds.take n) (w :: q.take n); unfold RelDs; exact ⟨w, _, rfl, r1, relDs_take n r2⟩
theorem relDs_drop : ∀ {ds : List D} {vs : List V} (n : Nat), RelDs K R H ds vs → RelDs K R H (ds.drop n) (vs.drop n)
  | _, _, 0, r => r
  | [], vs, n + 1, r => by unfold RelDs at r; subst r; simp; unfold RelDs; rfl
  | d :: ds, vs, n + 1, r => by
    unfold RelDs at r
    obtain ⟨w, q, e1, r1, r2⟩ := r
    subst e1
    exact relDs_drop n r2
theorem relDs_ints : ∀ {ns : List Int} {vs : List V}, RelDs K R H (ns.map D.int) vs → vs = ns.map V.int
  | [], vs, r => by unfold List.map RelDs at r; subst r; rfl
  | n :: ns, vs, r => by
    unfold List.map RelDs at r
    obtain ⟨w, q, e1, r1, r2⟩ := r
    unfold RelD at r1
    subst e1 r1
    rw [relDs_ints r2]; rfl
theorem relDs_bls : ∀ {ns : List Bool} {vs : List V}, RelDs K R H (ns.map D.bl) vs → vs = ns.map V.bl
  | [], vs, r => by unfold List.map RelDs at r; subst r; rfl
  | n :: ns, vs, r => by
    unfold List.map RelDs at r
    obtain ⟨w, q, e1, r1, r2⟩ := r
    unfold RelD at r1
    subst e1 r1
    rw [relDs_bls r2]; rfl
theorem relDs_strs : ∀ {ns : List Str} {vs : List V}, RelDs K R H (ns.map D.str) vs → vs = ns.map V.str
  | [], vs, r => by unfold List.map RelDs at r; subst r; rfl
  | n :: ns, vs, r => by
    unfold List.map RelDs at r
    obtain ⟨w, q, e1, r1, r2⟩ := r
    unfold RelD at r1
    subst e1 r1
    rw [relDs_strs r2]; rfl
theorem relDs_mkints : ∀ (ns : List Int), RelDs K R H (ns.map D.int) (ns.map V.int)
  | [] => by unfold List.map RelDs; rfl
  | n :: ns => by unfold List.map RelDs; exact ⟨_, _, rfl, by unfold RelD; rfl, relDs_mkints ns⟩
/-- a new object is tracked, not shared -/
theorem Ex.fresh {p : Addr} {o : HO} (np : H p = none) : Ex R H R (upd H p o) :=
  ⟨Nat.le_refl _, fun _ _ => rfl, fun _ z => z, fun i a b => absurd b (by omega), fun _ z => .inl z, fun b u e _ _ => by rw [upd_ne (ne_of_none e np)]; exact e,
    fun b e => by
      by_cases q : b = p
      · subst q; exact np
      · rw [upd_ne q] at e; exact e, fun b o' u e => by rw [upd_ne (ne_of_none e np)]; exact e⟩
/-- tables stay where a new object comes, where another object is written -/
theorem tabs_new {T : List (Addr × Str)} {p : Addr} {o : HO} (np : H p = none) (z : LamX.Tabs T H) : LamX.Tabs T (upd H p o) := z.ext fun b u e => by rw [upd_ne (ne_of_none e np)]; exact e
theorem tabs_wr {T : List (Addr × Str)} {a : Addr} {o o' : HO} (q : H a = some o) (n1 : ∀ ps, o ≠ .tbl ps) (n2 : ∀ f, o ≠ .ext f) (z : LamX.Tabs T H) : LamX.Tabs T (upd H a o') := fun p hp => by
  obtain ⟨ps, h1, h2, h3⟩ := z p hp
  refine ⟨ps, by rw [upd_ne (fun e => by rw [e, q] at h1; exact n1 ps (Option.some.inj h1))]; exact h1, h2, fun pos cv hc => ?_⟩
  obtain ⟨c, e1, e2⟩ := h3 pos cv hc
  exact ⟨c, e1, by rw [upd_ne (fun e => by rw [e, q] at e2; exact n2 _ (Option.some.inj e2))]; exact e2⟩
theorem HOk'.ex (ok : HOk' K Cl R H h) (x : Ex R H R H') (hs : ∀ i, i < R.n → H' (R.at_ i) = H (R.at_ i)) (ht : LamX.Tabs Cl.T H') : HOk' K Cl R H' h where
  len := ok.len
  obj := fun i o e => by
    obtain ⟨u, e1, r⟩ := ok.obj i o e
    have hi : i < R.n := by rw [← ok.len]; exact (List.getElem?_eq_some_iff.mp e).1
    exact ⟨u, by rw [hs i hi]; exact e1, relO_ex ok x r⟩
  inj := ok.inj
  nfz := ok.nfz
  fzd := fun a z => by obtain ⟨vs, e⟩ := ok.fzd a z; exact ⟨vs, x.frm a _ e (ok.outF z) (fun _ => HO.noConfusion)⟩
  tab := ht
theorem HOk'.there (ok : HOk' K Cl R H h) {i : Nat} (hi : i < R.n) : ∃ u, H (R.at_ i) = some u := by
  have hl : i < h.length := by rw [ok.len]; exact hi
  obtain ⟨u', e', r⟩ := ok.obj i h[i] (List.getElem?_eq_getElem hl)
  exact ⟨u', e'⟩
theorem HOk'.fresh (ok : HOk' K Cl R H h) {p : Addr} {o : HO} (np : H p = none) : HOk' K Cl R (upd H p o) h :=
  ok.ex (Ex.fresh np) (fun i hi => by
    obtain ⟨u, e⟩ := ok.there hi
    rw [upd_ne (ne_of_none e np)]) (tabs_new np ok.tab)
theorem HOk'.nfresh (ok : HOk' K Cl R H h) {p : Addr} (np : H p = none) : ¬ R.fz p ∧ Out R p := by
  refine ⟨fun z => ?_, fun i hi q => ?_⟩
  · obtain ⟨vs, e⟩ := ok.fzd p z
    rw [np] at e
    cases e
  · obtain ⟨u, e⟩ := ok.there hi
    rw [q, np] at e
    cases e
/-- a list becomes one that never changes -/
def Rg.frz (R : Rg) (a : Addr) : Rg := ⟨R.n, R.at_, fun b => R.fz b ∨ b = a⟩
theorem Mo.frz {a : Addr} : Mo K R H (R.frz a) H := ⟨Nat.le_refl _, fun _ _ => rfl, fun _ _ r => r, fun b vs r => ⟨.inl r.1, r.2⟩, fun _ _ r => r, fun _ _ _ r => r⟩
theorem HOk'.frz (ok : HOk' K Cl R H h) {a : Addr} {vs : List V} (e : H a = Option.some (HO.lst vs)) (o : Out R a) : HOk' K Cl (R.frz a) H h := by
  refine ⟨ok.len, fun i o' e' => ?_, ok.inj, fun i hi z => ?_, fun b z => ?_, ok.tab⟩
  · obtain ⟨u, e1, r⟩ := ok.obj i o' e'
    exact ⟨u, e1, relO_mo Mo.frz r⟩
  · rcases z with z | z
    · exact ok.nfz i hi z
    · exact o i hi z
  · rcases z with z | z
    · exact ok.fzd b z
    · subst z; exact ⟨vs, e⟩
/-- what came since the start may be frozen -/
theorem Ex.frz {a : Addr} (x : Ex R H R' H') (n : H a = none) : Ex R H (R'.frz a) H' :=
  ⟨x.le, x.at_, fun b z => .inl (x.fz b z), x.nat, fun b z => by
    rcases z with z | z
    · exact x.nfz b z
    · subst z; exact .inr n, x.frm, x.dom, x.lk⟩
end
end DL
set_option maxHeartbeats 4000000
namespace DL
open PySem PySem.Spec PyProof.Rows L2
/-- an exception: the index of its class, its fields -/
structure Xn where
  c : Nat
  fs : List (Str × D)
abbrev Sl := L2.St
abbrev XD := Xn → Hs → Prop
abbrev TDE := DSt → Hs → (W → Hs → Prop) → XD → Prop
abbrev TDV := DSt → Hs → (D → Hs → Prop) → XD → Prop
abbrev TDA := DSt → Hs → (List D → Hs → Prop) → XD → Prop
abbrev TDT := DSt → Hs → (Bool → Hs → Prop) → XD → Prop
/-- what stays through a body: the written part, the classes, the entry -/
structure Cn where
  K : Fg
  Cl : Cm
  R₀ : Rg
  H₀ : Hp
structure Env (C : Cn) (R : Rg) (ds : DSt) (σ : Sl) (H : Hp) (h : Hs) : Prop where
  ok : HOk' C.K C.Cl R H h
  ex : Ex C.R₀ C.H₀ R H
  len : ds.length = σ.length
  slot : ∀ (i : Nat) (w : W), ds[i]? = some (some w) → ∃ v, σ[i]? = some (some v) ∧ RelW C.K C.H₀ R H w v
  nnew : ∀ (i : Nat) xs, ds[i]? ≠ some (some (.new xs))
  own : ∀ (i j : Nat) xs ys (a : Addr), ds[i]? = some (some (.own xs)) → σ[i]? = some (some (.ref a)) → ds[j]? = some (some (.own ys)) → σ[j]? = some (some (.ref a)) → i = j
  own0 : ∀ (i : Nat) xs (a : Addr), ds[i]? = some (some (.own xs)) → σ[i]? = some (some (.ref a)) → C.H₀ a = none
def RelX (C : Cn) (R : Rg) (H : Hp) (x : Xn) (cls : Value) (dd : Option Addr) : Prop :=
  cls = .ref (C.Cl x.c) ∧ ∃ a ks, dd = some a ∧ H a = some (.xd ks) ∧ RelF C.K R H x.fs ks
section
variable {C : Cn} {R R' R'' : Rg} {ds : DSt} {σ : Sl} {H H' H'' : Hp} {h h' h'' : Hs}
theorem Env.relW (e : Env C R ds σ H h) {i : Nat} {w : W} {v : V} (hw : ds[i]? = some (some w)) (hv : σ[i]? = some (some v)) : RelW C.K C.H₀ R H w v := by
  obtain ⟨v', e1, r⟩ := e.slot i w hw
  rw [hv] at e1
  cases e1
  exact r
/-- a step that leaves the slots -/
theorem Env.step (e : Env C R ds σ H h) (x : Ex R H R' H') (ok : HOk' C.K C.Cl R' H' h') : Env C R' ds σ H' h' where
  ok := ok
  ex := e.ex.trans x
  len := e.len
  slot := fun i w q => by
    obtain ⟨v, e1, r⟩ := e.slot i w q
    exact ⟨v, e1, relW_ex e.ok x r⟩
  nnew := e.nnew
  own := e.own
  own0 := e.own0
theorem Env.fresh (e : Env C R ds σ H h) {p : Addr} {o : HO} (np : H p = none) : Env C R ds σ (upd H p o) h := e.step (Ex.fresh np) (e.ok.fresh np)
def toD : W → Option D
  | .d x => some x
  | .new xs => some (.lst xs)
  | .own _ => none
  | .fn _ => none
/-- a value in flight becomes a tree -/
theorem frzW (e : Env C R ds σ H h) (x : Ex R H R' H') (e' : Env C R' ds σ H' h') {w : W} {v : V} {d : D} (r : RelW C.K H R' H' w v) (q : toD w = some d) :
    ∃ R'', Ex R H R'' H' ∧ Env C R'' ds σ H' h' ∧ RelD C.K R'' H' d v ∧ Mo C.K R' H' R'' H' := by
  cases w with
  | d y =>
    cases q
    exact ⟨R', x, e', r, ⟨Nat.le_refl _, fun _ _ => rfl, fun _ _ z => z, fun _ _ z => z, fun _ _ z => z, fun _ _ _ z => z⟩⟩
  | own y => cases q
  | fn y => cases q
  | new xs =>
    cases q
    obtain ⟨a, vs, ev, n1, q, nf, o, t⟩ := r
    refine ⟨R'.frz a, x.frz n1, ⟨e'.ok.frz q o, ?_, e'.len, fun i w hw => ?_, e'.nnew, e'.own, e'.own0⟩, ?_, Mo.frz⟩
    · refine e'.ex.frz ?_
      exact e.ex.dom a n1
    · obtain ⟨v', e1, r1⟩ := e'.slot i w hw
      refine ⟨v', e1, ?_⟩
      cases w with
      | d y => exact relD_mo Mo.frz r1
      | new ys => exact absurd hw (e'.nnew i ys)
      | fn y => exact r1
      | own ys =>
        obtain ⟨a', vs', ev', q', nf', o', t'⟩ := r1
        refine ⟨a', vs', ev', q', fun z => ?_, o', relDs_mo Mo.frz t'⟩
        rcases z with z | z
        · exact nf' z
        · subst z
          -- the slot's list was there ahead
          obtain ⟨v0, e0, a0, vs0, ev0, q0, _⟩ := e.slot i _ hw
          rw [e1] at e0
          cases e0
          rw [ev'] at ev0
          cases ev0
          rw [n1] at q0
          cases q0
    · unfold RelD
      exact ⟨a, vs, ev, ⟨.inr rfl, q⟩, relDs_mo Mo.frz t⟩
end
/-- readings over trees as readings of the layer -/
def lift (C : Cn) (Wx : WX) (t : TDE) : TE := fun σ H Q => ∃ R ds h P Z, Env C R ds σ H h ∧ t ds h P Z ∧
  (∀ R' H' h' w v, P w h' → Ex R H R' H' → Env C R' ds σ H' h' → RelW C.K H R' H' w v → Q v H') ∧
  (∀ R' H' h' x cls dd, Z x h' → Ex R H R' H' → Env C R' ds σ H' h' → RelX C R' H' x cls dd → Wx cls dd σ H')
def liftV (C : Cn) (Wx : WX) (t : TDV) : TE := fun σ H Q => ∃ R ds h P Z, Env C R ds σ H h ∧ t ds h P Z ∧
  (∀ R' H' h' w v, P w h' → Ex R H R' H' → Env C R' ds σ H' h' → RelD C.K R' H' w v → Q v H') ∧
  (∀ R' H' h' x cls dd, Z x h' → Ex R H R' H' → Env C R' ds σ H' h' → RelX C R' H' x cls dd → Wx cls dd σ H')
def liftA (C : Cn) (Wx : WX) (t : TDA) : TA := fun σ H Q => ∃ R ds h P Z, Env C R ds σ H h ∧ t ds h P Z ∧
  (∀ R' H' h' w v, P w h' → Ex R H R' H' → Env C R' ds σ H' h' → RelDs C.K R' H' w v → Q v H') ∧
  (∀ R' H' h' x cls dd, Z x h' → Ex R H R' H' → Env C R' ds σ H' h' → RelX C R' H' x cls dd → Wx cls dd σ H')
def liftT (C : Cn) (Wx : WX) (t : TDT) : TT := fun σ H Q => ∃ R ds h P Z, Env C R ds σ H h ∧ t ds h P Z ∧
  (∀ R' H' h' b, P b h' → Ex R H R' H' → Env C R' ds σ H' h' → Q b H') ∧
  (∀ R' H' h' x cls dd, Z x h' → Ex R H R' H' → Env C R' ds σ H' h' → RelX C R' H' x cls dd → Wx cls dd σ H')
theorem _root_.L2.PE.imD {X : Cx} {e : Expr} {t t' : TE} (p : PE X e t) (f : ∀ σ H Q, t' σ H Q → t σ H Q) : PE X e t' := ⟨fun pins s σ H Q I q => p.run pins s σ H Q I (f σ H Q q)⟩
theorem _root_.L2.PT.imD {X : Cx} {e : Expr} {t t' : TT} (p : PT X e t) (f : ∀ σ H Q, t' σ H Q → t σ H Q) : PT X e t' := ⟨fun pins s σ H Q I q => p.run pins s σ H Q I (f σ H Q q)⟩
theorem _root_.L2.PW.imD {X : Cx} {e : Expr} {t t' : TT} (p : PW X e t) (f : ∀ σ H Q, t' σ H Q → t σ H Q) : PW X e t' := ⟨fun wh pins s σ H Q I q => p.run wh pins s σ H Q I (f σ H Q q)⟩
theorem _root_.L2.PA.imD {X : Cx} {e : List Expr} {t t' : TA} (p : PA X e t) (f : ∀ σ H Q, t' σ H Q → t σ H Q) : PA X e t' := ⟨fun pos pins s σ H Q I q => p.run pos pins s σ H Q I (f σ H Q q)⟩
theorem _root_.L2.PS.imD {X : Cx} {e : Stmt} {t t' : TS} (p : PS X e t) (f : ∀ D σ H, t' D σ H → t D σ H) : PS X e t' := ⟨fun pins s σ H Q I q => p.run pins s σ H Q I (f Q σ H q)⟩
theorem _root_.L2.PSs.imD {X : Cx} {e : List Stmt} {t t' : TS} (p : PSs X e t) (f : ∀ D σ H, t' D σ H → t D σ H) : PSs X e t' := ⟨fun pins s σ H Q I q => p.run pins s σ H Q I (f Q σ H q)⟩
/-- a value that is a tree -/
def dD (t : TDE) : TDV := fun ds h P Z => t ds h (fun w h' => ∃ d, toD w = some d ∧ P d h') Z
section
variable {X : Cx} {C : Cn} {Wx : WX}
theorem lift_D {t : TDE} {σ : Sl} {H : Hp} {Q : VK} (q : liftV C Wx (dD t) σ H Q) : lift C Wx t σ H Q := by
  obtain ⟨R, ds, h, P, Z, e, q, k, z⟩ := q
  refine ⟨R, ds, h, _, Z, e, q, fun R' H' h' w v ⟨d, hd, p⟩ x e' r => ?_, z⟩
  obtain ⟨R'', x', e'', r', _⟩ := frzW e x e' r hd
  exact k R'' H' h' d v p x' e'' r'
theorem pe_D {e : Expr} {t : TDE} (p : PE X e (lift C Wx t)) : PE X e (liftV C Wx (dD t)) := p.imD fun _ _ _ q => lift_D q
def dVar (i : Nat) : TDE := fun ds h P _ => ∃ w, ds[i]? = some (some w) ∧ P w h
def dC (d : D) : TDE := fun _ h P _ => P (.d d) h
/-- two operands, the first one tree or in flight -/
def dOp2 (r : W → W → (W → Prop) → Prop) (ta tb : TDE) : TDE := fun ds h P Z => ta ds h (fun x h1 => tb ds h1 (fun y h2 => r x y fun z => P z h2) Z) Z
def dOp1 (r : W → (W → Prop) → Prop) (ta : TDE) : TDE := fun ds h P Z => ta ds h (fun x h1 => r x fun z => P z h1) Z
/-- the wants behind a state, for one more value -/
theorem de_var {i : Nat} {x : Str} {pos : Pos} (hN : X.N[i]? = some x) (hv : Vis X.env.scope x) (hd : (x == ("__debug__" : Str)) = false) (hcd : (x == ("__classdict__" : Str)) = false) : PE X (.Name x pos) (lift C Wx (dVar i)) :=
  (pe_var hN hv hd hcd).imD fun σ H Q q => by
    obtain ⟨R, ds, h, P, Z, e, ⟨w, hw, p⟩, k, z⟩ := q
    obtain ⟨v, hv, r⟩ := e.slot i w hw
    refine ⟨v, hv, k R H h w v p (Ex.refl _ _) e ?_⟩
    cases w with
    | d _ => exact r
    | new xs => exact absurd hw (e.nnew i xs)
    | own _ => exact r
    | fn _ => exact r
/-- a constant of the layer's reading -/
theorem de_c {e : Expr} {v : V} {d : D} (p : PE X e (tC v)) (hr : ∀ R H, RelD C.K R H d v) : PE X e (lift C Wx (dC d)) :=
  p.imD fun σ H Q q => by
    obtain ⟨R, ds, h, P, Z, e, p, k, z⟩ := q
    exact k R H h _ v p (Ex.refl _ _) e (hr R H)
theorem de_int {i j pos} : PE X (.Constant (.int i) j pos) (lift C Wx (dC (.int i))) := de_c pe_int fun _ _ => by unfold RelD; rfl
theorem de_bl {i j pos} : PE X (.Constant (.bool i) j pos) (lift C Wx (dC (.bl i))) := de_c pe_bl fun _ _ => by unfold RelD; rfl
theorem de_non {j pos} : PE X (.Constant .none j pos) (lift C Wx (dC .non)) := de_c pe_non fun _ _ => by unfold RelD; rfl
theorem de_str {i j pos} : PE X (.Constant (.str i) j pos) (lift C Wx (dC (.str i))) := de_c pe_str fun _ _ => by unfold RelD; rfl
/-- two operands in a row, over a rule of the layer -/
theorem op2 {r : R2} {ra : W → W → (W → Prop) → Prop} {ta tb : TDE}
    (hr : ∀ R ds σ H h R0 H0 (x y : W) (v u : V) (Pw : W → Prop) (Q : VK), Env C R ds σ H h → Ex R0 H0 R H → (∃ h0, Env C R0 ds σ H0 h0) → RelW C.K H0 R H x v → RelW C.K H0 R H y u → ra x y Pw →
      (∀ R' H' w z, Pw w → Ex R H R' H' → Env C R' ds σ H' h → RelW C.K H0 R' H' w z → Q z H') → r v u H Q)
    {σ : Sl} {H : Hp} {Q : VK} (q : lift C Wx (dOp2 ra ta tb) σ H Q) : tOp r (lift C Wx ta) (lift C Wx tb) σ H Q := by
  obtain ⟨R, ds, h, P, Z, e, p, k, z⟩ := q
  refine ⟨R, ds, h, _, Z, e, p, fun R1 H1 h1 w1 v1 p1 x1 e1 r1 => ?_, z⟩
  refine ⟨R1, ds, h1, _, Z, e1, p1, fun R2 H2 h2 w2 v2 p2 x2 e2 r2 => ?_, fun R' H' h' x cls dd a b c d => z R' H' h' x cls dd a (x1.trans b) c d⟩
  exact hr R2 ds σ H2 h2 R H w1 w2 v1 v2 _ Q e2 (x1.trans x2) ⟨h, e⟩ (relW_ex e1.ok x2 r1) (relW_start x1.dom r2) p2 fun R' H' w z a b c d => k R' H' h2 w z a ((x1.trans x2).trans b) c d
theorem op1 {r : V → Hp → VK → Prop} {ra : W → (W → Prop) → Prop} {ta : TDE}
    (hr : ∀ R ds σ H h R0 H0 (x : W) (v : V) (Pw : W → Prop) (Q : VK), Env C R ds σ H h → Ex R0 H0 R H → (∃ h0, Env C R0 ds σ H0 h0) → RelW C.K H0 R H x v → ra x Pw →
      (∀ R' H' w z, Pw w → Ex R H R' H' → Env C R' ds σ H' h → RelW C.K H0 R' H' w z → Q z H') → r v H Q)
    {σ : Sl} {H : Hp} {Q : VK} (q : lift C Wx (dOp1 ra ta) σ H Q) : tUn r (lift C Wx ta) σ H Q := by
  obtain ⟨R, ds, h, P, Z, e, p, k, z⟩ := q
  refine ⟨R, ds, h, _, Z, e, p, fun R1 H1 h1 w1 v1 p1 x1 e1 r1 => ?_, z⟩
  exact hr R1 ds σ H1 h1 R H w1 v1 _ Q e1 x1 ⟨h, e⟩ r1 p1 fun R' H' w z a b c d => k R' H' h1 w z a (x1.trans b) c d
end
end DL
set_option maxHeartbeats 4000000
namespace DL
open PySem PySem.Spec PyProof.Rows L2
section
variable {K : Fg} {R : Rg} {H H₁ : Hp}
theorem r_non {v : V} (r : RelD K R H .non v) : v = .non := by unfold RelD at r; exact r
theorem r_bl {b : Bool} {v : V} (r : RelD K R H (.bl b) v) : v = .bl b := by unfold RelD at r; exact r
theorem r_int {i : Int} {v : V} (r : RelD K R H (.int i) v) : v = .int i := by unfold RelD at r; exact r
theorem r_str {x : Str} {v : V} (r : RelD K R H (.str x) v) : v = .str x := by unfold RelD at r; exact r
theorem r_tup {xs : List D} {v : V} (r : RelD K R H (.tup xs) v) : ∃ a vs, v = .ref a ∧ TpL H a vs ∧ RelDs K R H xs vs := by unfold RelD at r; exact r
theorem r_wtp {xs : List D} {v : V} (r : RelD K R H (.wtp xs) v) : ∃ a vs, v = .ref a ∧ WrT K a vs ∧ RelDs K R H xs vs := by unfold RelD at r; exact r
theorem m_wtp {xs : List D} {a : Addr} {vs : List V} (q : WrT K a vs) (r : RelDs K R H xs vs) : RelD K R H (.wtp xs) (.ref a) := by unfold RelD; exact ⟨a, vs, rfl, q, r⟩
theorem r_lst {xs : List D} {v : V} (r : RelD K R H (.lst xs) v) : ∃ a vs, v = .ref a ∧ FzL R H a vs ∧ RelDs K R H xs vs := by unfold RelD at r; exact r
theorem r_fro {xs : List D} {v : V} (r : RelD K R H (.fro xs) v) : ∃ a vs, v = .ref a ∧ FoL K H a vs ∧ RelDs K R H xs vs := by unfold RelD at r; exact r
theorem r_ref {n : Nat} {v : V} (r : RelD K R H (.ref n) v) : n < R.n ∧ v = .ref (R.at_ n) := by unfold RelD at r; exact r
theorem m_non : RelD K R H .non .non := by unfold RelD; rfl
theorem m_bl {b : Bool} : RelD K R H (.bl b) (.bl b) := by unfold RelD; rfl
theorem m_int {i : Int} : RelD K R H (.int i) (.int i) := by unfold RelD; rfl
theorem m_str {x : Str} : RelD K R H (.str x) (.str x) := by unfold RelD; rfl
theorem m_tup {xs : List D} {a : Addr} {vs : List V} (q : TpL H a vs) (r : RelDs K R H xs vs) : RelD K R H (.tup xs) (.ref a) := by unfold RelD; exact ⟨a, vs, rfl, q, r⟩
theorem m_nil : RelDs K R H [] [] := by unfold RelDs; rfl
theorem m_cons {d : D} {ds : List D} {v : V} {vs : List V} (r : RelD K R H d v) (t : RelDs K R H ds vs) : RelDs K R H (d :: ds) (v :: vs) := by unfold RelDs; exact ⟨v, vs, rfl, r, t⟩
theorem r_nil {vs : List V} (r : RelDs K R H [] vs) : vs = [] := by unfold RelDs at r; exact r
theorem r_cons {d : D} {ds : List D} {vs : List V} (r : RelDs K R H (d :: ds) vs) : ∃ v q, vs = v :: q ∧ RelD K R H d v ∧ RelDs K R H ds q := by unfold RelDs at r; exact r
theorem rw_non {v : V} (r : RelW K H₁ R H (.d .non) v) : v = .non := by unfold RelW at r; exact r_non r
theorem rw_bl {b : Bool} {v : V} (r : RelW K H₁ R H (.d (.bl b)) v) : v = .bl b := by unfold RelW at r; exact r_bl r
theorem rw_int {i : Int} {v : V} (r : RelW K H₁ R H (.d (.int i)) v) : v = .int i := by unfold RelW at r; exact r_int r
theorem rw_str {x : Str} {v : V} (r : RelW K H₁ R H (.d (.str x)) v) : v = .str x := by unfold RelW at r; exact r_str r
theorem rw_tup {xs : List D} {v : V} (r : RelW K H₁ R H (.d (.tup xs)) v) : ∃ a vs, v = .ref a ∧ TpL H a vs ∧ RelDs K R H xs vs := by unfold RelW at r; exact r_tup r
theorem mw_bl {b : Bool} : RelW K H₁ R H (.d (.bl b)) (.bl b) := by unfold RelW; exact m_bl
theorem mw_int {i : Int} : RelW K H₁ R H (.d (.int i)) (.int i) := by unfold RelW; exact m_int
theorem mw_str {x : Str} : RelW K H₁ R H (.d (.str x)) (.str x) := by unfold RelW; exact m_str
theorem mw_tup {xs : List D} {a : Addr} {vs : List V} (q : TpL H a vs) (r : RelDs K R H xs vs) : RelW K H₁ R H (.d (.tup xs)) (.ref a) := by unfold RelW; exact m_tup q r
/-- the items of a list, whichever; of a list or tuple -/
def lstW : W → Option (List D)
  | .d (.lst xs) => some xs
  | .d (.fro xs) => some xs
  | .new xs => some xs
  | .own xs => some xs
  | _ => none
/-- a list that may be joined: tracked -/
def lsjW : W → Option (List D)
  | .d (.lst xs) => some xs
  | .new xs => some xs
  | .own xs => some xs
  | _ => none
def tupW : W → Option (List D)
  | .d (.tup xs) => some xs
  | _ => none
def seqW (w : W) : Option (List D) := (lstW w).or (tupW w)
theorem rel_lsj {w : W} {v : V} {xs : List D} (r : RelW K H₁ R H w v) (e : lsjW w = some xs) : ∃ a vs, v = .ref a ∧ H a = some (.lst vs) ∧ RelDs K R H xs vs := by
  cases w with
  | d x =>
    cases x with
    | lst ys => cases e; obtain ⟨a, vs, e, q, t⟩ := r_lst r; exact ⟨a, vs, e, q.2, t⟩
    | _ => cases e
  | new ys => cases e; obtain ⟨a, vs, e, _, q, _, _, t⟩ := r; exact ⟨a, vs, e, q, t⟩
  | own ys => cases e; obtain ⟨a, vs, e, q, _, _, t⟩ := r; exact ⟨a, vs, e, q, t⟩
  | fn _ => cases e
theorem rel_lst {w : W} {v : V} {xs : List D} (r : RelW K H₁ R H w v) (e : lstW w = some xs) : ∃ a vs, v = .ref a ∧ SqL K H a vs ∧ RelDs K R H xs vs := by
  cases w with
  | d x =>
    cases x with
    | lst ys => cases e; obtain ⟨a, vs, e, q, t⟩ := r_lst r; exact ⟨a, vs, e, q.sq, t⟩
    | fro ys => cases e; obtain ⟨a, vs, e, q, t⟩ := r_fro r; exact ⟨a, vs, e, q.sq, t⟩
    | _ => cases e
  | new ys => cases e; obtain ⟨a, vs, e, _, q, _, _, t⟩ := r; exact ⟨a, vs, e, .inl (.inl q), t⟩
  | own ys => cases e; obtain ⟨a, vs, e, q, _, _, t⟩ := r; exact ⟨a, vs, e, .inl (.inl q), t⟩
  | fn _ => cases e
theorem rel_tup {w : W} {v : V} {xs : List D} (r : RelW K H₁ R H w v) (e : tupW w = some xs) : ∃ a vs, v = .ref a ∧ TpL H a vs ∧ RelDs K R H xs vs := by
  cases w with
  | d x =>
    cases x with
    | tup ys => cases e; exact r_tup r
    | _ => cases e
  | new ys => cases e
  | own ys => cases e
  | fn _ => cases e
theorem rel_seq {w : W} {v : V} {xs : List D} (r : RelW K H₁ R H w v) (e : seqW w = some xs) : ∃ a vs, v = .ref a ∧ (SqL K H a vs ∨ SqT K H a vs) ∧ RelDs K R H xs vs := by
  unfold seqW at e
  cases q : lstW w with
  | some ys =>
    rw [q] at e
    cases e
    obtain ⟨a, vs, e, s, t⟩ := rel_lst r q
    exact ⟨a, vs, e, .inl s, t⟩
  | none =>
    rw [q] at e
    obtain ⟨a, vs, e, s, t⟩ := rel_tup r e
    exact ⟨a, vs, e, .inr s.sq, t⟩
theorem rel_seqT {w : W} {v : V} {xs : List D} (r : RelW K H₁ R H w v) (e : seqW w = some xs) : ∃ a vs, v = .ref a ∧ (SqL K H a vs ∨ TpL H a vs) ∧ RelDs K R H xs vs := by
  unfold seqW at e
  cases q : lstW w with
  | some ys =>
    rw [q] at e
    cases e
    obtain ⟨a, vs, e, s, t⟩ := rel_lst r q
    exact ⟨a, vs, e, .inl s, t⟩
  | none =>
    rw [q] at e
    obtain ⟨a, vs, e, s, t⟩ := rel_tup r e
    exact ⟨a, vs, e, .inr s, t⟩
mutual
def toPy : D → Option PyData
  | .non => some .none
  | .bl b => some (.bool b)
  | .int i => some (.int i)
  | .str x => some (.str x)
  | .ty _ => none
  | .ref _ => none
  | .tup xs => (toPys xs).map .tuple
  | .lst xs => (toPys xs).map .list
  | .fro xs => (toPys xs).map .list
  | .wtp xs => (toPys xs).map .tuple
def toPys : List D → Option (List PyData)
  | [] => some []
  | x :: xs => match toPy x, toPys xs with
    | some a, some b => some (a :: b)
    | _, _ => none
end
def pyW : W → Option PyData
  | .d x => toPy x
  | .new xs => (toPys xs).map .list
  | .own xs => (toPys xs).map .list
  | .fn _ => none
mutual
theorem dp_of : ∀ {d : D} {v : V} {p : PyData}, RelD K R H d v → toPy d = some p → Dp K H v p
  | .non, v, p, r, e => by unfold toPy at e; cases e; cases r_non r; exact .non
  | .bl _, v, p, r, e => by unfold toPy at e; cases e; cases r_bl r; exact .bl _
  | .int _, v, p, r, e => by unfold toPy at e; cases e; cases r_int r; exact .int _
  | .str _, v, p, r, e => by unfold toPy at e; cases e; cases r_str r; exact .str _
  | .ty _, v, p, r, e => by unfold toPy at e; cases e
  | .ref _, v, p, r, e => by unfold toPy at e; cases e
  | .tup xs, v, p, r, e => by
    unfold toPy at e
    obtain ⟨ps, e1, rfl⟩ := Option.map_eq_some_iff.mp e
    obtain ⟨a, vs, rfl, q, t⟩ := r_tup r
    exact .tup q.sq (dps_of t e1)
  | .wtp xs, v, p, r, e => by
    unfold toPy at e
    obtain ⟨ps, e1, rfl⟩ := Option.map_eq_some_iff.mp e
    obtain ⟨a, vs, rfl, q, t⟩ := r_wtp r
    exact .tup (q H) (dps_of t e1)
  | .lst xs, v, p, r, e => by
    unfold toPy at e
    obtain ⟨ps, e1, rfl⟩ := Option.map_eq_some_iff.mp e
    obtain ⟨a, vs, rfl, q, t⟩ := r_lst r
    exact .lst q.sq (dps_of t e1)
  | .fro xs, v, p, r, e => by
    unfold toPy at e
    obtain ⟨ps, e1, rfl⟩ := Option.map_eq_some_iff.mp e
    obtain ⟨a, vs, rfl, q, t⟩ := r_fro r
    exact .lst q.sq (dps_of t e1)
theorem dps_of : ∀ {ds : List D} {vs : List V} {ps : List PyData}, RelDs K R H ds vs → toPys ds = some ps → DpAll K H vs ps
  | [], vs, ps, r, e => by unfold toPys at e; cases e; cases r_nil r; exact .nil
  | d :: ds, vs, ps, r, e => by
    unfold toPys at e
    obtain ⟨v, q, rfl, r1, r2⟩ := r_cons r
    split at e
    · rename_i a b e1 e2
      cases e
      exact .cons (dp_of r1 e1) (dps_of r2 e2)
    · cases e
end
theorem dpW_of {w : W} {v : V} {p : PyData} (r : RelW K H₁ R H w v) (e : pyW w = some p) : Dp K H v p := by
  cases w with
  | d x => exact dp_of r e
  | new xs =>
    obtain ⟨ps, e1, rfl⟩ := Option.map_eq_some_iff.mp e
    obtain ⟨a, vs, rfl, _, q, _, _, t⟩ := r
    exact .lst (.inl (.inl q)) (dps_of t e1)
  | fn _ => cases e
  | own xs =>
    obtain ⟨ps, e1, rfl⟩ := Option.map_eq_some_iff.mp e
    obtain ⟨a, vs, rfl, q, _, _, t⟩ := r
    exact .lst (.inl (.inl q)) (dps_of t e1)
end
inductive Bop where
  | add | sub | mul | fdiv | mod | pow | shl | shr | and | or | xor
def Bop.py : Bop → Operator
  | .add => .Add | .sub => .Sub | .mul => .Mult | .fdiv => .FloorDiv | .mod => .Mod | .pow => .Pow | .shl => .LShift | .shr => .RShift | .and => .BitAnd | .or => .BitOr | .xor => .BitXor
def CMulA (i j : Int) : Prop := CMul i j ∨ CMulW i j
def CDivA (i j : Int) : Prop := CDiv i j ∨ CDivW i j
def CShlA (i j : Int) : Prop := CPow i j ∨ CShl i j
def wInt (op : Bop) (i j : Int) (Q : W → Prop) : Prop := match op with
  | .add => Q (.d (.int (i + j)))
  | .sub => Q (.d (.int (i - j)))
  | .mul => CMulA i j ∧ Q (.d (.int (i * j)))
  | .fdiv => CDivA i j ∧ Q (.d (.int (i / j)))
  | .mod => 0 < j ∧ Q (.d (.int (i % j)))
  | .pow => CPow i j ∧ Q (.d (.int (i ^ j.toNat)))
  | .shl => CShlA i j ∧ Q (.d (.int (i * 2 ^ j.toNat)))
  | .shr => 0 ≤ j ∧ Q (.d (.int (i / 2 ^ j.toNat)))
  | .and => Q (.d (.int (Builtin.bitAnd i j)))
  | .or => Q (.d (.int (Builtin.bitOr i j)))
  | .xor => Q (.d (.int (Builtin.bitXor i j)))
/-- + of texts, tuples, lists -/
def wCat (x y : W) (Q : W → Prop) : Prop := match x, y with
  | .d (.str a), .d (.str b) => a.length + b.length ≤ sizeLine ∧ Q (.d (.str (a ++ b)))
  | .d (.tup xs), .d (.tup ys) => xs.length + ys.length ≤ sizeLine ∧ Q (.d (.tup (xs ++ ys)))
  | x, y => match lsjW x, lsjW y with
    | some xs, some ys => xs.length + ys.length ≤ sizeLine ∧ Q (.new (xs ++ ys))
    | _, _ => False
def wBin (op : Bop) (x y : W) (Q : W → Prop) : Prop := match x, y with
  | .d (.int i), .d (.int j) => wInt op i j Q
  | x, y => match op with
    | .add => wCat x y Q
    | _ => False
section
variable {X : Cx} {C : Cn} {Wx : WX}
def rInt (op : Bop) : R2 := fun x y H Q => ∃ i j, x = .int i ∧ y = .int j ∧ wInt op i j fun w => ∃ k, w = .d (.int k) ∧ Q (.int k) H
theorem op_int (op : Bop) : OpR X (binaryOp op.py) (rInt op) := by
  intro pins s σ H x y v u Q I rx ry h
  obtain ⟨i, j, rfl, rfl, h⟩ := h
  cases op with
  | add => obtain ⟨k, e, q⟩ := h; cases e; exact op_add pins s σ H _ _ v u Q I rx ry ⟨i, j, rfl, rfl, q⟩
  | sub => obtain ⟨k, e, q⟩ := h; cases e; exact op_sub pins s σ H _ _ v u Q I rx ry ⟨i, j, rfl, rfl, q⟩
  | mul =>
    obtain ⟨c, k, e, q⟩ := h; cases e
    rcases c with c | c
    · exact op_mul pins s σ H _ _ v u Q I rx ry ⟨i, j, rfl, rfl, c, q⟩
    · exact op_mulW pins s σ H _ _ v u Q I rx ry ⟨i, j, rfl, rfl, c, q⟩
  | fdiv =>
    obtain ⟨c, k, e, q⟩ := h; cases e
    rcases c with c | c
    · exact op_fdiv pins s σ H _ _ v u Q I rx ry ⟨i, j, rfl, rfl, c, q⟩
    · exact op_fdivW pins s σ H _ _ v u Q I rx ry ⟨i, j, rfl, rfl, c, q⟩
  | mod => obtain ⟨c, k, e, q⟩ := h; cases e; exact op_mod pins s σ H _ _ v u Q I rx ry ⟨i, j, rfl, rfl, c, q⟩
  | pow => obtain ⟨c, k, e, q⟩ := h; cases e; exact op_pow pins s σ H _ _ v u Q I rx ry ⟨i, j, rfl, rfl, c, q⟩
  | shl =>
    obtain ⟨c, k, e, q⟩ := h; cases e
    rcases c with c | c
    · exact op_shl pins s σ H _ _ v u Q I rx ry ⟨i, j, rfl, rfl, c, q⟩
    · exact op_shlW pins s σ H _ _ v u Q I rx ry ⟨i, j, rfl, rfl, c, q⟩
  | shr => obtain ⟨c, k, e, q⟩ := h; cases e; exact op_shr pins s σ H _ _ v u Q I rx ry ⟨i, j, rfl, rfl, c, q⟩
  | and => obtain ⟨k, e, q⟩ := h; cases e; exact op_and pins s σ H _ _ v u Q I rx ry ⟨i, j, rfl, rfl, q⟩
  | or => obtain ⟨k, e, q⟩ := h; cases e; exact op_or pins s σ H _ _ v u Q I rx ry ⟨i, j, rfl, rfl, q⟩
  | xor => obtain ⟨k, e, q⟩ := h; cases e; exact op_xor pins s σ H _ _ v u Q I rx ry ⟨i, j, rfl, rfl, q⟩
theorem wInt_mono {op : Bop} {i j : Int} {Q Q' : W → Prop} (h : wInt op i j Q) (f : ∀ k, Q (.d (.int k)) → Q' (.d (.int k))) : wInt op i j Q' := by
  cases op <;> first | exact f _ h | exact ⟨h.1, f _ h.2⟩
def rCatS : R2 := fun x y H Q => ∃ i j, x = .str i ∧ y = .str j ∧ i.length + j.length ≤ sizeLine ∧ Q (.str (i ++ j)) H
def rBin (K : Fg) (op : Bop) : R2 := fun x y H Q => rInt op x y H Q ∨ (op = .add ∧ (rCatS x y H Q ∨ rCatA K x y H Q ∨ rCat x y H Q))
theorem op_bin (op : Bop) : OpR X (binaryOp op.py) (rBin X.K op) := by
  intro pins s σ H x y v u Q I rx ry h
  rcases h with h | ⟨rfl, h | h | h⟩
  · exact op_int op pins s σ H x y v u Q I rx ry h
  · exact op_add_str pins s σ H x y v u Q I rx ry h
  · exact op_catA pins s σ H x y v u Q I rx ry h
  · exact op_cat pins s σ H x y v u Q I rx ry h
end
end DL
set_option maxHeartbeats 4000000
namespace DL
theorem room65 {k : Nat} {A : PySem.Around} (r : L2.Room k A) : A.units + 65 < PySem.cLine := by have := r.un; omega
open PySem PySem.Spec PyProof.Rows L2
section
variable {X : Cx} {C : Cn} {Wx : WX}
/-- a value that was there, behind the last state -/
abbrev Kont (C : Cn) (ds : DSt) (σ : Sl) (h : Hs) (R : Rg) (H H0 : Hp) (Pw : W → Prop) (Q : VK) : Prop :=
  ∀ R' H' w z, Pw w → Ex R H R' H' → Env C R' ds σ H' h → RelW C.K H0 R' H' w z → Q z H'
theorem seqT_len {H : Hp} {R : Rg} {xs ys : List D} {vs us : List V} (a : RelDs C.K R H xs vs) (b : RelDs C.K R H ys us) (l : xs.length + ys.length ≤ sizeLine) : vs.length + us.length ≤ sizeLine := by
  rw [← relDs_len a, ← relDs_len b]; exact l
theorem s_cat {R : Rg} {ds : DSt} {σ : Sl} {H : Hp} {h : Hs} {R0 : Rg} {H0 : Hp} {x y : W} {v u : V} {Pw : W → Prop} {Q : VK} (e : Env C R ds σ H h) (ex : Ex R0 H0 R H)
    (rx : RelW C.K H0 R H x v) (ry : RelW C.K H0 R H y u) (p : wCat x y Pw) (k : Kont C ds σ h R H H0 Pw Q) : rCatS v u H Q ∨ rCatA C.K v u H Q ∨ rCat v u H Q := by
  unfold wCat at p
  split at p
  · cases rw_str rx; cases rw_str ry
    exact .inl ⟨_, _, rfl, rfl, p.1, k R H _ _ p.2 (Ex.refl _ _) e mw_str⟩
  · rename_i xs ys
    obtain ⟨a, vs, rfl, q, t⟩ := rw_tup rx
    obtain ⟨b, us, rfl, q', t'⟩ := rw_tup ry
    refine .inr (.inl ⟨a, b, vs, us, rfl, rfl, q.sq, q'.sq, seqT_len t t' p.1, fun z => ?_, fun _ z => ?_, fun _ _ pp np => ?_⟩)
    · subst z
      have : xs = [] := List.eq_nil_of_length_eq_zero (relDs_len t)
      subst this
      exact k R H _ _ p.2 (Ex.refl _ _) e (mw_tup q' t')
    · subst z
      have : ys = [] := List.eq_nil_of_length_eq_zero (relDs_len t')
      subst this
      rw [List.append_nil] at p
      exact k R H _ _ p.2 (Ex.refl _ _) e (mw_tup q t)
    · have e' := e.fresh (o := .tup (vs ++ us)) np
      exact k R _ _ _ p.2 (Ex.fresh np) e' (mw_tup upd_same (relDs_append (relDs_ex e.ok (Ex.fresh np) t) (relDs_ex e.ok (Ex.fresh np) t')))
  · split at p
    · rename_i xs ys e1 e2
      obtain ⟨a, vs, rfl, q, t⟩ := rel_lsj rx e1
      obtain ⟨b, us, rfl, q', t'⟩ := rel_lsj ry e2
      refine .inr (.inr ⟨a, b, vs, us, rfl, rfl, q, q', seqT_len t t' p.1, fun pp np => ?_⟩)
      have e' := e.fresh (o := .lst (vs ++ us)) np
      have nf := e.ok.nfresh np
      exact k R _ _ _ p.2 (Ex.fresh np) e' ⟨pp, vs ++ us, rfl, ex.dom pp np, upd_same, nf.1, nf.2, relDs_append (relDs_ex e.ok (Ex.fresh np) t) (relDs_ex e.ok (Ex.fresh np) t')⟩
    · exact p.elim
theorem s_bin {op : Bop} {R : Rg} {ds : DSt} {σ : Sl} {H : Hp} {h : Hs} {R0 : Rg} {H0 : Hp} {x y : W} {v u : V} {Pw : W → Prop} {Q : VK} (e : Env C R ds σ H h) (ex : Ex R0 H0 R H)
    (rx : RelW C.K H0 R H x v) (ry : RelW C.K H0 R H y u) (p : wBin op x y Pw) (k : Kont C ds σ h R H H0 Pw Q) : rBin C.K op v u H Q := by
  unfold wBin at p
  split at p
  · cases rw_int rx; cases rw_int ry
    exact .inl ⟨_, _, rfl, rfl, wInt_mono p fun n q => ⟨n, rfl, k R H _ _ q (Ex.refl _ _) e mw_int⟩⟩
  · split at p
    · exact .inr ⟨rfl, s_cat e ex rx ry p k⟩
    · exact p.elim
theorem de_bin {a b : Expr} {ta tb : TDE} {pos : Pos} {op : Bop} (hK : C.K = X.K) (ha : PE X a (lift C Wx ta)) (hb : PE X b (lift C Wx tb)) : PE X (.BinOp a op.py b pos) (lift C Wx (dOp2 (wBin op) ta tb)) :=
  (pe_op (op_bin op) ha hb).imD fun σ H Q q => op2 (fun R ds σ H h R0 H0 x y v u Pw Q e ex _ rx ry p k => hK ▸ s_bin e ex rx ry p k) q
def wNeg (x : W) (Q : W → Prop) : Prop := match x with
  | .d (.int i) => Q (.d (.int (-i)))
  | _ => False
theorem de_neg {a : Expr} {ta : TDE} {pos : Pos} (ha : PE X a (lift C Wx ta)) : PE X (.UnaryOp .USub a pos) (lift C Wx (dOp1 wNeg ta)) :=
  (pe_un un_neg ha).imD fun σ H Q q => op1 (fun R ds σ H h R0 H0 x v Pw Q e ex _ rx p k => by
    unfold wNeg at p
    split at p
    · cases rw_int rx
      exact ⟨_, rfl, k R H _ _ p (Ex.refl _ _) e mw_int⟩
    · exact p.elim) q
inductive Cop where
  | eq | ne | lt | le | gt | ge | in_ | nin
def Cop.py : Cop → CmpOp
  | .eq => .Eq | .ne => .NotEq | .lt => .Lt | .le => .LtE | .gt => .Gt | .ge => .GtE | .in_ => .In | .nin => .NotIn
def wData (neg : Bool) (x y : W) (Q : W → Prop) : Prop := ∃ a b, pyW x = some a ∧ pyW y = some b ∧ SeqAt.shaped a = true ∧ SeqAt.shaped b = true ∧ Q (.d (.bl (if neg then !PyData.eqv a b else PyData.eqv a b)))
def wEq (neg : Bool) (x y : W) (Q : W → Prop) : Prop := match x, y with
  | .d (.int i), .d (.int j) => Q (.d (.bl (if neg then !decide (i = j) else decide (i = j))))
  | .d (.str i), .d (.str j) => Q (.d (.bl (if neg then !decide (i = j) else decide (i = j))))
  | x, y => wData neg x y Q
def wLt (op : Cop) (x y : W) (Q : W → Prop) : Prop := match x, y with
  | .d (.int i), .d (.int j) => (match op with
    | .lt => Q (.d (.bl (decide (i < j))))
    | .le => Q (.d (.bl (decide (i ≤ j))))
    | .gt => Q (.d (.bl (decide (j < i))))
    | .ge => Q (.d (.bl (decide (j ≤ i))))
    | _ => False)
  | .d (.str i), .d (.str j) => (match op with
    | .lt => Q (.d (.bl (decide (i.cps.toList < j.cps.toList))))
    | .le => Q (.d (.bl (!decide (j.cps.toList < i.cps.toList))))
    | .gt => Q (.d (.bl (decide (j.cps.toList < i.cps.toList))))
    | .ge => Q (.d (.bl (!decide (i.cps.toList < j.cps.toList))))
    | _ => False)
  | _, _ => False
/-- x in y: one sign in a text; a text in a list or tuple of texts -/
def wIn (neg : Bool) (x y : W) (Q : W → Prop) : Prop := match x, y with
  | .d (.str i), .d (.str j) => ∃ c, i = ⟨#[c]⟩ ∧ Q (.d (.bl (if neg then !decide (c ∈ j.cps.toList) else decide (c ∈ j.cps.toList))))
  | .d (.str i), y => ∃ zs : List Str, seqW y = some (zs.map D.str) ∧ Q (.d (.bl (if neg then !decide (i ∈ zs) else decide (i ∈ zs))))
  | .d (.int i), y => ∃ zs : List Int, seqW y = some (zs.map D.int) ∧ Q (.d (.bl (if neg then !decide (i ∈ zs) else decide (i ∈ zs))))
  | x, y => ∃ d ds, pyW x = some d ∧ pyW y = some (.list ds) ∧ SeqAt.shaped d = true ∧ SeqAt.shaped (.list ds) = true ∧ Q (.d (.bl (if neg then !(ds.any fun z => PyData.eqv z d) else ds.any fun z => PyData.eqv z d)))
def wCmp (op : Cop) (x y : W) (Q : W → Prop) : Prop := match op with
  | .eq => wEq false x y Q
  | .ne => wEq true x y Q
  | .in_ => wIn false x y Q
  | .nin => wIn true x y Q
  | op => wLt op x y Q
theorem inV_str {i : Str} : ∀ {zs : List Str}, inV (.str i) (zs.map V.str) = decide (i ∈ zs)
  | [] => by simp [inV]
  | z :: zs => by
    have ih := inV_str (i := i) (zs := zs)
    unfold inV at ih ⊢
    rw [List.map_cons, List.any_cons, ih]
    show ((z == i) || _) = _
    by_cases q : z = i
    · subst q; simp
    · have q' : ¬ i = z := fun e => q e.symm
      simp [q, q']
theorem inV_int {i : Int} : ∀ {zs : List Int}, inV (.int i) (zs.map V.int) = decide (i ∈ zs)
  | [] => by simp [inV]
  | z :: zs => by
    have ih := inV_int (i := i) (zs := zs)
    unfold inV at ih ⊢
    rw [List.map_cons, List.any_cons, ih]
    show ((z == i) || _) = _
    by_cases q : z = i
    · subst q; simp
    · have q' : ¬ i = z := fun e => q e.symm
      simp [q, q']
theorem flat_str : ∀ {zs : List Str}, (zs.map V.str).all flatV = true
  | [] => rfl
  | z :: zs => by rw [List.map_cons, List.all_cons, flat_str]; rfl
theorem flat_int : ∀ {zs : List Int}, (zs.map V.int).all flatV = true
  | [] => rfl
  | z :: zs => by rw [List.map_cons, List.all_cons, flat_int]; rfl
/-- the layer's rules, joined -/
def rCmp (K : Fg) (op : Cop) : R2 := fun x y H Q => match op with
  | .eq => rEq x y H Q ∨ rEqD K x y H Q
  | .ne => rNe x y H Q ∨ rNeD K x y H Q
  | .lt => (∃ i j, x = .int i ∧ y = .int j ∧ Q (.bl (decide (i < j))) H) ∨ ∃ i j, x = .str i ∧ y = .str j ∧ Q (.bl (decide (i.cps.toList < j.cps.toList))) H
  | .le => (∃ i j, x = .int i ∧ y = .int j ∧ Q (.bl (decide (i ≤ j))) H) ∨ ∃ i j, x = .str i ∧ y = .str j ∧ Q (.bl (!decide (j.cps.toList < i.cps.toList))) H
  | .gt => (∃ i j, x = .int i ∧ y = .int j ∧ Q (.bl (decide (j < i))) H) ∨ ∃ i j, x = .str i ∧ y = .str j ∧ Q (.bl (decide (j.cps.toList < i.cps.toList))) H
  | .ge => (∃ i j, x = .int i ∧ y = .int j ∧ Q (.bl (decide (j ≤ i))) H) ∨ ∃ i j, x = .str i ∧ y = .str j ∧ Q (.bl (!decide (i.cps.toList < j.cps.toList))) H
  | .in_ => (∃ (c : Nat) (z : Str), x = .str ⟨#[c]⟩ ∧ y = .str z ∧ Q (.bl (decide (c ∈ z.cps.toList))) H) ∨ rIn K false x y H Q ∨ rInD K x y H Q
  | .nin => (∃ (c : Nat) (z : Str), x = .str ⟨#[c]⟩ ∧ y = .str z ∧ Q (.bl (!decide (c ∈ z.cps.toList))) H) ∨ rIn K true x y H Q ∨ rNotInD K x y H Q
theorem op_cmp (op : Cop) (hu : X.A.units + 65 < cLine) : OpR X (compareOp op.py) (rCmp X.K op) := by
  intro pins s σ H x y v u Q I rx ry h
  cases op with
  | eq =>
    rcases h with h | h
    · exact op_eq pins s σ H x y v u Q I rx ry h
    · exact op_eqD (Nat.lt_of_le_of_lt (by omega) hu) pins s σ H x y v u Q I rx ry h
  | ne =>
    rcases h with h | h
    · exact op_ne pins s σ H x y v u Q I rx ry h
    · exact op_neD (Nat.lt_of_le_of_lt (by omega) hu) pins s σ H x y v u Q I rx ry h
  | lt =>
    rcases h with h | h
    · exact op_lt pins s σ H x y v u Q I rx ry h
    · exact op_lt_str pins s σ H x y v u Q I rx ry h
  | le =>
    rcases h with h | h
    · exact op_le pins s σ H x y v u Q I rx ry h
    · exact op_le_str pins s σ H x y v u Q I rx ry h
  | gt =>
    rcases h with h | h
    · exact op_gt pins s σ H x y v u Q I rx ry h
    · exact op_gt_str pins s σ H x y v u Q I rx ry h
  | ge =>
    rcases h with h | h
    · exact op_ge pins s σ H x y v u Q I rx ry h
    · exact op_ge_str pins s σ H x y v u Q I rx ry h
  | in_ =>
    rcases h with h | h | h
    · exact op_in_sign pins s σ H x y v u Q I rx ry h
    · exact op_in_seq pins s σ H x y v u Q I rx ry h
    · exact op_inD hu pins s σ H x y v u Q I rx ry h
  | nin =>
    rcases h with h | h | h
    · exact op_notIn_sign pins s σ H x y v u Q I rx ry h
    · exact op_notIn_seq pins s σ H x y v u Q I rx ry h
    · exact op_notInD hu pins s σ H x y v u Q I rx ry h
theorem decI {i j : Int} : decide (V.int i = V.int j) = decide (i = j) := by rw [Bool.eq_iff_iff]; simp
theorem decS {i j : Str} : decide (V.str i = V.str j) = decide (i = j) := by rw [Bool.eq_iff_iff]; simp
theorem s_cmp {op : Cop} {R : Rg} {ds : DSt} {σ : Sl} {H : Hp} {h : Hs} {R0 : Rg} {H0 : Hp} {x y : W} {v u : V} {Pw : W → Prop} {Q : VK} (e : Env C R ds σ H h) (ex : Ex R0 H0 R H)
    (rx : RelW C.K H0 R H x v) (ry : RelW C.K H0 R H y u) (p : wCmp op x y Pw) (k : Kont C ds σ h R H H0 Pw Q) : rCmp C.K op v u H Q := by
  have kb : ∀ b, Pw (.d (.bl b)) → Q (.bl b) H := fun b pb => k R H _ _ pb (Ex.refl _ _) e mw_bl
  have eqc : ∀ neg, wEq neg x y Pw → (scal v u = true ∧ Q (.bl (if neg then !decide (v = u) else decide (v = u))) H) ∨
      ∃ d e, Dp C.K H v d ∧ Dp C.K H u e ∧ SeqAt.shaped d = true ∧ SeqAt.shaped e = true ∧ Q (.bl (if neg then !PyData.eqv d e else PyData.eqv d e)) H := by
    intro neg p
    unfold wEq at p
    split at p
    · cases rw_int rx; cases rw_int ry
      refine .inl ⟨rfl, ?_⟩
      rw [decI]
      exact kb _ p
    · cases rw_str rx; cases rw_str ry
      refine .inl ⟨rfl, ?_⟩
      rw [decS]
      exact kb _ p
    · obtain ⟨a, b, e1, e2, s1, s2, p⟩ := p
      exact .inr ⟨a, b, dpW_of rx e1, dpW_of ry e2, s1, s2, kb _ p⟩
  have ltc : ∀ (op : Cop) (f : Int → Int → Bool) (g : Str → Str → Bool), (∀ i j, wLt op (.d (.int i)) (.d (.int j)) Pw → Pw (.d (.bl (f i j)))) → (∀ i j, wLt op (.d (.str i)) (.d (.str j)) Pw → Pw (.d (.bl (g i j)))) → wLt op x y Pw →
      (∃ i j, v = .int i ∧ u = .int j ∧ Q (.bl (f i j)) H) ∨ ∃ i j, v = .str i ∧ u = .str j ∧ Q (.bl (g i j)) H := by
    intro op f g h1 h2 p
    have p0 := p
    unfold wLt at p
    split at p
    · cases rw_int rx; cases rw_int ry
      exact .inl ⟨_, _, rfl, rfl, kb _ (h1 _ _ p0)⟩
    · cases rw_str rx; cases rw_str ry
      exact .inr ⟨_, _, rfl, rfl, kb _ (h2 _ _ p0)⟩
    · exact p.elim
  have inc : ∀ neg, wIn neg x y Pw → (∃ (c : Nat) (z : Str), v = .str ⟨#[c]⟩ ∧ u = .str z ∧ Q (.bl (if neg then !decide (c ∈ z.cps.toList) else decide (c ∈ z.cps.toList))) H) ∨ rIn C.K neg v u H Q ∨ ∃ d ds, Dp C.K H v d ∧ Dp C.K H u (.list ds) ∧ SeqAt.shaped d = true ∧ SeqAt.shaped (.list ds) = true ∧ Q (.bl (if neg then !(ds.any fun z => PyData.eqv z d) else ds.any fun z => PyData.eqv z d)) H := by
    intro neg p
    unfold wIn at p
    split at p
    · cases rw_str rx; cases rw_str ry
      obtain ⟨c, ec, p2⟩ := p
      subst ec
      exact .inl ⟨c, _, rfl, rfl, kb _ p2⟩
    · cases rw_str rx
      obtain ⟨zs, e1, p⟩ := p
      obtain ⟨a, vs, rfl, q, t⟩ := rel_seq ry e1
      cases relDs_strs t
      refine .inr (.inl ⟨a, _, rfl, q, rfl, flat_str, ?_⟩)
      rw [inV_str]
      exact kb _ p
    · cases rw_int rx
      obtain ⟨zs, e1, p⟩ := p
      obtain ⟨a, vs, rfl, q, t⟩ := rel_seq ry e1
      cases relDs_ints t
      refine .inr (.inl ⟨a, _, rfl, q, rfl, flat_int, ?_⟩)
      rw [inV_int]
      exact kb _ p
    · obtain ⟨d, ds, e1, e2, s1, s2, p⟩ := p
      exact .inr (.inr ⟨d, ds, dpW_of rx e1, dpW_of ry e2, s1, s2, kb _ p⟩)
  cases op with
  | eq => exact eqc false p
  | ne => exact eqc true p
  | lt => exact ltc .lt _ _ (fun _ _ z => z) (fun _ _ z => z) p
  | le => exact ltc .le _ _ (fun _ _ z => z) (fun _ _ z => z) p
  | gt => exact ltc .gt _ _ (fun _ _ z => z) (fun _ _ z => z) p
  | ge => exact ltc .ge _ _ (fun _ _ z => z) (fun _ _ z => z) p
  | in_ => exact inc false p
  | nin => exact inc true p
theorem de_cmp {a b : Expr} {ta tb : TDE} {pos : Pos} {op : Cop} (hK : C.K = X.K) (hu : X.A.units + 65 < cLine) (hm : behindInMarks op.py b = false) (ha : PE X a (lift C Wx ta)) (hb : PE X b (lift C Wx tb)) :
    PE X (.Compare a [op.py] [b] pos) (lift C Wx (dOp2 (wCmp op) ta tb)) :=
  (pe_cmpR (op_cmp op hu) ha hb hm).imD fun σ H Q q => op2 (fun R ds σ H h R0 H0 x y v u Pw Q e ex _ rx ry p k => hK ▸ s_cmp e ex rx ry p k) q
end
end DL
set_option maxHeartbeats 4000000
namespace DL
open PySem PySem.Spec PyProof.Rows L2
section
variable {X : Cx} {C : Cn} {Wx : WX}
def truD : D → Option Bool
  | .non => some false
  | .bl b => some b
  | .int i => some (i != 0)
  | .str x => if x.length ≤ sizeLine then some ((x.length : Int) != 0) else none
  | .tup xs => some (!xs.isEmpty)
  | .lst xs => some (!xs.isEmpty)
  | .fro xs => some (!xs.isEmpty)
  | .wtp _ => none
  | _ => none
def truW : W → Option Bool
  | .d x => truD x
  | .new xs => some (!xs.isEmpty)
  | .own xs => some (!xs.isEmpty)
  | .fn _ => none
theorem emp_of {R : Rg} {H : Hp} {xs : List D} {vs : List V} (r : RelDs C.K R H xs vs) : (!xs.isEmpty) = !vs.isEmpty := by
  cases xs with
  | nil => cases r_nil r; rfl
  | cons x xs => obtain ⟨v, q, rfl, _⟩ := r_cons r; rfl
theorem tru_of {R : Rg} {H H1 : Hp} {w : W} {v : V} {b : Bool} (r : RelW C.K H1 R H w v) (e : truW w = some b) : TruV C.K v H b := by
  cases w with
  | d x =>
    cases x with
    | non => cases rw_non r; cases e; rfl
    | bl _ => cases rw_bl r; cases e; rfl
    | int _ => cases rw_int r; cases e; rfl
    | str x =>
      cases rw_str r
      have e2 : (if x.length ≤ sizeLine then some ((x.length : Int) != 0) else none) = some b := e
      by_cases q : x.length ≤ sizeLine
      · rw [if_pos q] at e2; cases e2; exact ⟨q, rfl⟩
      · rw [if_neg q] at e2; cases e2
    | tup xs => obtain ⟨a, vs, rfl, q, t⟩ := rw_tup r; cases e; exact .inr (.inl ⟨vs, q.sq, emp_of t⟩)
    | lst xs => obtain ⟨a, vs, rfl, q, t⟩ := r_lst r; cases e; exact .inl ⟨vs, q.sq, emp_of t⟩
    | fro xs => obtain ⟨a, vs, rfl, q, t⟩ := r_fro r; cases e; exact .inl ⟨vs, q.sq, emp_of t⟩
    | ty _ => cases e
    | ref _ => cases e
    | wtp _ => cases e
  | new xs => obtain ⟨a, vs, rfl, _, q, _, _, t⟩ := r; cases e; exact .inl ⟨vs, .inl (.inl q), emp_of t⟩
  | fn _ => cases e
  | own xs => obtain ⟨a, vs, rfl, q, _, _, t⟩ := r; cases e; exact .inl ⟨vs, .inl (.inl q), emp_of t⟩
def dTru (t : TDE) : TDT := fun ds h P Z => t ds h (fun w h' => ∃ b, truW w = some b ∧ P b h') Z
def dAndT (ta tb : TDT) : TDT := fun ds h P Z => ta ds h (fun b h1 => if b = true then tb ds h1 P Z else P false h1) Z
def dOrT (ta tb : TDT) : TDT := fun ds h P Z => ta ds h (fun b h1 => if b = true then P true h1 else tb ds h1 P Z) Z
def dNotT (ta : TDT) : TDT := fun ds h P Z => ta ds h (fun b h1 => P (!b) h1) Z
/-- the values of and, or, not -/
def dAnd (ta tb : TDE) : TDE := fun ds h P Z => ta ds h (fun x h1 => ∃ b, truW x = some b ∧ if b = true then tb ds h1 P Z else P x h1) Z
def dOr (ta tb : TDE) : TDE := fun ds h P Z => ta ds h (fun x h1 => ∃ b, truW x = some b ∧ if b = true then P x h1 else tb ds h1 P Z) Z
def dIf (tc : TDT) (ta tb : TDE) : TDE := fun ds h P Z => tc ds h (fun b h1 => if b = true then ta ds h1 P Z else tb ds h1 P Z) Z
theorem dt_tru {a : Expr} {ta : TDE} (hK : C.K = X.K) (ha : PE X a (lift C Wx ta)) (he : ∀ whole, isTrue a X.env whole = (do let v ← whole; standAt a.pos; holding [v] (truthy v))) : PT X a (liftT C Wx (dTru ta)) :=
  (pt_truth ha he).imD fun σ H Q q => by
    obtain ⟨R, ds, h, P, Z, e, p, k, z⟩ := q
    refine ⟨R, ds, h, _, Z, e, p, fun R' H' h' w v ⟨b, hb, pb⟩ x e' r => ?_, z⟩
    exact ⟨b, hK ▸ tru_of r hb, k R' H' h' b pb x e'⟩
theorem t2 {ta : TDT} {u : TT} {f : Bool → Hs → Prop} {σ : Sl} {H : Hp} {Q : Bool → Hp → Prop} {Z : XD} {R : Rg} {ds : DSt} {h : Hs} {g : Bool → Hp → Prop} (e : Env C R ds σ H h) (p : ta ds h f Z)
    (k : ∀ R' H' h' b, f b h' → Ex R H R' H' → Env C R' ds σ H' h' → g b H') (z : ∀ R' H' h' x cls dd, Z x h' → Ex R H R' H' → Env C R' ds σ H' h' → RelX C R' H' x cls dd → Wx cls dd σ H') : liftT C Wx ta σ H g :=
  ⟨R, ds, h, f, Z, e, p, k, z⟩
theorem dw_and1 {a : Expr} {ta : TDT} {pos : Pos} (ha : PT X a (liftT C Wx ta)) : PW X (.BoolOp .And [a] pos) (liftT C Wx ta) := pw_and1 ha
theorem dw_or1 {a : Expr} {ta : TDT} {pos : Pos} (ha : PT X a (liftT C Wx ta)) : PW X (.BoolOp .Or [a] pos) (liftT C Wx ta) := pw_or1 ha
theorem dw_and {a b : Expr} {rest : List Expr} {ta tb : TDT} {pos : Pos} (ha : PT X a (liftT C Wx ta)) (hb : PW X (.BoolOp .And (b :: rest) pos) (liftT C Wx tb)) : PW X (.BoolOp .And (a :: b :: rest) pos) (liftT C Wx (dAndT ta tb)) :=
  (pw_and ha hb).imD fun σ H Q q => by
    obtain ⟨R, ds, h, P, Z, e, p, k, z⟩ := q
    refine ⟨R, ds, h, _, Z, e, p, fun R' H' h' b pb x e' => ?_, z⟩
    cases b with
    | true => exact ⟨R', ds, h', P, Z, e', pb, fun R2 H2 h2 c pc x2 e2 => k R2 H2 h2 c pc (x.trans x2) e2, fun R2 H2 h2 y cls dd a b c d => z R2 H2 h2 y cls dd a (x.trans b) c d⟩
    | false => exact k R' H' h' false pb x e'
theorem dw_or {a b : Expr} {rest : List Expr} {ta tb : TDT} {pos : Pos} (ha : PT X a (liftT C Wx ta)) (hb : PW X (.BoolOp .Or (b :: rest) pos) (liftT C Wx tb)) : PW X (.BoolOp .Or (a :: b :: rest) pos) (liftT C Wx (dOrT ta tb)) :=
  (pw_or ha hb).imD fun σ H Q q => by
    obtain ⟨R, ds, h, P, Z, e, p, k, z⟩ := q
    refine ⟨R, ds, h, _, Z, e, p, fun R' H' h' b pb x e' => ?_, z⟩
    cases b with
    | false => exact ⟨R', ds, h', P, Z, e', pb, fun R2 H2 h2 c pc x2 e2 => k R2 H2 h2 c pc (x.trans x2) e2, fun R2 H2 h2 y cls dd a b c d => z R2 H2 h2 y cls dd a (x.trans b) c d⟩
    | true => exact k R' H' h' true pb x e'
theorem dt_not {a : Expr} {ta : TDT} {pos : Pos} (ha : PT X a (liftT C Wx ta)) : PT X (.UnaryOp .Not a pos) (liftT C Wx (dNotT ta)) :=
  (pt_not ha).imD fun σ H Q q => by
    obtain ⟨R, ds, h, P, Z, e, p, k, z⟩ := q
    exact ⟨R, ds, h, _, Z, e, p, fun R' H' h' b pb x e' => k R' H' h' _ pb x e', z⟩
/-- a comparison as a test -/
def dCmpT (op : Cop) (ta tb : TDE) : TDT := fun ds h P Z => ta ds h (fun x h1 => tb ds h1 (fun y h2 => wCmp op x y fun z => ∃ b, z = .d (.bl b) ∧ P b h2) Z) Z
theorem dt_cmp {a b : Expr} {ta tb : TDE} {pos : Pos} {op : Cop} (hK : C.K = X.K) (hu : X.A.units + 65 < cLine) (hm : behindInMarks op.py b = false) (ha : PE X a (lift C Wx ta)) (hb : PE X b (lift C Wx tb)) :
    PT X (.Compare a [op.py] [b] pos) (liftT C Wx (dCmpT op ta tb)) :=
  (pt_cmpR (op_cmp op hu) ha hb hm).imD fun σ H Q q => by
    obtain ⟨R, ds, h, P, Z, e, p, k, z⟩ := q
    refine ⟨R, ds, h, _, Z, e, p, fun R1 H1 h1 w1 v1 p1 x1 e1 r1 => ?_, z⟩
    refine ⟨R1, ds, h1, _, Z, e1, p1, fun R2 H2 h2 w2 v2 p2 x2 e2 r2 => ?_, fun R' H' h' x cls dd a b c d => z R' H' h' x cls dd a (x1.trans b) c d⟩
    refine hK ▸ s_cmp e2 (x1.trans x2) (relW_ex e1.ok x2 r1) (relW_start x1.dom r2) p2 fun R' H' w v ⟨b, hb, pb⟩ x' e' r' => ?_
    subst hb
    exact ⟨b, rw_bl r', k R' H' h2 b pb ((x1.trans x2).trans x') e'⟩
/-- a < b < c -/
def dChain (op op' : Cop) (ta tb tc : TDE) : TDT := fun ds h P Z => ta ds h (fun x h1 => tb ds h1 (fun y h2 => wCmp op x y fun z => ∃ b, z = .d (.bl b) ∧
  if b = true then tc ds h2 (fun u h3 => wCmp op' y u fun z => ∃ b, z = .d (.bl b) ∧ P b h3) Z else P false h2) Z) Z
theorem dt_chain {a b c : Expr} {ta tb tc : TDE} {pos : Pos} {op op' : Cop} (hK : C.K = X.K) (hu : X.A.units + 65 < cLine) (hm : lastMarks [op.py, op'.py] [b, c] = false)
    (ha : PE X a (lift C Wx ta)) (hb : PE X b (lift C Wx tb)) (hc : PE X c (lift C Wx tc)) : PT X (.Compare a [op.py, op'.py] [b, c] pos) (liftT C Wx (dChain op op' ta tb tc)) :=
  (pt_chain (op_cmp op hu) (op_cmp op' hu) ha hb hc hm).imD fun σ H Q q => by
    obtain ⟨R, ds, h, P, Z, e, p, k, z⟩ := q
    refine ⟨R, ds, h, _, Z, e, p, fun R1 H1 h1 w1 v1 p1 x1 e1 r1 => ?_, z⟩
    refine ⟨R1, ds, h1, _, Z, e1, p1, fun R2 H2 h2 w2 v2 p2 x2 e2 r2 => ?_, fun R' H' h' x cls dd a b c d => z R' H' h' x cls dd a (x1.trans b) c d⟩
    have r2' := relW_start x1.dom r2
    refine hK ▸ s_cmp e2 (x1.trans x2) (relW_ex e1.ok x2 r1) r2' p2 fun R' H' w v ⟨b, hb, pb⟩ x' e' r' => ?_
    subst hb
    refine ⟨b, rw_bl r', ?_⟩
    have xx := (x1.trans x2).trans x'
    cases b with
    | false =>
      rw [if_neg Bool.false_ne_true] at pb ⊢
      exact ⟨false, rfl, k R' H' h2 false pb xx e'⟩
    | true =>
      rw [if_pos rfl] at pb ⊢
      refine ⟨R', ds, h2, _, Z, e', pb, fun R3 H3 h3 w3 v3 p3 x3 e3 r3 => ?_, fun R' H' h' x cls dd a b c d => z R' H' h' x cls dd a (xx.trans b) c d⟩
      refine s_cmp (C := C) e3 (xx.trans x3) (relW_ex e'.ok x3 (relW_ex e2.ok x' r2')) (relW_start xx.dom r3) p3 fun R4 H4 w v ⟨b, hb, pb⟩ x4 e4 r4 => ?_
      subst hb
      exact ⟨b, rw_bl r4, k R4 H4 h3 b pb ((xx.trans x3).trans x4) e4⟩
end
end DL
set_option maxHeartbeats 4000000
namespace DL
open PySem PySem.Spec PyProof.Rows L2
section
variable {X : Cx} {C : Cn} {Wx : WX}
theorem de_one {op} {a : Expr} {ta : TDE} {pos : Pos} (ha : PE X a (lift C Wx ta)) : PE X (.BoolOp op [a] pos) (lift C Wx ta) := pe_one ha
theorem de_and {a b : Expr} {rest : List Expr} {ta tb : TDE} {pos : Pos} (hK : C.K = X.K) (ha : PE X a (lift C Wx ta)) (hb : PE X (.BoolOp .And (b :: rest) pos) (lift C Wx tb)) : PE X (.BoolOp .And (a :: b :: rest) pos) (lift C Wx (dAnd ta tb)) :=
  (pe_andT ha hb).imD fun σ H Q q => by
    obtain ⟨R, ds, h, P, Z, e, p, k, z⟩ := q
    refine ⟨R, ds, h, _, Z, e, p, fun R' H' h' w v ⟨b, hb, pb⟩ x e' r => ⟨b, hK ▸ tru_of r hb, ?_⟩, z⟩
    cases b with
    | true => exact ⟨R', ds, h', P, Z, e', pb, fun R2 H2 h2 c u pc x2 e2 r2 => k R2 H2 h2 c u pc (x.trans x2) e2 (relW_start x.dom r2), fun R2 H2 h2 y cls dd a b c d => z R2 H2 h2 y cls dd a (x.trans b) c d⟩
    | false => exact k R' H' h' w v pb x e' r
theorem de_or {a b : Expr} {rest : List Expr} {ta tb : TDE} {pos : Pos} (hK : C.K = X.K) (ha : PE X a (lift C Wx ta)) (hb : PE X (.BoolOp .Or (b :: rest) pos) (lift C Wx tb)) : PE X (.BoolOp .Or (a :: b :: rest) pos) (lift C Wx (dOr ta tb)) :=
  (pe_orT ha hb).imD fun σ H Q q => by
    obtain ⟨R, ds, h, P, Z, e, p, k, z⟩ := q
    refine ⟨R, ds, h, _, Z, e, p, fun R' H' h' w v ⟨b, hb, pb⟩ x e' r => ⟨b, hK ▸ tru_of r hb, ?_⟩, z⟩
    cases b with
    | false => exact ⟨R', ds, h', P, Z, e', pb, fun R2 H2 h2 c u pc x2 e2 r2 => k R2 H2 h2 c u pc (x.trans x2) e2 (relW_start x.dom r2), fun R2 H2 h2 y cls dd a b c d => z R2 H2 h2 y cls dd a (x.trans b) c d⟩
    | true => exact k R' H' h' w v pb x e' r
/-- not, of a value by its truth -/
def dNotV (ta : TDE) : TDE := fun ds h P Z => ta ds h (fun x h1 => ∃ b, truW x = some b ∧ P (.d (.bl (!b))) h1) Z
theorem de_not {a : Expr} {ta : TDE} {pos : Pos} (hK : C.K = X.K) (ha : PE X a (lift C Wx ta)) : PE X (.UnaryOp .Not a pos) (lift C Wx (dNotV ta)) :=
  (pe_notT ha).imD fun σ H Q q => by
    obtain ⟨R, ds, h, P, Z, e, p, k, z⟩ := q
    exact ⟨R, ds, h, _, Z, e, p, fun R' H' h' w v ⟨b, hb, pb⟩ x e' r => ⟨b, hK ▸ tru_of r hb, k R' H' h' _ _ pb x e' mw_bl⟩, z⟩
theorem de_if {c a b : Expr} {tc : TDT} {ta tb : TDE} {pos : Pos} (hc : PT X c (liftT C Wx tc)) (ha : PE X a (lift C Wx ta)) (hb : PE X b (lift C Wx tb)) : PE X (.IfExp c a b pos) (lift C Wx (dIf tc ta tb)) :=
  (pe_ifExp hc ha hb).imD fun σ H Q q => by
    obtain ⟨R, ds, h, P, Z, e, p, k, z⟩ := q
    refine ⟨R, ds, h, _, Z, e, p, fun R' H' h' b pb x e' => ?_, z⟩
    cases b with
    | true => exact ⟨R', ds, h', P, Z, e', pb, fun R2 H2 h2 c u pc x2 e2 r2 => k R2 H2 h2 c u pc (x.trans x2) e2 (relW_start x.dom r2), fun R2 H2 h2 y cls dd a b c d => z R2 H2 h2 y cls dd a (x.trans b) c d⟩
    | false => exact ⟨R', ds, h', P, Z, e', pb, fun R2 H2 h2 c u pc x2 e2 r2 => k R2 H2 h2 c u pc (x.trans x2) e2 (relW_start x.dom r2), fun R2 H2 h2 y cls dd a b c d => z R2 H2 h2 y cls dd a (x.trans b) c d⟩
def isNon : W → Bool
  | .d .non => true
  | _ => false
def wIs (neg : Bool) (x : W) (Q : W → Prop) : Prop := Q (.d (.bl (xor neg (isNon x))))
theorem nonIff {R : Rg} {H H1 : Hp} {w : W} {v : V} (r : RelW C.K H1 R H w v) : decide (v = .non) = isNon w := by
  cases w with
  | d x =>
    cases x with
    | non => cases rw_non r; rfl
    | bl _ => cases rw_bl r; rfl
    | int _ => cases rw_int r; rfl
    | str _ => cases rw_str r; rfl
    | ty _ => have r2 : RelD C.K R H (.ty _) v := r; unfold RelD at r2; subst r2; rfl
    | ref _ => have r2 : RelD C.K R H (.ref _) v := r; obtain ⟨_, rfl⟩ := r_ref r2; rfl
    | tup _ => obtain ⟨_, _, rfl, _⟩ := rw_tup r; rfl
    | lst _ => have r2 : RelD C.K R H (.lst _) v := r; obtain ⟨_, _, rfl, _⟩ := r_lst r2; rfl
    | fro _ => have r2 : RelD C.K R H (.fro _) v := r; obtain ⟨_, _, rfl, _⟩ := r_fro r2; rfl
    | wtp _ => have r2 : RelD C.K R H (.wtp _) v := r; obtain ⟨_, _, rfl, _⟩ := r_wtp r2; rfl
  | new _ => obtain ⟨_, _, rfl, _⟩ := r; rfl
  | own _ => obtain ⟨_, _, rfl, _⟩ := r; rfl
  | fn _ => have r2 : v = .ref _ := r; subst r2; rfl
theorem de_isN {a : Expr} {ta : TDE} {pos pos' : Pos} {j} (ha : PE X a (lift C Wx ta)) : PE X (.Compare a [.Is] [.Constant .none j pos'] pos) (lift C Wx (dOp1 (wIs false) ta)) :=
  (pe_cmp (pc_isN ha)).imD fun σ H Q q => by
    obtain ⟨R, ds, h, P, Z, e, p, k, z⟩ := q
    refine ⟨R, ds, h, _, Z, e, p, fun R' H' h' w v pb x e' r => ?_, z⟩
    show Q (V.bl (decide (v = .non))) H'
    rw [nonIff r]
    unfold wIs at pb
    rw [Bool.false_xor] at pb
    exact k R' H' h' _ _ pb x e' mw_bl
theorem de_notN {a : Expr} {ta : TDE} {pos pos' : Pos} {j} (ha : PE X a (lift C Wx ta)) : PE X (.Compare a [.IsNot] [.Constant .none j pos'] pos) (lift C Wx (dOp1 (wIs true) ta)) :=
  (pe_cmp (pc_notN ha)).imD fun σ H Q q => by
    obtain ⟨R, ds, h, P, Z, e, p, k, z⟩ := q
    refine ⟨R, ds, h, _, Z, e, p, fun R' H' h' w v pb x e' r => ?_, z⟩
    show Q (V.bl (!decide (v = .non))) H'
    rw [nonIff r]
    unfold wIs at pb
    rw [Bool.true_xor] at pb
    exact k R' H' h' _ _ pb x e' mw_bl
def dIsT (neg : Bool) (ta : TDE) : TDT := fun ds h P Z => ta ds h (fun x h1 => P (xor neg (isNon x)) h1) Z
theorem dt_isN {a : Expr} {ta : TDE} {pos pos' : Pos} {j} (ha : PE X a (lift C Wx ta)) : PT X (.Compare a [.Is] [.Constant .none j pos'] pos) (liftT C Wx (dIsT false ta)) :=
  (pt_cmp (pc_isN ha)).imD fun σ H Q q => by
    obtain ⟨R, ds, h, P, Z, e, p, k, z⟩ := q
    refine ⟨R, ds, h, _, Z, e, p, fun R' H' h' w v pb x e' r => ?_, z⟩
    refine ⟨_, rfl, ?_⟩
    rw [nonIff r]
    rw [Bool.false_xor] at pb
    exact k R' H' h' _ pb x e'
theorem dt_notN {a : Expr} {ta : TDE} {pos pos' : Pos} {j} (ha : PE X a (lift C Wx ta)) : PT X (.Compare a [.IsNot] [.Constant .none j pos'] pos) (liftT C Wx (dIsT true ta)) :=
  (pt_cmp (pc_notN ha)).imD fun σ H Q q => by
    obtain ⟨R, ds, h, P, Z, e, p, k, z⟩ := q
    refine ⟨R, ds, h, _, Z, e, p, fun R' H' h' w v pb x e' r => ?_, z⟩
    refine ⟨_, rfl, ?_⟩
    rw [nonIff r]
    rw [Bool.true_xor] at pb
    exact k R' H' h' _ pb x e'
def dNil : TDA := fun _ h P _ => P [] h
def dCons (t : TDE) (u : TDA) : TDA := fun ds h P Z => dD t ds h (fun x h1 => u ds h1 (fun xs h2 => P (x :: xs) h2) Z) Z
theorem da_nil : PA X [] (liftA C Wx dNil) := pa_nil.imD fun σ H Q q => by
  obtain ⟨R, ds, h, P, Z, e, p, k, z⟩ := q
  exact k R H h _ _ p (Ex.refl _ _) e m_nil
theorem da_cons {e : Expr} {es : List Expr} {t : TDE} {u : TDA} (he : PE X e (lift C Wx t)) (hr : PA X es (liftA C Wx u)) (hs : starEach (e :: es) X.env = (false, eval e X.env) :: starEach es X.env) : PA X (e :: es) (liftA C Wx (dCons t u)) :=
  (pa_cons (pe_D he) hr hs).imD fun σ H Q q => by
    obtain ⟨R, ds, h, P, Z, e, p, k, z⟩ := q
    refine ⟨R, ds, h, _, Z, e, p, fun R1 H1 h1 w1 v1 p1 x1 e1 r1 => ?_, z⟩
    refine ⟨R1, ds, h1, _, Z, e1, p1, fun R2 H2 h2 w2 v2 p2 x2 e2 r2 => ?_, fun R' H' h' x cls dd a b c d => z R' H' h' x cls dd a (x1.trans b) c d⟩
    exact k R2 H2 h2 _ _ p2 (x1.trans x2) e2 (m_cons (relD_ex e1.ok x2 r1) r2)
def dTup (t : TDA) : TDE := fun ds h P Z => t ds h (fun xs h1 => xs.length ≤ sizeLine ∧ P (.d (.tup xs)) h1) Z
def dLst (t : TDA) : TDE := fun ds h P Z => t ds h (fun xs h1 => xs.length ≤ sizeLine ∧ P (.new xs) h1) Z
theorem de_tup {es : List Expr} {t : TDA} {pos : Pos} {j} (ha : PA X es (liftA C Wx t)) : PE X (.Tuple es j pos) (lift C Wx (dTup t)) :=
  (pe_tup ha).imD fun σ H Q q => by
    obtain ⟨R, ds, h, P, Z, e, p, k, z⟩ := q
    refine ⟨R, ds, h, _, Z, e, p, fun R1 H1 h1 w1 v1 ⟨l, p1⟩ x1 e1 r1 => ⟨by rw [← relDs_len r1]; exact l, fun pp np => ?_⟩, z⟩
    exact k R1 _ h1 _ _ p1 (x1.trans (Ex.fresh np)) (e1.fresh np) (mw_tup upd_same (relDs_ex e1.ok (Ex.fresh np) r1))
theorem m_new {R R0 : Rg} {H H0 : Hp} {ds : DSt} {σ : Sl} {h : Hs} {pp : Addr} {xs : List D} {vs : List V} (e : Env C R ds σ H h) (x : Ex R0 H0 R H) (np : H pp = none) (r : RelDs C.K R H xs vs) : RelW C.K H0 R (upd H pp (.lst vs)) (.new xs) (.ref pp) :=
  ⟨pp, vs, rfl, x.dom pp np, upd_same, (e.ok.nfresh np).1, (e.ok.nfresh np).2, relDs_ex e.ok (Ex.fresh np) r⟩
theorem de_lst {es : List Expr} {t : TDA} {pos : Pos} (ha : PA X es (liftA C Wx t)) : PE X (.List es pos) (lift C Wx (dLst t)) :=
  (pe_lst ha).imD fun σ H Q q => by
    obtain ⟨R, ds, h, P, Z, e, p, k, z⟩ := q
    refine ⟨R, ds, h, _, Z, e, p, fun R1 H1 h1 w1 v1 ⟨l, p1⟩ x1 e1 r1 => ⟨by rw [← relDs_len r1]; exact l, fun pp np => ?_⟩, z⟩
    exact k R1 _ h1 _ _ p1 (x1.trans (Ex.fresh np)) (e1.fresh np) (m_new e1 x1 np r1)
inductive B1 where
  | len | int | repr | sum | all | any | tuple | list | str | bool | abs
def B1.name : B1 → Str
  | .len => "len" | .int => "int" | .repr => "repr" | .sum => "sum" | .all => "all" | .any => "any" | .tuple => "tuple" | .list => "list" | .str => "str" | .bool => "bool" | .abs => "abs"
def wLen (x : W) (Q : W → Prop) : Prop := match x with
  | .d (.str s) => s.length ≤ sizeLine ∧ Q (.d (.int s.length))
  | x => ∃ xs, seqW x = some xs ∧ Q (.d (.int xs.length))
def wIntc (x : W) (Q : W → Prop) : Prop := match x with
  | .d (.int i) => Q (.d (.int i))
  | .d (.bl b) => Q (.d (.int (if b then 1 else 0)))
  | .d (.str a) => ∃ n, PySem.intText? a = some n ∧ a.length ≤ 640 ∧ Q (.d (.int n))
  | _ => False
def wRepr (x : W) (Q : W → Prop) : Prop := ∃ d, pyW x = some d ∧ d.showable = true ∧ d.depth ≤ 40 ∧ d.shown.length ≤ sizeLine ∧ Q (.d (.str d.shown))
def wSum (x : W) (Q : W → Prop) : Prop := ∃ ns : List Int, lstW x = some (ns.map D.int) ∧ Q (.d (.int ns.sum))
def wAll (x : W) (Q : W → Prop) : Prop := ∃ bs : List Bool, lstW x = some (bs.map D.bl) ∧ Q (.d (.bl (bs.all id)))
def wAny (x : W) (Q : W → Prop) : Prop := ∃ bs : List Bool, lstW x = some (bs.map D.bl) ∧ Q (.d (.bl (bs.any id)))
def wTuple (x : W) (Q : W → Prop) : Prop := ∃ xs, seqW x = some xs ∧ Q (.d (.tup xs))
def wList (x : W) (Q : W → Prop) : Prop := ∃ xs, seqW x = some xs ∧ Q (.new xs)
def wStrc (x : W) (Q : W → Prop) : Prop := match x with
  | .d (.int i) => i.natAbs.log2 < 1920 ∧ Q (.d (.str (toString i)))
  | .d (.str a) => Q (.d (.str a))
  | _ => False
def wBoolc (x : W) (Q : W → Prop) : Prop := match x with
  | .d (.int i) => Q (.d (.bl (i != 0)))
  | .d (.bl b) => Q (.d (.bl b))
  | _ => False
def wAbs (x : W) (Q : W → Prop) : Prop := match x with
  | .d (.int i) => Q (.d (.int (if i < 0 then -i else i)))
  | _ => False
def wB1 : B1 → W → (W → Prop) → Prop
  | .len => wLen | .int => wIntc | .repr => wRepr | .sum => wSum | .all => wAll | .any => wAny | .tuple => wTuple | .list => wList | .str => wStrc | .bool => wBoolc | .abs => wAbs
/-- repr of data, where nothing is being shown -/
theorem call_reprD (hg : X.A.guards = some []) (hu : X.A.units + 64 < cLine) : CallR X (.builtin "repr") (fun xs H Q => ∃ v d, xs = [v] ∧ Dp X.K H v d ∧ d.showable = true ∧ d.hasDict = false ∧ d.depth ≤ 40 ∧ d.shown.length ≤ sizeLine ∧ Q (.str d.shown) H) := by
  intro pins s σ H xs us Q I r h
  obtain ⟨v, d, rfl, hd, hs, hn, hl, hz, q⟩ := h
  obtain ⟨u, rfl, ru⟩ := vals1 r
  obtain ⟨as, rd⟩ := Dp.reads I d v u hd ru
  cases hd with
  | non => cases ru; exact PySem.P.repr_of_none ⟨.str _, H, I.tok _, ⟨_, rfl⟩, q⟩
  | bl b => cases ru; exact PySem.P.repr_of_bool ⟨.str _, H, I.tok _, ⟨_, rfl⟩, q⟩
  | int i => obtain ⟨t, rfl⟩ := ru; exact PySem.P.repr_of_int (of_decide_eq_true hs) ⟨.str _, H, I.tok _, ⟨_, rfl⟩, q⟩
  | str x => obtain ⟨t, rfl⟩ := ru; exact PySem.P.repr_of_str ⟨.str _, H, I.tok _, ⟨_, rfl⟩, q⟩ hz
  | lst _ _ =>
    cases ru
    exact repr_of_reads' rd hs (fun z => by rw [hn] at z; cases z) hg (by omega) (fun _ _ e => e) (fun h' u tk hk => ⟨.str _, H, I.kept (t' := tk) hk, ⟨_, rfl⟩, q⟩) hz
  | tup _ _ =>
    cases ru
    exact repr_of_reads' rd hs (fun z => by rw [hn] at z; cases z) hg (by omega) (fun _ _ e => e) (fun h' u tk hk => ⟨.str _, H, I.kept (t' := tk) hk, ⟨_, rfl⟩, q⟩) hz
end
end DL
set_option maxHeartbeats 4000000
namespace DL
open PySem PySem.Spec PyProof.Rows L2
section
variable {X : Cx} {C : Cn} {Wx : WX}
mutual
theorem noDict : ∀ {d : D} {p : PyData}, toPy d = some p → p.hasDict = false
  | .non, p, e => by unfold toPy at e; cases e; rfl
  | .bl _, p, e => by unfold toPy at e; cases e; rfl
  | .int _, p, e => by unfold toPy at e; cases e; rfl
  | .str _, p, e => by unfold toPy at e; cases e; rfl
  | .ty _, p, e => by unfold toPy at e; cases e
  | .ref _, p, e => by unfold toPy at e; cases e
  | .tup xs, p, e => by unfold toPy at e; obtain ⟨ps, e1, rfl⟩ := Option.map_eq_some_iff.mp e; exact noDicts e1
  | .lst xs, p, e => by unfold toPy at e; obtain ⟨ps, e1, rfl⟩ := Option.map_eq_some_iff.mp e; exact noDicts e1
  | .fro xs, p, e => by unfold toPy at e; obtain ⟨ps, e1, rfl⟩ := Option.map_eq_some_iff.mp e; exact noDicts e1
  | .wtp xs, p, e => by unfold toPy at e; obtain ⟨ps, e1, rfl⟩ := Option.map_eq_some_iff.mp e; exact noDicts e1
theorem noDicts : ∀ {ds : List D} {ps : List PyData}, toPys ds = some ps → PyData.hasDictAll ps = false
  | [], ps, e => by unfold toPys at e; cases e; rfl
  | d :: ds, ps, e => by
    unfold toPys at e
    split at e
    · rename_i a b e1 e2
      cases e
      show (a.hasDict || PyData.hasDictAll b) = false
      rw [noDict e1, noDicts e2]; rfl
    · cases e
end
theorem noDictW {w : W} {p : PyData} (e : pyW w = some p) : p.hasDict = false := by
  cases w with
  | d x => exact noDict e
  | new xs => obtain ⟨ps, e1, rfl⟩ := Option.map_eq_some_iff.mp e; exact noDicts e1
  | fn _ => cases e
  | own xs => obtain ⟨ps, e1, rfl⟩ := Option.map_eq_some_iff.mp e; exact noDicts e1
/-- the layer's rules for a built-in of one argument -/
def rB1 (K : Fg) : B1 → V → Hp → VK → Prop
  | .len => fun x H Q => (∃ p ys, x = .ref p ∧ (SqL K H p ys ∨ SqT K H p ys) ∧ Q (.int ys.length) H) ∨ ∃ z, x = .str z ∧ z.length ≤ sizeLine ∧ Q (.int z.length) H
  | .int => fun x H Q => ((∃ i, x = .int i ∧ Q (.int i) H) ∨ ∃ k, x = .bl k ∧ Q (.int (if k then 1 else 0)) H) ∨ ∃ a n, x = .str a ∧ PySem.intText? a = some n ∧ a.length ≤ 640 ∧ Q (.int n) H
  | .repr => fun x H Q => ∃ d, Dp K H x d ∧ d.showable = true ∧ d.hasDict = false ∧ d.depth ≤ 40 ∧ d.shown.length ≤ sizeLine ∧ Q (.str d.shown) H
  | .sum => fun x H Q => ∃ (a : Addr) (ns : List Int), x = .ref a ∧ SqL K H a (ns.map V.int) ∧ Q (.int ns.sum) H
  | .all => fun x H Q => ∃ (a : Addr) (bs : List Bool), x = .ref a ∧ SqL K H a (bs.map V.bl) ∧ Q (.bl (bs.all id)) H
  | .any => fun x H Q => ∃ (a : Addr) (bs : List Bool), x = .ref a ∧ SqL K H a (bs.map V.bl) ∧ Q (.bl (bs.any id)) H
  | .tuple => fun x H Q => ∃ p ys, x = .ref p ∧ ((SqL K H p ys ∧ ∀ l, H l = none → Q (.ref l) (upd H l (.tup ys))) ∨ (SqT K H p ys ∧ Q (.ref p) H))
  | .list => fun x H Q => ∃ p ys, x = .ref p ∧ (SqL K H p ys ∨ SqT K H p ys) ∧ ∀ l, H l = none → Q (.ref l) (upd H l (.lst ys))
  | .str => fun x H Q => (∃ i, x = .int i ∧ i.natAbs.log2 < 1920 ∧ Q (.str (toString i)) H) ∨ ∃ a, x = .str a ∧ Q (.str a) H
  | .bool => fun x H Q => (∃ i, x = .int i ∧ Q (.bl (i != 0)) H) ∨ ∃ k, x = .bl k ∧ Q (.bl k) H
  | .abs => fun x H Q => ∃ i, x = .int i ∧ Q (.int (if i < 0 then -i else i)) H
/-- what a built-in asks of the place where it is called -/
structure B1Ok (X : Cx) (b : B1) : Prop where
  free : X.mg b.name = none
  gl : Gl X b.name
  calm : X.calm = true
  units : X.A.units + 64 < cLine
  guard : b = .repr → X.A.guards = some []
def B1.val : B1 → Value
  | .len => .builtin "len" | .int => .type "int" | .repr => .builtin "repr" | .sum => .builtin "sum" | .all => .builtin "all" | .any => .builtin "any" | .tuple => .type "tuple" | .list => .type "list" | .str => .type "str" | .bool => .type "bool" | .abs => .builtin "abs"
def rArg1 (r : V → Hp → VK → Prop) : List V → Hp → VK → Prop := fun xs H Q => ∃ x, xs = [x] ∧ r x H Q
theorem call_b1 (b : B1) (ok : B1Ok X b) : CallR X b.val (rArg1 (rB1 X.K b)) := by
  intro pins s σ H xs us Q I r h
  obtain ⟨x, rfl, h⟩ := h
  cases b with
  | len =>
    rcases h with ⟨p, ys, rfl, q⟩ | ⟨z, rfl, q⟩
    · exact call_len_seq pins s σ H _ us Q I r ⟨p, ys, rfl, q⟩
    · exact call_len_str pins s σ H _ us Q I r ⟨z, rfl, q⟩
  | int =>
    rcases h with (⟨i, rfl, q⟩ | ⟨k, rfl, q⟩) | ⟨a, n, rfl, q⟩
    · exact call_int1 pins s σ H _ us Q I r (.inl ⟨i, rfl, q⟩)
    · exact call_int1 pins s σ H _ us Q I r (.inr ⟨k, rfl, q⟩)
    · exact call_int_str pins s σ H _ us Q I r ⟨a, n, rfl, q⟩
  | repr => obtain ⟨d, q⟩ := h; exact call_reprD (ok.guard rfl) ok.units pins s σ H _ us Q I r ⟨x, d, rfl, q⟩
  | sum => obtain ⟨a, n, rfl, q⟩ := h; exact cr_sum ok.calm pins s σ H _ us Q I r ⟨a, n, rfl, q⟩
  | all => obtain ⟨a, n, rfl, q⟩ := h; exact cr_all ok.calm pins s σ H _ us Q I r ⟨a, n, rfl, q⟩
  | any => obtain ⟨a, n, rfl, q⟩ := h; exact cr_any ok.calm pins s σ H _ us Q I r ⟨a, n, rfl, q⟩
  | tuple => obtain ⟨a, n, rfl, q⟩ := h; exact call_tuple_of pins s σ H _ us Q I r ⟨a, n, rfl, q⟩
  | list => obtain ⟨a, n, rfl, q⟩ := h; exact call_list_of pins s σ H _ us Q I r ⟨a, n, rfl, q⟩
  | str =>
    rcases h with ⟨i, rfl, q⟩ | ⟨a, rfl, q⟩
    · exact call_str_int pins s σ H _ us Q I r ⟨i, rfl, q⟩
    · exact SkE.call_str_str pins s σ H _ us Q I r ⟨a, rfl, q⟩
  | bool =>
    rcases h with ⟨i, rfl, q⟩ | ⟨a, rfl, q⟩
    · exact call_bool1 pins s σ H _ us Q I r (.inl ⟨i, rfl, q⟩)
    · exact call_bool1 pins s σ H _ us Q I r (.inr ⟨a, rfl, q⟩)
  | abs => obtain ⟨i, rfl, q⟩ := h; exact call_abs pins s σ H _ us Q I r ⟨i, rfl, q⟩
theorem pe_b1 {a : Expr} {t : TE} {p pos : Pos} (b : B1) (ok : B1Ok X b) (ha : PE X a t) (he : starEach [a] X.env = (false, eval a X.env) :: starEach [] X.env) : PE X (.Call (.Name b.name p) [a] [] pos) (tCB (rArg1 (rB1 X.K b)) (tCons t tNil)) := by
  have ar : PA X [a] (tCons t tNil) := pa_cons ha pa_nil he
  have c := call_b1 b ok
  have f := ok.free
  have g := ok.gl
  cases b with
  | len => exact pe_callB c g f (by decide +kernel) ar (he := he)
  | int => exact pe_callTy c g f (by decide +kernel) ar (he := he)
  | repr => exact pe_callB c g f (by decide +kernel) ar (he := he)
  | sum => exact pe_callB c g f (by decide +kernel) ar (he := he)
  | all => exact pe_callB c g f (by decide +kernel) ar (he := he)
  | any => exact pe_callB c g f (by decide +kernel) ar (he := he)
  | tuple => exact pe_callTy c g f (by decide +kernel) ar (he := he)
  | list => exact pe_callTy c g f (by decide +kernel) ar (he := he)
  | str => exact pe_callTy c g f (by decide +kernel) ar (he := he)
  | bool => exact pe_callTy c g f (by decide +kernel) ar (he := he)
  | abs => exact pe_callB c g f (by decide +kernel) ar (he := he)
theorem s_b1 {b : B1} {R : Rg} {ds : DSt} {σ : Sl} {H : Hp} {h : Hs} {R0 : Rg} {H0 : Hp} {x : W} {v : V} {Pw : W → Prop} {Q : VK} (e : Env C R ds σ H h) (ex : Ex R0 H0 R H)
    (rx : RelW C.K H0 R H x v) (p : wB1 b x Pw) (k : Kont C ds σ h R H H0 Pw Q) : rB1 C.K b v H Q := by
  cases b with
  | len =>
    have p : wLen x Pw := p
    unfold wLen at p
    split at p
    · cases rw_str rx
      exact .inr ⟨_, rfl, p.1, k R H _ _ p.2 (Ex.refl _ _) e mw_int⟩
    · obtain ⟨xs, e1, p⟩ := p
      obtain ⟨a, vs, rfl, q, t⟩ := rel_seq rx e1
      exact .inl ⟨a, vs, rfl, q, by rw [← relDs_len t]; exact k R H _ _ p (Ex.refl _ _) e mw_int⟩
  | int =>
    have p : wIntc x Pw := p
    unfold wIntc at p
    split at p
    · cases rw_int rx; exact .inl (.inl ⟨_, rfl, k R H _ _ p (Ex.refl _ _) e mw_int⟩)
    · cases rw_bl rx; exact .inl (.inr ⟨_, rfl, k R H _ _ p (Ex.refl _ _) e mw_int⟩)
    · cases rw_str rx
      obtain ⟨n, e1, l, p⟩ := p
      exact .inr ⟨_, n, rfl, e1, l, k R H _ _ p (Ex.refl _ _) e mw_int⟩
    · exact p.elim
  | repr =>
    obtain ⟨d, e1, hs, hd, hl, p⟩ := p
    exact ⟨d, dpW_of rx e1, hs, noDictW e1, hd, hl, k R H _ _ p (Ex.refl _ _) e mw_str⟩
  | sum =>
    obtain ⟨ns, e1, p⟩ := p
    obtain ⟨a, vs, rfl, q, t⟩ := rel_lst rx e1
    cases relDs_ints t
    exact ⟨a, ns, rfl, q, k R H _ _ p (Ex.refl _ _) e mw_int⟩
  | all =>
    obtain ⟨ns, e1, p⟩ := p
    obtain ⟨a, vs, rfl, q, t⟩ := rel_lst rx e1
    cases relDs_bls t
    exact ⟨a, ns, rfl, q, k R H _ _ p (Ex.refl _ _) e mw_bl⟩
  | any =>
    obtain ⟨ns, e1, p⟩ := p
    obtain ⟨a, vs, rfl, q, t⟩ := rel_lst rx e1
    cases relDs_bls t
    exact ⟨a, ns, rfl, q, k R H _ _ p (Ex.refl _ _) e mw_bl⟩
  | tuple =>
    obtain ⟨xs, e1, p⟩ := p
    obtain ⟨a, vs, rfl, q, t⟩ := rel_seqT rx e1
    rcases q with q | q
    · exact ⟨a, vs, rfl, .inl ⟨q, fun l nl => k R _ _ _ p (Ex.fresh nl) (e.fresh nl) (mw_tup upd_same (relDs_ex e.ok (Ex.fresh nl) t))⟩⟩
    · exact ⟨a, vs, rfl, .inr ⟨q.sq, k R H _ _ p (Ex.refl _ _) e (mw_tup q t)⟩⟩
  | list =>
    obtain ⟨xs, e1, p⟩ := p
    obtain ⟨a, vs, rfl, q, t⟩ := rel_seq rx e1
    exact ⟨a, vs, rfl, q, fun l nl => k R _ _ _ p (Ex.fresh nl) (e.fresh nl) (m_new e ex nl t)⟩
  | str =>
    have p : wStrc x Pw := p
    unfold wStrc at p
    split at p
    · cases rw_int rx; exact .inl ⟨_, rfl, p.1, k R H _ _ p.2 (Ex.refl _ _) e mw_str⟩
    · cases rw_str rx; exact .inr ⟨_, rfl, k R H _ _ p (Ex.refl _ _) e mw_str⟩
    · exact p.elim
  | bool =>
    have p : wBoolc x Pw := p
    unfold wBoolc at p
    split at p
    · cases rw_int rx; exact .inl ⟨_, rfl, k R H _ _ p (Ex.refl _ _) e mw_bl⟩
    · cases rw_bl rx; exact .inr ⟨_, rfl, k R H _ _ p (Ex.refl _ _) e mw_bl⟩
    · exact p.elim
  | abs =>
    have p : wAbs x Pw := p
    unfold wAbs at p
    split at p
    · cases rw_int rx; exact ⟨_, rfl, k R H _ _ p (Ex.refl _ _) e mw_int⟩
    · exact p.elim
theorem de_b1 {a : Expr} {ta : TDE} {p pos : Pos} {b : B1} (hK : C.K = X.K) (ok : B1Ok X b) (ha : PE X a (lift C Wx ta)) (he : starEach [a] X.env = (false, eval a X.env) :: starEach [] X.env) :
    PE X (.Call (.Name b.name p) [a] [] pos) (lift C Wx (dOp1 (wB1 b) ta)) :=
  (pe_b1 b ok ha he).imD fun σ H Q q => by
    obtain ⟨R, ds, h, P, Z, e, p, k, z⟩ := q
    refine ⟨R, ds, h, _, Z, e, p, fun R1 H1 h1 w1 v1 p1 x1 e1 r1 => ?_, z⟩
    exact ⟨v1, rfl, hK ▸ s_b1 e1 x1 r1 p1 fun R' H' w z a b c d => k R' H' h1 w z a (x1.trans b) c d⟩
def tyD : D → Option String
  | .non => some "NoneType"
  | .bl _ => some "bool"
  | .int _ => some "int"
  | .str _ => some "str"
  | .tup _ => some "tuple"
  | .lst _ => some "list"
  | .fro _ => some "list"
  | .wtp _ => some "tuple"
  | _ => none
def tyW : W → Option String
  | .d x => tyD x
  | .new _ => some "list"
  | .own _ => some "list"
  | .fn _ => none
def wIsi (T : String) (x : W) (Q : W → Prop) : Prop := ∃ t b, tyW x = some t ∧ kitB t T = some b ∧ Q (.d (.bl b))
theorem ty_of {R : Rg} {H H1 : Hp} {w : W} {v : V} {t : String} (r : RelW C.K H1 R H w v) (e : tyW w = some t) : TyX C.K H v (.type t) := by
  cases w with
  | d x =>
    cases x with
    | non => cases rw_non r; cases e; exact .base .non
    | bl _ => cases rw_bl r; cases e; exact .base (.bl _)
    | int _ => cases rw_int r; cases e; exact .base (.int _)
    | str _ => cases rw_str r; cases e; exact .base (.str _)
    | ty _ => cases e
    | ref _ => cases e
    | tup _ =>
      obtain ⟨a, vs, rfl, q, _⟩ := rw_tup r; cases e
      exact .base (.tup q)
    | wtp _ =>
      have r2 : RelD C.K R H (.wtp _) v := r; obtain ⟨a, vs, rfl, q, _⟩ := r_wtp r2; cases e
      rcases q H with (q | ⟨o, q⟩) | ⟨o, its, n, q, c, _⟩
      · exact .base (.tup q)
      · exact .fTuple q
      · exact .kTuple q c
    | lst _ => have r2 : RelD C.K R H (.lst _) v := r; obtain ⟨a, vs, rfl, q, _⟩ := r_lst r2; cases e; exact .base (.lst q.2)
    | fro _ =>
      have r2 : RelD C.K R H (.fro _) v := r
      obtain ⟨a, vs, rfl, q, _⟩ := r_fro r2; cases e
      rcases q with ⟨o, q⟩ | ⟨o, its, n, q, c, _⟩
      · exact .base (.frz q)
      · exact .kList q c
  | new _ => obtain ⟨a, vs, rfl, _, q, _⟩ := r; cases e; exact .base (.lst q)
  | fn _ => cases e
  | own _ => obtain ⟨a, vs, rfl, q, _⟩ := r; cases e; exact .base (.lst q)
theorem de_isi {a : Expr} {ta : TDE} {p p2 pos : Pos} {T : Str} {T' : String} (hK : C.K = X.K) (hg : Gl X "isinstance") (hm : X.mg "isinstance" = none) (gT : Gl X T) (mT : X.mg T = none) (hT : bootBuiltins T = some (.type T')) (hn : T ≠ "__name__") (hd : (T == ("__debug__" : Str)) = false)
    (ha : PE X a (lift C Wx ta)) (he : starEach [a, .Name T p2] X.env = (false, eval a X.env) :: starEach [.Name T p2] X.env) :
    PE X (.Call (.Name "isinstance" p) [a, .Name T p2] [] pos) (lift C Wx (dOp1 (wIsi T') ta)) :=
  (pe_callB call_isi hg hm (by decide +kernel) (pa_cons ha (pa_cons (pe_bltn (v := .ty T') gT mT hT rfl hn hd) pa_nil (by rfl)) he) (he := he) (hpl := by rfl)).imD fun σ H Q q => by
    obtain ⟨R, ds, h, P, Z, e, p, k, z⟩ := q
    refine ⟨R, ds, h, _, Z, e, p, fun R1 H1 h1 w1 v1 ⟨t, b, e1, kb, p1⟩ x1 e1' r1 => ?_, z⟩
    exact ⟨v1, .ty T', .type t, .type T', b, rfl, .ty T', hK ▸ ty_of r1 e1, kit_ty kb, k R1 H1 h1 _ _ p1 x1 e1' mw_bl⟩
def wIx (x y : W) (Q : W → Prop) : Prop := match y with
  | .d (.int i) => (match x with
    | .d (.str z) => z.length ≤ sizeLine ∧ ∃ c, atI z.cps.toList i = some c ∧ Q (.d (.str ⟨#[c]⟩))
    | x => ∃ xs d, seqW x = some xs ∧ atI xs i = some d ∧ Q (.d d))
  | _ => False
theorem relDs_atI {R : Rg} {H : Hp} {xs : List D} {vs : List V} {i : Int} {d : D} (r : RelDs C.K R H xs vs) (e : atI xs i = some d) : ∃ v, atI vs i = some v ∧ RelD C.K R H d v := by
  unfold atI at e ⊢
  rw [← relDs_len r]
  cases q : ixN xs.length i with
  | none => rw [q] at e; cases e
  | some j =>
    rw [q] at e
    exact relDs_get r e
theorem s_ix {R : Rg} {ds : DSt} {σ : Sl} {H : Hp} {h : Hs} {H0 : Hp} {x y : W} {v u : V} {Pw : W → Prop} {Q : VK} (e : Env C R ds σ H h)
    (rx : RelW C.K H0 R H x v) (ry : RelW C.K H0 R H y u) (p : wIx x y Pw) (k : Kont C ds σ h R H H0 Pw Q) : rIx C.K v u H Q := by
  unfold wIx at p
  split at p
  · cases rw_int ry
    split at p
    · cases rw_str rx
      obtain ⟨l, c, e1, p⟩ := p
      exact .inr (.inr ⟨_, _, c, rfl, rfl, l, e1, k R H _ _ p (Ex.refl _ _) e mw_str⟩)
    · obtain ⟨xs, d, e1, e2, p⟩ := p
      obtain ⟨a, vs, rfl, q, t⟩ := rel_seq rx e1
      obtain ⟨v, e3, rv⟩ := relDs_atI t e2
      rcases q with q | q
      · exact .inl ⟨a, vs, _, v, rfl, rfl, q, e3, k R H _ _ p (Ex.refl _ _) e rv⟩
      · exact .inr (.inl ⟨a, vs, _, v, rfl, rfl, q, e3, k R H _ _ p (Ex.refl _ _) e rv⟩)
  · exact p.elim
theorem de_ix {a b : Expr} {ta tb : TDE} {pos : Pos} (hK : C.K = X.K) (hs : PlainIx b) (ha : PE X a (lift C Wx ta)) (hb : PE X b (lift C Wx tb)) : PE X (.Subscript a b pos) (lift C Wx (dOp2 wIx ta tb)) :=
  (pe_ix ix_seq ha hb hs).imD fun σ H Q q => op2 (fun R ds σ H h R0 H0 x y v u Pw Q e ex _ rx ry p k => hK ▸ s_ix e rx ry p k) q
def dHix (ta tb : TDE) : TDE := fun ds h P Z => ta ds h (fun x h1 => tb ds h1 (fun y h2 => ∃ n i xs d, x = .d (.ref n) ∧ y = .d (.int i) ∧ h2[n]? = some (.lst xs) ∧ atI xs i = some d ∧ P (.d d) h2) Z) Z
theorem de_hix {a b : Expr} {ta tb : TDE} {pos : Pos} (hK : C.K = X.K) (hs : PlainIx b) (ha : PE X a (lift C Wx ta)) (hb : PE X b (lift C Wx tb)) : PE X (.Subscript a b pos) (lift C Wx (dHix ta tb)) :=
  (pe_ix ix_list ha hb hs).imD fun σ H Q q => by
    obtain ⟨R, ds, h, P, Z, e, p, k, z⟩ := q
    refine ⟨R, ds, h, _, Z, e, p, fun R1 H1 h1 w1 v1 p1 x1 e1 r1 => ?_, z⟩
    refine ⟨R1, ds, h1, _, Z, e1, p1, fun R2 H2 h2 w2 v2 ⟨n, i, xs, d, hx, hy, hn, hi, p2⟩ x2 e2 r2 => ?_, fun R' H' h' x cls dd a b c d => z R' H' h' x cls dd a (x1.trans b) c d⟩
    subst hx hy
    have r1' : RelD C.K R2 H2 (.ref n) v1 := relW_ex e1.ok x2 r1
    obtain ⟨_, rfl⟩ := r_ref r1'
    cases rw_int r2
    obtain ⟨u, hu, vs, rfl, t⟩ := e2.ok.obj n _ hn
    obtain ⟨v, e3, rv⟩ := relDs_atI t hi
    exact ⟨_, vs, i, v, rfl, rfl, .inl (.inl hu), e3, k R2 H2 h2 _ _ p2 (x1.trans x2) e2 rv⟩
abbrev TDO := DSt → Hs → (Option Int → Hs → Prop) → XD → Prop
def dNo : TDO := fun _ h P _ => P none h
def dPart (t : TDE) : TDO := fun ds h P Z => t ds h (fun x h1 => ∃ i, x = .d (.int i) ∧ P (some i) h1) Z
def liftO (C : Cn) (Wx : WX) (t : TDO) : Sl → Hp → (Option Int → Hp → Prop) → Prop := fun σ H Q => ∃ R ds h P Z, Env C R ds σ H h ∧ t ds h P Z ∧
  (∀ R' H' h' w, P w h' → Ex R H R' H' → Env C R' ds σ H' h' → Q w H') ∧
  (∀ R' H' h' x cls dd, Z x h' → Ex R H R' H' → Env C R' ds σ H' h' → RelX C R' H' x cls dd → Wx cls dd σ H')
def cutD {α : Type} (xs : List α) (lo hi : Option Int) : List α := (xs.drop (HT.sIx xs.length 0 lo)).take (HT.sIx xs.length xs.length hi - HT.sIx xs.length 0 lo)
def wSl (x : W) (lo hi : Option Int) (Q : W → Prop) : Prop := match x with
  | .d (.str z) => z.length ≤ sizeLine ∧ Q (.d (.str (cutS z lo hi)))
  | .d (.tup xs) => Q (.d (.tup (cutD xs lo hi)))
  | x => ∃ xs, lstW x = some xs ∧ Q (.new (cutD xs lo hi))
def dSl (ta : TDE) (tl th : TDO) : TDE := fun ds h P Z => ta ds h (fun x h1 => tl ds h1 (fun lo h2 => th ds h2 (fun hi h3 => wSl x lo hi fun z => P z h3) Z) Z) Z
theorem relDs_cut {R : Rg} {H : Hp} {xs : List D} {vs : List V} {lo hi : Option Int} (r : RelDs C.K R H xs vs) : RelDs C.K R H (cutD xs lo hi) (cutV vs lo hi) := by
  unfold cutD cutV
  rw [relDs_len r]
  exact relDs_take _ (relDs_drop _ r)
theorem cut_all {α : Type} {xs : List α} {lo hi : Option Int} (h1 : HT.sIx xs.length 0 lo = 0) (h2 : HT.sIx xs.length xs.length hi = xs.length) : cutD xs lo hi = xs := by
  unfold cutD
  rw [h1, h2]
  simp
theorem sl_any : SlR X (fun x lo hi H Q => (rSlL X.K x lo hi H Q ∨ rSlA X.K x lo hi H Q) ∨ rSlS x lo hi H Q) := SlR.or (SlR.or sl_list sl_tupA) sl_str
theorem s_sl {R : Rg} {ds : DSt} {σ : Sl} {H : Hp} {h : Hs} {R0 : Rg} {H0 : Hp} {x : W} {lo hi : Option Int} {v : V} {Pw : W → Prop} {Q : VK} (e : Env C R ds σ H h) (ex : Ex R0 H0 R H)
    (rx : RelW C.K H0 R H x v) (p : wSl x lo hi Pw) (k : Kont C ds σ h R H H0 Pw Q) : (rSlL C.K v lo hi H Q ∨ rSlA C.K v lo hi H Q) ∨ rSlS v lo hi H Q := by
  unfold wSl at p
  split at p
  · cases rw_str rx
    exact .inr ⟨_, rfl, p.1, k R H _ _ p.2 (Ex.refl _ _) e mw_str⟩
  · obtain ⟨a, vs, rfl, q, t⟩ := rw_tup rx
    refine .inl (.inr ⟨a, vs, rfl, q.sq, fun ⟨h1, h2⟩ => ?_, fun _ l nl => ?_⟩)
    · rw [← relDs_len t] at h1 h2
      rw [cut_all h1 h2] at p
      exact k R H _ _ p (Ex.refl _ _) e (mw_tup q t)
    · exact k R _ _ _ p (Ex.fresh nl) (e.fresh nl) (mw_tup upd_same (relDs_ex e.ok (Ex.fresh nl) (relDs_cut t)))
  · obtain ⟨xs, e1, p⟩ := p
    obtain ⟨a, vs, rfl, q, t⟩ := rel_lst rx e1
    exact .inl (.inl ⟨a, vs, rfl, q, fun l nl => k R _ _ _ p (Ex.fresh nl) (e.fresh nl) (m_new e ex nl (relDs_cut t))⟩)
theorem do_no : PO X none (liftO C Wx dNo) := by
  refine ⟨fun pins s σ H Q I q => po_none.run pins s σ H Q I ?_⟩
  obtain ⟨R, ds, h, P, Z, e, p, k, z⟩ := q
  exact k R H h none p (Ex.refl _ _) e
theorem do_some {a : Expr} {ta : TDE} (ha : PE X a (lift C Wx ta)) : PO X (some a) (liftO C Wx (dPart ta)) := by
  refine ⟨fun pins s σ H Q I q => (po_some ha).run pins s σ H Q I ?_⟩
  obtain ⟨R, ds, h, P, Z, e, p, k, z⟩ := q
  refine ⟨R, ds, h, _, Z, e, p, fun R1 H1 h1 w1 v1 ⟨i, hx, p1⟩ x1 e1 r1 => ?_, z⟩
  subst hx
  exact ⟨i, rw_int r1, k R1 H1 h1 _ p1 x1 e1⟩
theorem de_sl {a : Expr} {lo hi : Option Expr} {ta : TDE} {tl th : TDO} {pos p2 : Pos} (hK : C.K = X.K) (ha : PE X a (lift C Wx ta)) (hl : PO X lo (liftO C Wx tl)) (hh : PO X hi (liftO C Wx th)) :
    PE X (.Subscript a (.Slice lo hi none p2) pos) (lift C Wx (dSl ta tl th)) :=
  (pe_slice sl_any ha hl hh).imD fun σ H Q q => by
    obtain ⟨R, ds, h, P, Z, e, p, k, z⟩ := q
    refine ⟨R, ds, h, _, Z, e, p, fun R1 H1 h1 w1 v1 p1 x1 e1 r1 => ?_, z⟩
    refine ⟨R1, ds, h1, _, Z, e1, p1, fun R2 H2 h2 lo p2 x2 e2 => ?_, fun R' H' h' x cls dd a b c d => z R' H' h' x cls dd a (x1.trans b) c d⟩
    refine ⟨R2, ds, h2, _, Z, e2, p2, fun R3 H3 h3 hi p3 x3 e3 => ?_, fun R' H' h' x cls dd a b c d => z R' H' h' x cls dd a ((x1.trans x2).trans b) c d⟩
    have x13 := (x1.trans x2).trans x3
    exact hK ▸ s_sl e3 x13 (relW_ex e1.ok (x2.trans x3) r1) p3 fun R' H' w z a b c d => k R' H' h3 w z a (x13.trans b) c d
end
end DL
set_option maxHeartbeats 4000000
namespace DL
open PySem PySem.Spec PyProof.Rows L2
/-- what is wanted behind a statement -/
structure DEnds where
  nx : DSt → Hs → Prop
  rt : D → Hs → Prop
  ex : Xn → DSt → Hs → Prop
  bk : DSt → Hs → Prop := fun _ _ => False
  ct : DSt → Hs → Prop := fun _ _ => False
abbrev TDS := DSt → Hs → DEnds → Prop
structure EndsOk (C : Cn) (Wx : WX) (R : Rg) (H : Hp) (P : DEnds) (D : Ends) : Prop where
  nx : ∀ R' ds σ H' h, Env C R' ds σ H' h → Mo C.K R H R' H' → P.nx ds h → D.nx σ H'
  bk : ∀ R' ds σ H' h, Env C R' ds σ H' h → Mo C.K R H R' H' → P.bk ds h → D.bk σ H'
  ct : ∀ R' ds σ H' h, Env C R' ds σ H' h → Mo C.K R H R' H' → P.ct ds h → D.ct σ H'
  rt : ∀ R' H' h d v, HOk' C.K C.Cl R' H' h → Ex C.R₀ C.H₀ R' H' → RelD C.K R' H' d v → P.rt d h → D.rt v H'
  ex : ∀ R' ds σ H' h x cls dd, Env C R' ds σ H' h → Mo C.K R H R' H' → RelX C R' H' x cls dd → P.ex x ds h → Wx cls dd σ H'
def liftS (C : Cn) (Wx : WX) (t : TDS) : TS := fun D σ H => ∃ R ds h P, Env C R ds σ H h ∧ t ds h P ∧ EndsOk C Wx R H P D
section
variable {X : Cx} {C : Cn} {Wx : WX}
theorem Mo.refl (K : Fg) (R : Rg) (H : Hp) : Mo K R H R H := ⟨Nat.le_refl _, fun _ _ => rfl, fun _ _ r => r, fun _ _ r => r, fun _ _ r => r, fun _ _ _ r => r⟩
theorem Mo.trans {K : Fg} {R R' R'' : Rg} {H H' H'' : Hp} (a : Mo K R H R' H') (b : Mo K R' H' R'' H'') : Mo K R H R'' H'' :=
  ⟨Nat.le_trans a.le b.le, fun i hi => (b.at_ i (Nat.lt_of_lt_of_le hi a.le)).trans (a.at_ i hi), fun _ _ r => b.tup _ _ (a.tup _ _ r), fun _ _ r => b.lst _ _ (a.lst _ _ r), fun _ _ r => b.fro _ _ (a.fro _ _ r), fun _ _ _ r => b.lk _ _ _ (a.lk _ _ _ r)⟩
theorem EndsOk.later {R R' : Rg} {H H' : Hp} {P : DEnds} {D : Ends} (k : EndsOk C Wx R H P D) (m : Mo C.K R H R' H') : EndsOk C Wx R' H' P D :=
  ⟨fun R2 ds σ H2 h e m2 p => k.nx R2 ds σ H2 h e (m.trans m2) p, fun R2 ds σ H2 h e m2 p => k.bk R2 ds σ H2 h e (m.trans m2) p, fun R2 ds σ H2 h e m2 p => k.ct R2 ds σ H2 h e (m.trans m2) p, k.rt,
    fun R2 ds σ H2 h x cls dd e m2 r p => k.ex R2 ds σ H2 h x cls dd e (m.trans m2) r p⟩
/-- an exception of an expression -/
theorem EndsOk.exE {R : Rg} {H : Hp} {P : DEnds} {D : Ends} {ds : DSt} {σ : Sl} {h : Hs} (k : EndsOk C Wx R H P D) (e : Env C R ds σ H h) :
    ∀ R' H' h' x cls dd, P.ex x ds h' → Ex R H R' H' → Env C R' ds σ H' h' → RelX C R' H' x cls dd → Wx cls dd σ H' :=
  fun R' H' h' x cls dd p a b c => k.ex R' ds σ H' h' x cls dd b (a.mo e.ok) c p
theorem Env.set {R : Rg} {ds : DSt} {σ : Sl} {H : Hp} {h : Hs} {d : D} {v : V} (e : Env C R ds σ H h) (i : Nat) (r : RelD C.K R H d v) : Env C R (ds.set i (some (.d d))) (σ.set i (some v)) H h := by
  have hs : ∀ (j : Nat) w, (ds.set i (some (W.d d)))[j]? = some (some w) → (j = i ∧ w = .d d ∧ i < ds.length) ∨ (j ≠ i ∧ ds[j]? = some (some w)) := fun j w q => by
    by_cases hj : j = i
    · subst hj
      by_cases hl : j < ds.length
      · rw [List.getElem?_set_self hl] at q; cases q; exact .inl ⟨rfl, rfl, hl⟩
      · rw [List.set_eq_of_length_le (by omega)] at q
        rw [List.getElem?_eq_none (by omega)] at q; cases q
    · rw [List.getElem?_set_ne (Ne.symm hj)] at q; exact .inr ⟨hj, q⟩
  refine ⟨e.ok, e.ex, by simp [e.len], fun j w q => ?_, fun j xs q => ?_, fun j k xs ys a q1 s1 q2 s2 => ?_, fun j xs a q s => ?_⟩
  · rcases hs j w q with ⟨rfl, rfl, hl⟩ | ⟨hj, q⟩
    · exact ⟨v, by rw [List.getElem?_set_self (by rw [← e.len]; exact hl)], r⟩
    · rw [List.getElem?_set_ne (Ne.symm hj)]; exact e.slot j w q
  · rcases hs j _ q with ⟨_, z, _⟩ | ⟨_, q⟩
    · cases z
    · exact e.nnew j xs q
  · rcases hs j _ q1 with ⟨_, z, _⟩ | ⟨hj, q1⟩
    · cases z
    rcases hs k _ q2 with ⟨_, z, _⟩ | ⟨hk, q2⟩
    · cases z
    rw [List.getElem?_set_ne (Ne.symm hj)] at s1
    rw [List.getElem?_set_ne (Ne.symm hk)] at s2
    exact e.own j k xs ys a q1 s1 q2 s2
  · rcases hs j _ q with ⟨_, z, _⟩ | ⟨hj, q⟩
    · cases z
    rw [List.getElem?_set_ne (Ne.symm hj)] at s
    exact e.own0 j xs a q s
/-- a slot takes a new list as its own -/
theorem Env.setO {R : Rg} {ds : DSt} {σ : Sl} {H : Hp} {h : Hs} {xs : List D} {vs : List V} {a : Addr} (e : Env C R ds σ H h) (i : Nat) (q : H a = some (.lst vs)) (nf : ¬ R.fz a) (o : Out R a) (r : RelDs C.K R H xs vs)
    (h0 : C.H₀ a = none) (hn : ∀ (j : Nat) ys, ds[j]? = some (some (.own ys)) → σ[j]? ≠ some (some (.ref a))) : Env C R (ds.set i (some (.own xs))) (σ.set i (some (.ref a))) H h := by
  have hs : ∀ (j : Nat) w, (ds.set i (some (W.own xs)))[j]? = some (some w) → (j = i ∧ w = .own xs ∧ i < ds.length) ∨ (j ≠ i ∧ ds[j]? = some (some w)) := fun j w q => by
    by_cases hj : j = i
    · subst hj
      by_cases hl : j < ds.length
      · rw [List.getElem?_set_self hl] at q; cases q; exact .inl ⟨rfl, rfl, hl⟩
      · rw [List.set_eq_of_length_le (by omega)] at q
        rw [List.getElem?_eq_none (by omega)] at q; cases q
    · rw [List.getElem?_set_ne (Ne.symm hj)] at q; exact .inr ⟨hj, q⟩
  refine ⟨e.ok, e.ex, by simp [e.len], fun j w q1 => ?_, fun j ys q1 => ?_, fun j k ys zs b q1 s1 q2 s2 => ?_, fun j ys b q1 s => ?_⟩
  · rcases hs j w q1 with ⟨rfl, rfl, hl⟩ | ⟨hj, q1⟩
    · exact ⟨.ref a, by rw [List.getElem?_set_self (by rw [← e.len]; exact hl)], a, vs, rfl, q, nf, o, r⟩
    · rw [List.getElem?_set_ne (Ne.symm hj)]; exact e.slot j w q1
  · rcases hs j _ q1 with ⟨_, z, _⟩ | ⟨_, q1⟩
    · cases z
    · exact e.nnew j ys q1
  · rcases hs j _ q1 with ⟨rfl, z, hl⟩ | ⟨hj, q1⟩
    · rw [List.getElem?_set_self (by rw [← e.len]; exact hl)] at s1
      cases s1
      rcases hs k _ q2 with ⟨rfl, _⟩ | ⟨hk, q2⟩
      · rfl
      · rw [List.getElem?_set_ne (Ne.symm hk)] at s2
        exact absurd s2 (hn k zs q2)
    · rw [List.getElem?_set_ne (Ne.symm hj)] at s1
      have q1b := q1
      rcases hs k _ q2 with ⟨ek, _, hl⟩ | ⟨hk, q2⟩
      · rw [ek, List.getElem?_set_self (by rw [← e.len]; exact hl)] at s2
        cases s2
        exact absurd s1 (hn j ys q1b)
      · rw [List.getElem?_set_ne (Ne.symm hk)] at s2
        exact e.own j k ys zs b q1 s1 q2 s2
  · rcases hs j _ q1 with ⟨rfl, _, hl⟩ | ⟨hj, q1⟩
    · rw [List.getElem?_set_self (by rw [← e.len]; exact hl)] at s
      cases s
      exact h0
    · rw [List.getElem?_set_ne (Ne.symm hj)] at s
      exact e.own0 j ys b q1 s
/-- a list that no tree leans on is written -/
theorem Mo.wr {R : Rg} {H : Hp} {a : Addr} {vs : List V} {o : HO} (q : H a = some (.lst vs)) (nf : ¬ R.fz a) : Mo C.K R H R (upd H a o) := by
  have ne : ∀ b u, H b = some u → u ≠ .lst vs → b ≠ a := fun b u e n z => by subst z; rw [q] at e; cases e; exact n rfl
  refine ⟨Nat.le_refl _, fun _ _ => rfl, fun b us r => ?_, fun b us r => ?_, fun b us r => ?_, fun b o' u' r => by rw [upd_ne (ne b _ r HO.noConfusion)]; exact r⟩
  · show upd H a o b = _
    rw [upd_ne (ne b _ r HO.noConfusion)]; exact r
  · exact ⟨r.1, by rw [upd_ne (show b ≠ a from fun z => nf (by rw [← z]; exact r.1))]; exact r.2⟩
  · rcases r with ⟨o', r⟩ | r
    · exact .inl ⟨o', by rw [upd_ne (ne b _ r HO.noConfusion)]; exact r⟩
    · exact .inr r
/-- an own list is written -/
theorem Env.wr {R : Rg} {ds : DSt} {σ : Sl} {H : Hp} {h : Hs} {xs ys : List D} {us : List V} {a : Addr} {i : Nat} (e : Env C R ds σ H h) (hi : ds[i]? = some (some (.own xs))) (hs : σ[i]? = some (some (.ref a))) (r : RelDs C.K R H ys us) :
    Env C R (ds.set i (some (.own ys))) σ (upd H a (.lst us)) h ∧ Mo C.K R H R (upd H a (.lst us)) := by
  obtain ⟨v, e1, a', vs, ev, q, nf, o, t⟩ := e.slot i _ hi
  rw [hs] at e1
  cases e1
  cases ev
  have m : Mo C.K R H R (upd H a (.lst us)) := Mo.wr q nf
  have h0 := e.own0 i xs a hi hs
  have hl : i < ds.length := (List.getElem?_eq_some_iff.mp hi).1
  refine ⟨⟨⟨e.ok.len, fun j o' hj => ?_, e.ok.inj, e.ok.nfz, fun b z => ?_, tabs_wr q (fun _ => HO.noConfusion) (fun _ => HO.noConfusion) e.ok.tab⟩, ⟨e.ex.le, e.ex.at_, e.ex.fz, e.ex.nat, e.ex.nfz, fun b u q1 o1 n1 => ?_, fun b q1 => ?_, fun b o' u' q1 => by rw [upd_ne (fun y => by subst y; rw [h0] at q1; cases q1)]; exact e.ex.lk b o' u' q1⟩, by simp [e.len], fun j w q1 => ?_, fun j zs q1 => ?_, fun j k zs ws b q1 s1 q2 s2 => ?_, fun j zs b q1 s1 => ?_⟩, m⟩
  · obtain ⟨u, e2, r2⟩ := e.ok.obj j o' hj
    have hjn : j < R.n := by rw [← e.ok.len]; exact (List.getElem?_eq_some_iff.mp hj).1
    exact ⟨u, by rw [upd_ne (o j hjn)]; exact e2, relO_mo m r2⟩
  · obtain ⟨ws, e2⟩ := e.ok.fzd b z
    exact ⟨ws, by rw [upd_ne (show b ≠ a from fun y => nf (by rw [← y]; exact z))]; exact e2⟩
  · rw [upd_ne (fun y => by subst y; rw [h0] at q1; cases q1)]
    exact e.ex.frm b u q1 o1 n1
  · by_cases y : b = a
    · subst y; exact h0
    · rw [upd_ne y] at q1; exact e.ex.dom b q1
  · by_cases hj : j = i
    · subst hj
      rw [List.getElem?_set_self hl] at q1
      cases q1
      exact ⟨.ref a, hs, a, us, rfl, upd_same, nf, o, relDs_mo m r⟩
    · rw [List.getElem?_set_ne (Ne.symm hj)] at q1
      obtain ⟨v2, s2, r2⟩ := e.slot j w q1
      refine ⟨v2, s2, ?_⟩
      cases w with
      | d y => exact relD_mo m r2
      | new zs => exact absurd q1 (e.nnew j zs)
      | fn _ => exact r2
      | own zs =>
        obtain ⟨b, ws, ev2, q2, nf2, o2, t2⟩ := r2
        subst ev2
        have nab : b ≠ a := fun y => by
          subst y
          exact hj (e.own j i zs xs b q1 s2 hi hs)
        exact ⟨b, ws, rfl, by rw [upd_ne nab]; exact q2, nf2, o2, relDs_mo m t2⟩
  · by_cases hj : j = i
    · subst hj
      rw [List.getElem?_set_self hl] at q1
      cases q1
    · rw [List.getElem?_set_ne (Ne.symm hj)] at q1; exact e.nnew j zs q1
  · have f : ∀ (j : Nat) zs, (ds.set i (some (W.own ys)))[j]? = some (some (W.own zs)) → ∃ zs', ds[j]? = some (some (.own zs')) := fun j zs q => by
      by_cases hj : j = i
      · subst hj; exact ⟨xs, hi⟩
      · rw [List.getElem?_set_ne (Ne.symm hj)] at q; exact ⟨zs, q⟩
    obtain ⟨_, g1⟩ := f j zs q1
    obtain ⟨_, g2⟩ := f k ws q2
    exact e.own j k _ _ b g1 s1 g2 s2
  · by_cases hj : j = i
    · subst hj; exact e.own0 j xs b hi s1
    · rw [List.getElem?_set_ne (Ne.symm hj)] at q1; exact e.own0 j zs b q1 s1
/-- what may be shared and written -/
def Shr : HO → Prop
  | .lst _ => True
  | .dK _ => True
  | .dT _ => True
  | .ins _ _ _ => True
  | .frz _ _ => True
  | _ => False
theorem shr_of {K : Fg} {Cl : Cm} {R : Rg} {H : Hp} {o : O} {u : HO} (r : RelO K Cl R H o u) : Shr u := by
  cases o with
  | lst xs => obtain ⟨vs, rfl, _⟩ := r; trivial
  | dic xs => obtain ⟨vs, rfl, _⟩ := r; trivial
  | dit xs => obtain ⟨vs, rfl, _⟩ := r; trivial
  | ins c xs => obtain ⟨d, vs, rfl, _⟩ := r; trivial
  | fit xs => obtain ⟨d, vs, rfl, _⟩ := r; trivial
  | fic xs => obtain ⟨d, vs, rfl, _⟩ := r; trivial
/-- no locked dict -/
def O.mut : O → Bool
  | .fit _ => false
  | .fic _ => false
  | _ => true
theorem mut_of {K : Fg} {Cl : Cm} {R : Rg} {H : Hp} {o : O} {u : HO} (r : RelO K Cl R H o u) (m : o.mut = true) : ∀ o' v, u ≠ .frz o' v := fun o' v z => by
  subst z
  cases o with
  | lst xs => obtain ⟨vs, e, _⟩ := r; cases e
  | dic xs => obtain ⟨vs, e, _⟩ := r; cases e
  | dit xs => obtain ⟨vs, e, _⟩ := r; cases e
  | ins c xs => obtain ⟨d, vs, e, _⟩ := r; cases e
  | fit xs => cases m
  | fic xs => cases m
/-- a shared object is written -/
theorem Env.hw {R : Rg} {ds : DSt} {σ : Sl} {H : Hp} {h : Hs} {n : Nat} {o o2 : O} {u2 : HO} (e : Env C R ds σ H h) (hn : h[n]? = some o) (r2 : RelO C.K C.Cl R H o2 u2) (hm : o.mut = true := by rfl) :
    Env C R ds σ (upd H (R.at_ n) u2) (h.set n o2) ∧ Mo C.K R H R (upd H (R.at_ n) u2) := by
  obtain ⟨u, hu, r⟩ := e.ok.obj n o hn
  have hnl : n < R.n := by rw [← e.ok.len]; exact (List.getElem?_eq_some_iff.mp hn).1
  have su := shr_of r
  have ne : ∀ b v, H b = some v → ¬ Shr v → b ≠ R.at_ n := fun b v q s z => by rw [z, hu] at q; cases q; exact s su
  have nfz : ∀ b, R.fz b → b ≠ R.at_ n := fun b z y => e.ok.nfz n hnl (by rw [← y]; exact z)
  have neF : ∀ b o' v, H b = some (.frz o' v) → b ≠ R.at_ n := fun b o' v q z => by rw [z, hu] at q; cases q; exact mut_of r hm _ _ rfl
  have m : Mo C.K R H R (upd H (R.at_ n) u2) := by
    refine ⟨Nat.le_refl _, fun _ _ => rfl, fun b us q => ?_, fun b us q => ⟨q.1, by rw [upd_ne (nfz b q.1)]; exact q.2⟩, fun b us q => ?_, fun b o' u' q => by rw [upd_ne (neF b _ _ q)]; exact q⟩
    · show upd H (R.at_ n) u2 b = _
      rw [upd_ne (ne b _ q fun z => z)]; exact q
    · rcases q with ⟨o', q⟩ | q
      · exact .inl ⟨o', by rw [upd_ne (neF b _ _ q)]; exact q⟩
      · exact .inr q
  refine ⟨⟨⟨by simp [e.ok.len], fun j o' hj => ?_, e.ok.inj, e.ok.nfz, fun b z => ?_, tabs_wr hu (fun ps z => by rw [z] at su; exact su) (fun ps z => by rw [z] at su; exact su) e.ok.tab⟩, ⟨e.ex.le, e.ex.at_, e.ex.fz, e.ex.nat, e.ex.nfz, fun b v q1 o1 n1 => ?_, fun b q1 => ?_, fun b o' u' q1 => by rw [upd_ne (neF b _ _ (e.ex.lk b o' u' q1))]; exact e.ex.lk b o' u' q1⟩, e.len, fun j w q1 => ?_, e.nnew, e.own, e.own0⟩, m⟩
  · by_cases hjn : j = n
    · subst hjn
      rw [List.getElem?_set_self (by rw [e.ok.len]; exact hnl)] at hj
      cases hj
      exact ⟨u2, upd_same, relO_mo m r2⟩
    · rw [List.getElem?_set_ne (Ne.symm hjn)] at hj
      obtain ⟨v, e2, r3⟩ := e.ok.obj j o' hj
      have hjl : j < R.n := by rw [← e.ok.len]; exact (List.getElem?_eq_some_iff.mp hj).1
      exact ⟨v, by rw [upd_ne (fun z => hjn (e.ok.inj j n hjl hnl z))]; exact e2, relO_mo m r3⟩
  · obtain ⟨ws, e2⟩ := e.ok.fzd b z
    exact ⟨ws, by rw [upd_ne (nfz b z)]; exact e2⟩
  · have ob := e.ex.out q1 o1
    rw [upd_ne (fun z => ob n hnl z.symm)]
    exact e.ex.frm b v q1 o1 n1
  · by_cases y : b = R.at_ n
    · rw [y, upd_same] at q1; cases q1
    · rw [upd_ne y] at q1; exact e.ex.dom b q1
  · obtain ⟨v2, s2, r3⟩ := e.slot j w q1
    refine ⟨v2, s2, ?_⟩
    cases w with
    | d y => exact relD_mo m r3
    | new zs => exact absurd q1 (e.nnew j zs)
    | fn _ => exact r3
    | own zs =>
      obtain ⟨b, ws, ev2, q2, nf2, o2, t2⟩ := r3
      exact ⟨b, ws, ev2, by rw [upd_ne (fun z => o2 n hnl z.symm)]; exact q2, nf2, o2, relDs_mo m t2⟩
/-- a new shared object -/
theorem Env.ha {R : Rg} {ds : DSt} {σ : Sl} {H : Hp} {h : Hs} {p : Addr} {o : O} {u : HO} (e : Env C R ds σ H h) (np : H p = none) (r : RelO C.K C.Cl R H o u) :
    ∃ R', Env C R' ds σ (upd H p u) (h ++ [o]) ∧ Ex R H R' (upd H p u) ∧ R'.at_ h.length = p ∧ R'.n = h.length + 1 := by
  let R' : Rg := ⟨R.n + 1, fun i => if i = R.n then p else R.at_ i, R.fz⟩
  have hlt : ∀ i, i < R.n → R'.at_ i = R.at_ i := fun i hi => if_neg (Nat.ne_of_lt hi)
  have hat : R'.at_ R.n = p := if_pos rfl
  have nf := e.ok.nfresh np
  have x : Ex R H R' (upd H p u) := by
    refine ⟨Nat.le_succ _, hlt, fun _ z => z, fun i a b => ?_, fun _ z => .inl z, fun b v q _ _ => by rw [upd_ne (ne_of_none q np)]; exact q, fun b q => ?_, fun b o' u' q => by rw [upd_ne (ne_of_none q np)]; exact q⟩
    · have : i = R.n := by have b' : i < R.n + 1 := b; omega
      subst this
      rw [hat]; exact np
    · by_cases y : b = p
      · subst y; exact np
      · rw [upd_ne y] at q; exact q
  have m := x.mo e.ok
  have ok : HOk' C.K C.Cl R' (upd H p u) (h ++ [o]) := by
    refine ⟨by show (h ++ [o]).length = R.n + 1; simp [e.ok.len], fun j o' hj => ?_, fun i j hi hj q => ?_, fun i hi z => ?_, fun b z => ?_, tabs_new np e.ok.tab⟩
    · by_cases hl : j < h.length
      · rw [List.getElem?_append_left hl] at hj
        obtain ⟨v, e2, r3⟩ := e.ok.obj j o' hj
        have hjl : j < R.n := by rw [← e.ok.len]; exact hl
        exact ⟨v, by rw [hlt j hjl, upd_ne (ne_of_none e2 np)]; exact e2, relO_mo m r3⟩
      · have hb : j < (h ++ [o]).length := (List.getElem?_eq_some_iff.mp hj).1
        have ej : j = h.length := by simp at hb; omega
        subst ej
        simp at hj
        subst hj
        exact ⟨u, by rw [e.ok.len, hat]; exact upd_same, relO_mo m r⟩
    · have hi' : i < R.n + 1 := hi
      have hj' : j < R.n + 1 := hj
      by_cases a : i = R.n
      · by_cases b : j = R.n
        · omega
        · exfalso
          rw [a, hat, hlt j (by omega)] at q
          exact nf.2 j (by omega) q.symm
      · by_cases b : j = R.n
        · exfalso
          rw [b, hat, hlt i (by omega)] at q
          exact nf.2 i (by omega) q
        · rw [hlt i (by omega), hlt j (by omega)] at q
          exact e.ok.inj i j (by omega) (by omega) q
    · have hi' : i < R.n + 1 := hi
      by_cases a : i = R.n
      · rw [a, hat] at z; exact nf.1 z
      · rw [hlt i (by omega)] at z; exact e.ok.nfz i (by omega) z
    · obtain ⟨ws, e2⟩ := e.ok.fzd b z
      exact ⟨ws, by rw [upd_ne (ne_of_none e2 np)]; exact e2⟩
  exact ⟨R', e.step x ok, x, by rw [e.ok.len]; exact hat, by rw [e.ok.len]⟩
/-- an own list becomes one that never changes -/
theorem Env.frz {R : Rg} {ds : DSt} {σ : Sl} {H : Hp} {h : Hs} {xs : List D} {i : Nat} (e : Env C R ds σ H h) (hi : ds[i]? = some (some (.own xs))) :
    ∃ R', Env C R' (ds.set i (some (.d (.lst xs)))) σ H h ∧ Mo C.K R H R' H := by
  obtain ⟨v, s1, a, vs, ev, q, nf, o, t⟩ := e.slot i _ hi
  subst ev
  have hl : i < ds.length := (List.getElem?_eq_some_iff.mp hi).1
  have h0 := e.own0 i xs a hi s1
  refine ⟨R.frz a, ⟨e.ok.frz q o, e.ex.frz h0, by simp [e.len], fun j w q1 => ?_, fun j zs q1 => ?_, fun j k zs ws b q1 t1 q2 t2 => ?_, fun j zs b q1 t1 => ?_⟩, Mo.frz⟩
  · by_cases hj : j = i
    · subst hj
      rw [List.getElem?_set_self hl] at q1
      cases q1
      refine ⟨.ref a, s1, ?_⟩
      show RelD C.K (R.frz a) H (.lst xs) (.ref a)
      unfold RelD
      exact ⟨a, vs, rfl, ⟨.inr rfl, q⟩, relDs_mo Mo.frz t⟩
    · rw [List.getElem?_set_ne (Ne.symm hj)] at q1
      obtain ⟨v2, s2, r2⟩ := e.slot j w q1
      refine ⟨v2, s2, ?_⟩
      cases w with
      | d y => exact relD_mo Mo.frz r2
      | new zs => exact absurd q1 (e.nnew j zs)
      | fn _ => exact r2
      | own zs =>
        obtain ⟨b, ws, ev2, q2, nf2, o2, t2⟩ := r2
        subst ev2
        refine ⟨b, ws, rfl, q2, fun z => ?_, o2, relDs_mo Mo.frz t2⟩
        rcases z with z | z
        · exact nf2 z
        · subst z; exact hj (e.own j i zs xs b q1 s2 hi s1)
  · by_cases hj : j = i
    · subst hj; rw [List.getElem?_set_self hl] at q1; cases q1
    · rw [List.getElem?_set_ne (Ne.symm hj)] at q1; exact e.nnew j zs q1
  · by_cases hj : j = i
    · subst hj; rw [List.getElem?_set_self hl] at q1; cases q1
    by_cases hk : k = i
    · subst hk; rw [List.getElem?_set_self hl] at q2; cases q2
    rw [List.getElem?_set_ne (Ne.symm hj)] at q1
    rw [List.getElem?_set_ne (Ne.symm hk)] at q2
    exact e.own j k zs ws b q1 t1 q2 t2
  · by_cases hj : j = i
    · subst hj; rw [List.getElem?_set_self hl] at q1; cases q1
    · rw [List.getElem?_set_ne (Ne.symm hj)] at q1; exact e.own0 j zs b q1 t1
end
end DL
set_option maxHeartbeats 4000000
namespace DL
open PySem PySem.Spec PyProof.Rows L2
section
variable {X : Cx} {C : Cn} {Wx : WX}
def dNext : TDS := fun ds h P => P.nx ds h
def dSeq (t u : TDS) : TDS := fun ds h P => t ds h { P with nx := fun ds' h' => u ds' h' P }
theorem dss_nil : PSs X [] (liftS C Wx dNext) := pss_nil.imD fun D σ H q => by
  obtain ⟨R, ds, h, P, e, p, k⟩ := q
  exact k.nx R ds σ H h e (Mo.refl _ _ _) p
theorem dss_cons {st : Stmt} {rest : List Stmt} {t u : TDS} (h1 : PS X st (liftS C Wx t)) (h2 : PSs X rest (liftS C Wx u)) : PSs X (st :: rest) (liftS C Wx (dSeq t u)) := (pss_cons h1 h2).imD fun D σ H q => by
  obtain ⟨R, ds, h, P, e, p, k⟩ := q
  exact ⟨R, ds, h, _, e, p, ⟨fun R' ds' σ' H' h' e' m p' => ⟨R', ds', h', P, e', p', k.later m⟩, k.bk, k.ct, k.rt, k.ex⟩⟩
theorem ds_pass {pos : Pos} : PS X (.Pass pos) (liftS C Wx dNext) := ps_pass.imD fun D σ H q => by
  obtain ⟨R, ds, h, P, e, p, k⟩ := q
  exact k.nx R ds σ H h e (Mo.refl _ _ _) p
def dBrk : TDS := fun ds h P => P.bk ds h
theorem ds_brk {pos : Pos} : PS X (.Break pos) (liftS C Wx dBrk) := ps_break.imD fun D σ H q => by
  obtain ⟨R, ds, h, P, e, p, k⟩ := q
  exact k.bk R ds σ H h e (Mo.refl _ _ _) p
def dRet (t : TDE) : TDS := fun ds h P => dD t ds h (fun d h' => P.rt d h') (fun x h' => P.ex x ds h')
theorem ds_ret {e : Expr} {t : TDE} {pos : Pos} (he : PE X e (lift C Wx t)) : PS X (.Return (some e) pos) (liftS C Wx (dRet t)) := (ps_ret (pe_D he)).imD fun D σ H q => by
  obtain ⟨R, ds, h, P, e, p, k⟩ := q
  exact ⟨R, ds, h, _, _, e, p, fun R' H' h' d v p' x e' r => k.rt R' H' h' d v e'.ok e'.ex r p', k.exE e⟩
/-- an expression's value is dropped -/
def dDrop (t : TDE) : TDS := fun ds h P => t ds h (fun _ h' => P.nx ds h') (fun x h' => P.ex x ds h')
theorem ds_expr {e : Expr} {t : TDE} {pos : Pos} (he : PE X e (lift C Wx t)) (hs : swapsWith e none pos.line X.env = pure false) : PS X (.Expr e pos) (liftS C Wx (dDrop t)) := (ps_expr he hs).imD fun D σ H q => by
  obtain ⟨R, ds, h, P, e, p, k⟩ := q
  exact ⟨R, ds, h, _, _, e, p, fun R' H' h' w v p' x e' r => k.nx R' ds σ H' h' e' (x.mo e.ok) p', k.exE e⟩
/-- name = value, a tree -/
def dSet (i : Nat) (t : TDE) : TDS := fun ds h P => dD t ds h (fun d h' => P.nx (ds.set i (some (.d d))) h') (fun x h' => P.ex x ds h')
theorem ds_set {i : Nat} {x : Str} {e : Expr} {t : TDE} {pos pos' : Pos} (hN : X.N.Nodup) (hi : X.N[i]? = some x) (hx : Loc X.env.scope x) (hf : X.fn x = true ∨ X.env.scope.names.lookup x = some .local) (he : PE X e (lift C Wx t)) (hs : swapsWith e (some (.Name x pos')) pos.line X.env = pure false) :
    PS X (.Assign [.Name x pos'] e pos) (liftS C Wx (dSet i t)) := (ps_set (i := i) hN hi hx (pe_D he) hs hf).imD fun D σ H q => by
  obtain ⟨R, ds, h, P, e, p, k⟩ := q
  exact ⟨R, ds, h, _, _, e, p, fun R' H' h' d v p' x e' r => k.nx R' _ _ H' h' (e'.set i r) (x.mo e.ok) p', k.exE e⟩
/-- name = a new list, its own -/
def dOwn (i : Nat) (t : TDE) : TDS := fun ds h P => t ds h (fun w h' => ∃ xs, w = .new xs ∧ P.nx (ds.set i (some (.own xs))) h') (fun x h' => P.ex x ds h')
theorem Env.ownNew {R R' : Rg} {H H' : Hp} {ds : DSt} {σ : Sl} {h h' : Hs} {xs : List D} {v : V} (i : Nat) (e : Env C R ds σ H h) (e' : Env C R' ds σ H' h') (r : RelW C.K H R' H' (.new xs) v) : Env C R' (ds.set i (some (.own xs))) (σ.set i (some v)) H' h' := by
  obtain ⟨a, vs, rfl, n1, q, nf, o, t⟩ := r
  refine e'.setO i q nf o t (e.ex.dom a n1) fun j ys hj hs => ?_
  obtain ⟨v0, s0, a0, vs0, ev0, q0, _⟩ := e.slot j _ hj
  rw [hs] at s0
  cases s0
  cases ev0
  rw [n1] at q0
  cases q0
theorem ds_own {i : Nat} {x : Str} {e : Expr} {t : TDE} {pos pos' : Pos} (hN : X.N.Nodup) (hi : X.N[i]? = some x) (hx : Loc X.env.scope x) (hf : X.fn x = true ∨ X.env.scope.names.lookup x = some .local) (he : PE X e (lift C Wx t)) (hs : swapsWith e (some (.Name x pos')) pos.line X.env = pure false) :
    PS X (.Assign [.Name x pos'] e pos) (liftS C Wx (dOwn i t)) := (ps_set (i := i) hN hi hx he hs hf).imD fun D σ H q => by
  obtain ⟨R, ds, h, P, e, p, k⟩ := q
  refine ⟨R, ds, h, _, _, e, p, fun R' H' h' w v ⟨xs, hw, p'⟩ x e' r => ?_, k.exE e⟩
  subst hw
  exact k.nx R' _ _ H' h' (Env.ownNew i e e' r) (x.mo e.ok) p'
/-- an own list becomes a tree, ahead of a statement -/
def dFrz (i : Nat) (t : TDS) : TDS := fun ds h P => ∃ xs, ds[i]? = some (some (.own xs)) ∧ t (ds.set i (some (.d (.lst xs)))) h P
theorem lift_frz {i : Nat} {t : TDS} {D : Ends} {σ : Sl} {H : Hp} (q : liftS C Wx (dFrz i t) D σ H) : liftS C Wx t D σ H := by
  obtain ⟨R, ds, h, P, e, ⟨xs, hi, p⟩, k⟩ := q
  obtain ⟨R', e', m⟩ := e.frz hi
  exact ⟨R', _, h, P, e', p, k.later m⟩
theorem ds_frz {i : Nat} {st : Stmt} {t : TDS} (hs : PS X st (liftS C Wx t)) : PS X st (liftS C Wx (dFrz i t)) := hs.imD fun _ _ _ q => lift_frz q
def dIte (c : TDT) (t u : TDS) : TDS := fun ds h P => c ds h (fun b h' => if b = true then t ds h' P else u ds h' P) (fun x h' => P.ex x ds h')
theorem ds_if {c : Expr} {a b : List Stmt} {tc : TDT} {t u : TDS} {pos : Pos} (hc : PT X c (liftT C Wx tc)) (ha : PSs X a (liftS C Wx t)) (hb : PSs X b (liftS C Wx u)) : PS X (.If c a b pos) (liftS C Wx (dIte tc t u)) := (ps_if hc ha hb).imD fun D σ H q => by
  obtain ⟨R, ds, h, P, e, p, k⟩ := q
  refine ⟨R, ds, h, _, _, e, p, fun R' H' h' b p' x e' => ?_, k.exE e⟩
  cases b with
  | true => exact ⟨R', ds, h', P, e', p', k.later (x.mo e.ok)⟩
  | false => exact ⟨R', ds, h', P, e', p', k.later (x.mo e.ok)⟩
mutual
inductive Tg where
  | nm (i : Nat)
  | tp (ts : Tgs)
inductive Tgs where
  | nil
  | cons (t : Tg) (ts : Tgs)
end
mutual
def Tg.slots : Tg → List Nat
  | .nm i => [i]
  | .tp ts => ts.slots
def Tgs.slots : Tgs → List Nat
  | .nil => []
  | .cons t ts => t.slots ++ ts.slots
end
def Tgs.len : Tgs → Nat
  | .nil => 0
  | .cons _ ts => ts.len + 1
mutual
def Tg.put : Tg → D → DSt → (DSt → Prop) → Prop
  | .nm i, d, ds, P => P (ds.set i (some (.d d)))
  | .tp ts, d, ds, P => ∃ xs, d = .tup xs ∧ xs.length = ts.len ∧ ts.put xs ds P
def Tgs.put : Tgs → List D → DSt → (DSt → Prop) → Prop
  | .nil, xs, ds, P => xs = [] ∧ P ds
  | .cons t ts, xs, ds, P => ∃ x r, xs = x :: r ∧ t.put x ds fun ds' => ts.put r ds' P
end
/-- the slots but some are as they were -/
def Kept (l : List Nat) (σ σ' : Sl) : Prop := σ'.length = σ.length ∧ ∀ j, j ∉ l → σ'[j]? = σ[j]?
def liftG (C : Cn) (g : Tg) : TG := fun v σ H Q => ∃ R ds h d P, Env C R ds σ H h ∧ RelD C.K R H d v ∧ g.put d ds P ∧ ∀ ds' σ', Env C R ds' σ' H h → Kept g.slots σ σ' → P ds' → Q σ' H
def liftGs (C : Cn) (g : Tgs) : TGs := fun v σ H Q => ∃ R ds h d P, Env C R ds σ H h ∧ RelDs C.K R H d v ∧ g.put d ds P ∧ ∀ ds' σ', Env C R ds' σ' H h → Kept g.slots σ σ' → P ds' → Q σ' H
theorem _root_.L2.PG.imD {X : Cx} {e : Expr} {t t' : TG} (p : PG X e t) (f : ∀ v σ H Q, t' v σ H Q → t v σ H Q) : PG X e t' := ⟨fun pins s σ H v u Q I r q => p.run pins s σ H v u Q I r (f v σ H Q q)⟩
theorem _root_.L2.PGs.imD {X : Cx} {e : List Expr} {t t' : TGs} (p : PGs X e t) (f : ∀ v σ H Q, t' v σ H Q → t v σ H Q) : PGs X e t' := ⟨fun pins s σ H v u Q I r q => p.run pins s σ H v u Q I r (f v σ H Q q)⟩
theorem dg_nm {i : Nat} {x : Str} {pos : Pos} (hN : X.N.Nodup) (hi : X.N[i]? = some x) (hx : Loc X.env.scope x) (hf : X.fn x = true ∨ X.env.scope.names.lookup x = some .local) : PG X (.Name x pos) (liftG C (.nm i)) := (pg_name (i := i) hN hi hx hf).imD fun v σ H Q q => by
  obtain ⟨R, ds, h, d, P, e, r, p, k⟩ := q
  unfold Tg.put at p
  refine k _ _ (e.set i r) ⟨by simp, fun j hj => ?_⟩ p
  unfold Tg.slots at hj
  rw [List.getElem?_set_ne (fun z => hj (by simp [z]))]
theorem dgs_nil : PGs X [] (liftGs C .nil) := pgs_nil.imD fun v σ H Q q => by
  obtain ⟨R, ds, h, d, P, e, r, p, k⟩ := q
  unfold Tgs.put at p
  obtain ⟨rfl, p⟩ := p
  exact ⟨r_nil r, k ds σ e ⟨rfl, fun _ _ => rfl⟩ p⟩
theorem dgs_cons {e : Expr} {es : List Expr} {t : Tg} {ts : Tgs} (h1 : PG X e (liftG C t)) (h2 : PGs X es (liftGs C ts)) (hs : (assignEach (e :: es) X.env).map (·.2) = assign e X.env :: (assignEach es X.env).map (·.2)) : PGs X (e :: es) (liftGs C (.cons t ts)) := (pgs_cons h1 h2 hs).imD fun v σ H Q q => by
  obtain ⟨R, ds, h, d, P, e, r, p, k⟩ := q
  unfold Tgs.put at p
  obtain ⟨x, xr, rfl, p⟩ := p
  obtain ⟨v1, vr, rfl, r1, r2⟩ := r_cons r
  refine ⟨v1, vr, rfl, R, ds, h, x, _, e, r1, p, fun ds' σ' e' kp p' => ⟨R, ds', h, xr, P, e', r2, p', fun ds2 σ2 e2 kp2 p2 => k ds2 σ2 e2 ⟨kp2.1.trans kp.1, fun j hj => ?_⟩ p2⟩⟩
  unfold Tgs.slots at hj
  rw [List.mem_append, not_or] at hj
  exact (kp2.2 j hj.2).trans (kp.2 j hj.1)
theorem dg_tp {es : List Expr} {k : Nat} {ts : Tgs} {pos : Pos} (hK : C.K = X.K) (hc : X.calm = true) (h : PGs X es (liftGs C ts)) (hn : (assignEach es X.env).length = ts.len) (hst : (assignEach es X.env).findIdx? (·.1) = none) : PG X (.Tuple es k pos) (liftG C (.tp ts)) :=
  (pg_tup (n := ts.len) hc h hn hst).imD fun v σ H Q q => by
    obtain ⟨R, ds, h, d, P, e, r, p, k⟩ := q
    unfold Tg.put at p
    obtain ⟨xs, rfl, hl, p⟩ := p
    obtain ⟨a, vs, rfl, q, t⟩ := r_tup r
    exact ⟨a, vs, rfl, q.sq, by rw [← relDs_len t]; exact hl, R, ds, h, xs, P, e, t, p, k⟩
/-- target = value -/
def dAsg (g : Tg) (t : TDE) : TDS := fun ds h P => dD t ds h (fun d h' => g.put d ds fun ds' => P.nx ds' h') (fun x h' => P.ex x ds h')
theorem ds_asg {tg e : Expr} {t : TDE} {g : Tg} {pos : Pos} (he : PE X e (lift C Wx t)) (hg : PG X tg (liftG C g)) (hs : swapsWithSole [tg] e pos.line X.env = pure false) (hw : swappedStores [tg] e X.env = pure none)
    (h1 : (assignEach [tg] X.env).map (·.2) = [assign tg X.env]) : PS X (.Assign [tg] e pos) (liftS C Wx (dAsg g t)) := (ps_asg (pe_D he) hg hs hw h1).imD fun D σ H q => by
  obtain ⟨R, ds, h, P, e, p, k⟩ := q
  exact ⟨R, ds, h, _, _, e, p, fun R' H' h' d v p' x e' r => ⟨R', ds, h', d, _, e', r, p', fun ds' σ' e2 _ p2 => k.nx R' ds' σ' H' h' e2 (x.mo e.ok) p2⟩, k.exE e⟩
structure Src (C : Cn) (R : Rg) (H : Hp) (xs : List D) (J : It) : Prop where
  go : ∀ i R' H', Mo C.K R H R' H' → i < xs.length → J.go i H'
  stop : ∀ R' H', Mo C.K R H R' H' → J.stop xs.length H'
  yld : ∀ i R' H' v H2 d ds σ h, Mo C.K R H R' H' → Env C R' ds σ H' h → xs[i]? = some d → J.yld i H' v H2 → Ex R' H' R' H2 ∧ Env C R' ds σ H2 h ∧ RelD C.K R' H2 d v
abbrev TDI := DSt → Hs → (List D → Hs → Prop) → XD → Prop
def liftI (C : Cn) (Wx : WX) (t : TDI) : TI := fun σ H Q => ∃ R ds h P Z, Env C R ds σ H h ∧ t ds h P Z ∧
  (∀ R' H' h' xs J, P xs h' → Ex R H R' H' → Env C R' ds σ H' h' → Src C R' H' xs J → Q J H') ∧
  (∀ R' H' h' x cls dd, Z x h' → Ex R H R' H' → Env C R' ds σ H' h' → RelX C R' H' x cls dd → Wx cls dd σ H')
theorem _root_.L2.PI.imD {X : Cx} {tg e : Expr} {t t' : TI} (p : PI X tg e t) (f : ∀ σ H Q, t' σ H Q → t σ H Q) : PI X tg e t' := ⟨fun pins s σ H Q I q => p.run pins s σ H Q I (f σ H Q q)⟩
def dItL (t : TDE) : TDI := fun ds h P Z => dD t ds h (fun d h' => ∃ xs, (d = .lst xs ∨ d = .fro xs) ∧ P xs h') Z
def dItT (t : TDE) : TDI := fun ds h P Z => dD t ds h (fun d h' => ∃ xs, d = .tup xs ∧ P xs h') Z
def dItS (t : TDE) : TDI := fun ds h P Z => dD t ds h (fun d h' => ∃ x, d = .str x ∧ P (x.cps.toList.map fun c => .str ⟨#[c]⟩) h') Z
theorem di_lst {tg e : Expr} {t : TDE} (hK : C.K = X.K) (he : PE X e (lift C Wx t)) : PI X tg e (liftI C Wx (dItL t)) := (pi_list (pe_D he)).imD fun σ H Q q => by
  obtain ⟨R, ds, h, P, Z, e, p, k, z⟩ := q
  refine ⟨R, ds, h, _, Z, e, p, fun R' H' h' d v ⟨xs, hd, p'⟩ x e' r => ?_, z⟩
  have src : ∀ a vs, (∀ R2 H2, Mo C.K R' H' R2 H2 → SqL C.K H2 a vs) → RelDs C.K R' H' xs vs → Src C R' H' xs (Itl X.K a) := fun a vs st t => by
    rw [← hK]
    refine ⟨fun i R2 H2 m hi => ⟨vs, vs[i]'(by rw [← relDs_len t]; exact hi), st R2 H2 m, by simp⟩, fun R2 H2 m => ⟨vs, st R2 H2 m, by rw [relDs_len t]; exact Nat.le_refl _⟩, fun i R2 H2 v H3 d ds σ h m e2 hd y => ?_⟩
    obtain ⟨rfl, y⟩ := y
    obtain ⟨u, hu, ru⟩ := relDs_get t hd
    have := y vs (st R2 _ m)
    rw [hu] at this
    cases this
    exact ⟨Ex.refl _ _, e2, relD_mo m ru⟩
  rcases hd with rfl | rfl
  · obtain ⟨a, vs, rfl, q, t⟩ := r_lst r
    exact ⟨a, rfl, ⟨vs, q.sq⟩, k R' H' h' xs _ p' x e' (src a vs (fun R2 H2 m => (m.lst _ _ q).sq) t)⟩
  · obtain ⟨a, vs, rfl, q, t⟩ := r_fro r
    exact ⟨a, rfl, ⟨vs, hK ▸ q.sq⟩, k R' H' h' xs _ p' x e' (src a vs (fun R2 H2 m => (m.fro _ _ q).sq) t)⟩
theorem di_tup {tg e : Expr} {t : TDE} (hK : C.K = X.K) (he : PE X e (lift C Wx t)) : PI X tg e (liftI C Wx (dItT t)) := (pi_tup (pe_D he)).imD fun σ H Q q => by
  obtain ⟨R, ds, h, P, Z, e, p, k, z⟩ := q
  refine ⟨R, ds, h, _, Z, e, p, fun R' H' h' d v ⟨xs, hd, p'⟩ x e' r => ?_, z⟩
  subst hd
  obtain ⟨a, vs, rfl, q, t⟩ := r_tup r
  refine ⟨a, rfl, ⟨vs, q.sq⟩, k R' H' h' xs _ p' x e' ?_⟩
  rw [← hK]
  refine ⟨fun i R2 H2 m hi => ⟨vs, vs[i]'(by rw [← relDs_len t]; exact hi), (m.tup _ _ q).sq, by simp⟩, fun R2 H2 m => ⟨vs, (m.tup _ _ q).sq, by rw [relDs_len t]; exact Nat.le_refl _⟩, fun i R2 H2 v H3 d ds σ h m e2 hd y => ?_⟩
  obtain ⟨rfl, y⟩ := y
  obtain ⟨u, hu, ru⟩ := relDs_get t hd
  have := y vs (m.tup _ _ q).sq
  rw [hu] at this
  cases this
  exact ⟨Ex.refl _ _, e2, relD_mo m ru⟩
theorem di_str {tg e : Expr} {t : TDE} (he : PE X e (lift C Wx t)) : PI X tg e (liftI C Wx (dItS t)) := (pi_str (pe_D he)).imD fun σ H Q q => by
  obtain ⟨R, ds, h, P, Z, e, p, k, z⟩ := q
  refine ⟨R, ds, h, _, Z, e, p, fun R' H' h' d v ⟨s, hd, p'⟩ x e' r => ?_, z⟩
  subst hd
  refine ⟨s, r_str r, k R' H' h' _ _ p' x e' ?_⟩
  have w := walk_str (z := s)
  have hl : (s.cps.toList.map fun c => D.str ⟨#[c]⟩).length = s.cps.size := by simp
  refine ⟨fun i R2 H2 m hi => w.goes i H2 (by rw [← hl]; exact hi) trivial, fun R2 H2 m => by rw [hl]; exact w.stops H2 trivial, fun i R2 H2 v H3 d ds σ h m e2 hd y => ?_⟩
  have hi : i < s.cps.size := by rw [← hl]; exact (List.getElem?_eq_some_iff.mp hd).1
  obtain ⟨rfl, c, hc, rfl⟩ := w.yields i H2 v H3 hi trivial y
  have : D.str ⟨#[c]⟩ = d := by
    rw [List.getElem?_map] at hd
    have h2 : s.cps.toList[i]? = some c := by simpa using hc
    rw [h2] at hd
    cases hd; rfl
  subst this
  exact ⟨Ex.refl _ _, e2, m_str⟩
/-- range(n), range(a, b) -/
def rngD (lo : Int) (n : Nat) : List D := (List.range n).map fun (i : Nat) => .int (lo + (i : Int))
def dItR1 (t : TDE) : TDI := fun ds h P Z => dCons t dNil ds h (fun xs h' => ∃ j, xs = [.int j] ∧ -(2 ^ 62) ≤ j ∧ j < 2 ^ 62 ∧ P (rngD 0 j.toNat) h') Z
def dItR2 (t u : TDE) : TDI := fun ds h P Z => dCons t (dCons u dNil) ds h (fun xs h' => ∃ i j, xs = [.int i, .int j] ∧ (-(2 ^ 62) ≤ i ∧ i < 2 ^ 62 ∧ -(2 ^ 62) ≤ j ∧ j < 2 ^ 62) ∧ P (rngD i (j - i).toNat) h') Z
theorem src_rng {R : Rg} {H : Hp} {lo : Int} {n : Nat} : Src C R H (rngD lo n) (Itr lo n) := by
  have hl : (rngD lo n).length = n := by unfold rngD; simp
  refine ⟨fun i _ _ _ hi => by rw [hl] at hi; exact hi, fun _ _ _ => by rw [hl]; exact Nat.le_refl n, fun i R2 H2 v H3 d ds σ h m e2 hd y => ?_⟩
  obtain ⟨rfl, rfl⟩ := y
  have hi : i < n := by rw [← hl]; exact (List.getElem?_eq_some_iff.mp hd).1
  have : D.int (lo + (i : Int)) = d := by
    unfold rngD at hd
    rw [List.getElem?_map, List.getElem?_range hi] at hd
    cases hd; rfl
  subst this
  exact ⟨Ex.refl _ _, e2, m_int⟩
theorem di_r1 {tg a : Expr} {t : TDE} {p pos : Pos} (hg : Gl X "range") (hm : X.mg "range" = none) (ha : PE X a (lift C Wx t)) (hs : starEach [a] X.env = [(false, eval a X.env)]) : PI X tg (.Call (.Name "range" p) [a] [] pos) (liftI C Wx (dItR1 t)) :=
  (pi_range1 hg hm (da_cons ha da_nil hs) hs).imD fun σ H Q q => by
    obtain ⟨R, ds, h, P, Z, e, p, k, z⟩ := q
    refine ⟨R, ds, h, _, Z, e, p, fun R' H' h' d v ⟨j, hd, l1, l2, p'⟩ x e' r => ?_, z⟩
    subst hd
    obtain ⟨v1, vr, rfl, r1, r2⟩ := r_cons r
    cases r_nil r2
    cases r_int r1
    exact ⟨j, rfl, l1, l2, k R' H' h' _ _ p' x e' src_rng⟩
theorem di_r2 {tg a b : Expr} {t u : TDE} {p pos : Pos} (hg : Gl X "range") (hm : X.mg "range" = none) (ha : PE X a (lift C Wx t)) (hb : PE X b (lift C Wx u)) (hs : starEach [a, b] X.env = [(false, eval a X.env), (false, eval b X.env)]) (hs2 : starEach [b] X.env = [(false, eval b X.env)]) :
    PI X tg (.Call (.Name "range" p) [a, b] [] pos) (liftI C Wx (dItR2 t u)) :=
  (pi_range2 hg hm (da_cons ha (da_cons hb da_nil hs2) (by rw [hs, hs2])) hs hs2).imD fun σ H Q q => by
    obtain ⟨R, ds, h, P, Z, e, p, k, z⟩ := q
    refine ⟨R, ds, h, _, Z, e, p, fun R' H' h' d v ⟨i, j, hd, l, p'⟩ x e' r => ?_, z⟩
    subst hd
    obtain ⟨v1, vr, rfl, r1, r2⟩ := r_cons r
    obtain ⟨v2, vr, rfl, rb, r3⟩ := r_cons r2
    cases r_nil r3
    cases r_int r1
    cases r_int rb
    exact ⟨i, j, rfl, l, k R' H' h' _ _ p' x e' src_rng⟩
def forD (g : Tg) (tb : TDS) (P : DEnds) : List D → DSt → Hs → Prop
  | [], ds, h => P.nx ds h
  | x :: xs, ds, h => g.put x ds fun ds2 => tb ds2 h { P with nx := forD g tb P xs, ct := forD g tb P xs, bk := P.nx }
def dFor (ti : TDI) (g : Tg) (tb : TDS) : TDS := fun ds h P => ti ds h (fun xs h' => forD g tb P xs ds h') (fun x h' => P.ex x ds h')
theorem ds_for {tg iter : Expr} {body : List Stmt} {ti : TDI} {g : Tg} {tb : TDS} {pos : Pos} (hp : PassesOwn (model X.prog X.w) X.A X.env X.xe) (hc : X.calm = true) (hi : PI X tg iter (liftI C Wx ti)) (hg : PG X tg (liftG C g)) (hb : PSs X body (liftS C Wx tb))
    (hs : ∀ x, foldedSetIterable iter X.env x = pure x) : PS X (.For tg iter body [] pos) (liftS C Wx (dFor ti g tb)) := (ps_for hp hc hi hg hb hs).imD fun D σ H q => by
  obtain ⟨R, ds, h, P, e, p, k⟩ := q
  refine ⟨R, ds, h, _, _, e, p, fun R1 H1 h1 xs J p1 x1 e1 src => ?_, k.exE e⟩
  have m1 := x1.mo e.ok
  refine ⟨fun i m σ' H' => m = xs.length - i ∧ i ≤ xs.length ∧ ∃ R' ds' h', Env C R' ds' σ' H' h' ∧ Mo C.K R1 H1 R' H' ∧ forD g tb P (xs.drop i) ds' h', ⟨xs.length, by simp, Nat.zero_le _, R1, ds, h1, e1, Mo.refl _ _ _, by simpa using p1⟩, ?_⟩
  rintro i m σ2 H2 ⟨rfl, hle, R2, ds2, h2, e2, m2, p2⟩
  by_cases hlt : i < xs.length
  · right
    rw [List.drop_eq_getElem_cons hlt] at p2
    refine ⟨src.go i R2 H2 m2 hlt, fun σ' H' => ∃ R' ds' h', Env C R' ds' σ' H' h' ∧ Mo C.K R1 H1 R' H' ∧ forD g tb P (xs.drop (i + 1)) ds' h', fun σ' H' ⟨R', ds', h', e', mm, p'⟩ => ⟨xs.length - (i + 1), by omega, rfl, hlt, R', ds', h', e', mm, p'⟩, fun v H3 y => ?_⟩
    obtain ⟨x3, e3, r3⟩ := src.yld i R2 H2 v H3 xs[i] ds2 σ2 h2 m2 e2 (List.getElem?_eq_getElem hlt) y
    have m3 := m2.trans (x3.mo e2.ok)
    unfold forD at p2
    refine ⟨R2, ds2, h2, _, _, e3, r3, p2, fun ds4 σ4 e4 _ p4 => ⟨R2, ds4, h2, _, e4, p4, ⟨fun R' ds' σ' H' h' e' mm p' => ⟨R', ds', h', e', m3.trans mm, p'⟩, fun R' ds' σ' H' h' e' mm p' => k.nx R' ds' σ' H' h' e' (m1.trans (m3.trans mm)) p',
      fun R' ds' σ' H' h' e' mm p' => ⟨R', ds', h', e', m3.trans mm, p'⟩, k.rt, fun R' ds' σ' H' h' x cls dd e' mm r p' => k.ex R' ds' σ' H' h' x cls dd e' (m1.trans (m3.trans mm)) r p'⟩⟩⟩
  · left
    have ei : i = xs.length := by omega
    subst ei
    rw [List.drop_length] at p2
    exact ⟨src.stop R2 H2 m2, k.nx R2 ds2 σ2 H2 h2 e2 (m1.trans m2) p2⟩
end
end DL
set_option maxHeartbeats 4000000
namespace DL
open PySem PySem.Spec PyProof.Rows L2
/-- classes that are raised in except suites -/
def hotN : List Str := ["InvalidPaper", "InvalidRow", "InvalidEvent"]
def cold (K : PySem.W.Frag) : Value → Bool
  | .ref C => match K.lookup C with
    | some ⟨_, _, .cls cd, _⟩ => !hotN.contains cd.name
    | _ => true
  | _ => true
abbrev onlyB (K : PySem.W.Frag) (b : Bool) (W : WX) : WX := fun c d σ H => cold K c = b ∧ W c d σ H
/-- an exception in the air of X -/
def XE (X : Cx) (W : WX) (u : Value) (s' : Shared) : Prop := L2.XE X (onlyB X.K false W) u s' ∨ L2N.XE X (onlyB X.K true W) u s'
def Takes (X : Cx) (W : WX) : Prop := ∀ u s', XE X W u s' → X.xe u s'
theorem Takes.hot {X : Cx} {W : WX} (t : Takes X W) : L2.Takes X (onlyB X.K false W) := fun u s' x => t u s' (.inl x)
theorem Takes.cold {X : Cx} {W : WX} (t : Takes X W) : L2N.Takes X (onlyB X.K true W) := fun u s' x => t u s' (.inr x)
theorem Takes.imp {X : Cx} {W W' : WX} (t : Takes X W) (h : ∀ c d σ H, W' c d σ H → W c d σ H) : Takes X W' := fun u s' x => by
  rcases x with x | x
  · exact t.hot.imp (fun c d σ H q => ⟨q.1, h _ _ _ _ q.2⟩) u s' x
  · exact t.cold.imp (fun c d σ H q => ⟨q.1, h _ _ _ _ q.2⟩) u s' x
/-- behind a call that let an exception out -/
def CX (K : PySem.W.Frag) (P : Program) (w : World) : CXT := fun outer H s E u s' =>
  L2.CX P w outer H s (fun c d H' => DL.cold K c = false ∧ E c d H') u s' ∨ L2N.CX P w outer H s (fun c d H' => DL.cold K c = true ∧ E c d H') u s'
section
variable {X : Cx} {pins : List (Addr × Obj)} {σ : Sl} {H : Hp} {s s' : Shared} {W : WX} {E : XK}
theorem XE.of_call (I : Inv X pins σ H s) (hW : ∀ cls d H', E cls d H' → W cls d σ H') {u : Value} (c : CX X.K X.prog X.w X.stack H s E u s') : XE X W u s' := by
  rcases c with c | c
  · exact .inl (L2.XE.of_call I (fun cls d H' q => ⟨q.1, hW _ _ _ q.2⟩) c)
  · exact .inr (L2N.XE.of_call I (fun cls d H' q => ⟨q.1, hW _ _ _ q.2⟩) c)
theorem takes_of (hs : X.stack = X.env :: X.outer) (hf : X.env.frame = some X.env.locals) (hex : X.ex = []) {E₁ : Value → Shared → Prop}
    (hx : X.xe = fun e s' => wpAny (model X.prog X.w) X.A (leaving X.env e) (fun _ s'' => CX X.K X.prog X.w X.outer X.H_0 X.s_0 E e s'') E₁ s') : Takes X (fun cls d _ H => E cls d H) := fun u s' x => by
  rw [hx]
  rcases x with x | x
  · exact wpAny_mono (L2.XE.leave (E₁ := E₁) (E := fun c d H' => DL.cold X.K c = false ∧ E c d H') hs hf hex (fun _ _ _ _ q => q) x) (fun _ _ q => .inl q) fun _ _ q => q
  · exact wpAny_mono (L2N.XE.leave (E₁ := E₁) (E := fun c d H' => DL.cold X.K c = true ∧ E c d H') hs hf hex (fun _ _ _ _ q => q) x) (fun _ _ q => .inr q) fun _ _ q => q
/-- an expression that makes an exception: its record has its fields, no context -/
abbrev PMk (X : Cx) (e : Expr) (t : Sl → Hp → XK → Prop) : Prop := L2H.PMk5 X e t
theorem mkP_zc {X : Cx} {pins : List (Addr × Obj)} {σ : Sl} {Q : XK} {u : Value} {s' : Shared} (h : L2N.MkP X pins σ Q u s') : L2.MkP X pins σ Q u s' := by
  obtain ⟨a, oe, vs, sI, H', cls, d, e, J, k, hne, ha, hz, r⟩ := h
  exact ⟨a, oe, vs, sI, H', cls, d, e, J, k, hne, ha, hz.zc, r⟩
theorem mkP_mono {X : Cx} {pins : List (Addr × Obj)} {σ : Sl} {Q Q' : XK} {u : Value} {s' : Shared} (h : L2N.MkP X pins σ Q u s') (m : ∀ c d H', Q c d H' → Q' c d H') : L2N.MkP X pins σ Q' u s' := by
  obtain ⟨a, oe, vs, sI, H', cls, d, e, J, k, hne, ha, hz, r1, r2, r3, r4, r5, r6, q⟩ := h
  exact ⟨a, oe, vs, sI, H', cls, d, e, J, k, hne, ha, hz, r1, r2, r3, r4, r5, r6, m _ _ _ q⟩
theorem ps_raiseC {W : WX} {e : Expr} {t : Sl → Hp → XK → Prop} {pos : Pos} (C : Value) (hc : X.calm = true) (tk : Takes X W) (he : PMk X e t) :
    PS X (.Raise (some e) none pos) (fun _ σ H => t σ H fun cls d H' => cls = C ∧ W cls d σ H') := by
  have he2 : L2N.PMk X e (fun σ H Q' => t σ H (fun cls d H' => cls = C ∧ W cls d σ H') ∧ ∀ c d H', (c = C ∧ W c d σ H') → Q' c d H') := fun pins s σ H Q I q => thn (he pins s σ H _ I q.1) fun _ _ x => mkP_mono x.1 q.2
  cases hC : DL.cold X.K C with
  | true => exact (L2N.ps_raise hc tk.cold he2).imD fun D σ H q => ⟨q, fun c d H' q => ⟨by rw [q.1]; exact hC, q.2⟩⟩
  | false => exact (L2.ps_raise hc tk.hot fun pins s σ H Q I q => thn (he2 pins s σ H Q I q) fun _ _ x => mkP_zc x).imD fun D σ H q => ⟨q, fun c d H' q => ⟨by rw [q.1]; exact hC, q.2⟩⟩
end
end DL
set_option maxHeartbeats 4000000
namespace DL
open PySem PySem.Spec PyProof.Rows L2
abbrev Gd (gd : Bool) (A : Around) : Prop := gd = true → A.guards = some []
structure FnG (P : Program) (w : World) (K : Fg) (mg : Str → Option Value) (base : Heap) (gd : Bool) (k : Nat) (f : Addr) (fd : FuncData) (ps : List Str) (sp : Sp) : Prop where
  len : ∀ vs H Q E, sp vs H Q E → vs.length = ps.length
  run : ∀ (A : Around) (outer : List PySem.Env) (s : Shared) (H : Hp) (args : Args) (us : List Value) (vs : List V) (Q : VK) (E : XK), Room k A → Gd gd A → Env0 P w K mg base A outer s H → BindsTo s fd args (ps.zip us) →
    Vals vs us → sp vs H Q E → codeAny (model P w) A (.call (.ref f) args) (CR (CX K P w) outer P w H s Q E) s
section
variable {P : Program} {w : World} {K : Fg} {mg : Str → Option Value} {base : Heap} {gd : Bool}
theorem FnG.mono {j k : Nat} {f : Addr} {fd : FuncData} {ps : List Str} {sp : Sp} (F : FnG P w K mg base gd j f fd ps sp) (h : j ≤ k) : FnG P w K mg base gd k f fd ps sp :=
  ⟨F.len, fun A o s H a us vs Q E hr => F.run A o s H a us vs Q E (hr.mono h)⟩
theorem FnG.imp {k : Nat} {f : Addr} {fd : FuncData} {ps : List Str} {sp sp' : Sp} (F : FnG P w K mg base gd k f fd ps sp) (h : ∀ vs H Q E, sp' vs H Q E → sp vs H Q E) : FnG P w K mg base gd k f fd ps sp' :=
  ⟨fun vs H Q E q => F.len vs H Q E (h _ _ _ _ q), fun A o s H a us vs Q E hr hg e0 hb r q => F.run A o s H a us vs Q E hr hg e0 hb r (h _ _ _ _ q)⟩
/-- a def of the text, by its body -/
theorem fnG_of {k : Nat} {f : Addr} {name qual : Str} {params : Arguments} {body : List Stmt} {scope : Scope} {dV kV doc pm cdv ct oc : Value} {an od : Option Addr} {osl : Array (Option Value)} {N ps : List Str} {sp : Sp}
    (lk : K.lookup f = some ⟨oc, od, .func (PySem.W.fnOf name qual params body scope dV kV doc pm an cdv ct), osl⟩) (hcd : PySem.W.codeIn K cdv qual = true) (S : FnScope N ps scope) (len : ∀ vs H Q E, sp vs H Q E → vs.length = ps.length)
    (hbody : ∀ (A : Around) (outer : List PySem.Env) (s : Shared) (H : Hp) (vs : List V) (Q : VK) (E : XK), Room k (A.deeper (envOfC qual scope s.heap.objs.size f cdv)) → Gd gd A → sp vs H Q E →
      ∃ t, PSs (cxOf (CX K P w) P w K mg base N qual scope f cdv A outer s H E) body t ∧ t { nx := fun _ H' => Q .non H', rt := Q } (start N vs) H) :
    FnG P w K mg base gd (k + 1) f (PySem.W.fnOf name qual params body scope dV kV doc pm an cdv ct) ps sp := by
  refine ⟨len, fun A outer s H args us vs Q E hr hgd e0 hb rv hsp => ?_⟩
  have kin : K.In s.heap := e0.mod.kin.keeps fun b o q => (e0.bs b o q).1
  have nol : s.heap.NoLimit := e0.mod.nolimit.keeps fun b o q => (e0.bs b o q).1
  have kinds : ∀ y ∈ ps.zip us, scope.names.lookup y.1 = some .local ∨ (scope.names.lookup y.1 = some .cell ∧ ((cellsFrom (s.heap.objs.size + 1) scope.names []).lookup y.1).isSome = true) := by
    rintro ⟨n, v⟩ hy
    rcases S.par n (List.of_mem_zip hy).1 with z | z
    · exact Or.inl z
    · exact Or.inr ⟨z, PySem.W.cellsFrom_some _ _ _ (Or.inl z)⟩
  refine codeAny_call_function hr.depth (kin _ _ lk) rfl S.co S.gen rfl (PySem.W.codeRec_of kin hcd) (hb _ _ _ _ ?_)
  refine wpAny_newFunctionEnv_cells S.kind kinds fun env henv s1 x1 => ?_
  subst henv
  refine ⟨nol.keeps x1.toInCall.keep, codeAny_func ?_⟩
  obtain ⟨t, pt, qt⟩ := hbody A outer s H vs Q E (hr.deeper _) hgd hsp
  have inv := inv_start (CX := CX K P w) (P := P) (w := w) (K := K) (mg := mg) (base := base) (N := N) (qual := qual) (f := f) (cd := cdv) (A := A) (outer := outer) (H := H) (E := E) S hr.hd e0 (len _ _ _ _ hsp) rv x1
  refine wpAny_mono (pt.run [] s1 (start N vs) H _ inv qt) (fun fl s' z => ?_) fun _ _ z => z
  cases fl with
  | ret u => obtain ⟨v, σ', H', J, r, q⟩ := z; exact ⟨v, H', J.os, J.bare, J.base, J.hok, r, q⟩
  | next => obtain ⟨σ', H', J, q⟩ := z; exact ⟨.non, H', J.os, J.bare, J.base, J.hok, rfl, q⟩
  | brk => obtain ⟨_, _, _, q⟩ := z; exact q.elim
  | cont => obtain ⟨_, _, _, q⟩ := z; exact q.elim
end
section
variable {X : Cx} {gd : Bool} {k : Nat} {f : Addr} {fd : FuncData} {ps : List Str} {sp : Sp} {Wx : WX}
/-- the wish of exceptions at these slots -/
def atS (Wx : WX) (σ : Sl) : XK := fun cls d H => Wx cls d σ H
theorem run_fnG {pins : List (Addr × Obj)} {σ : Sl} {H : Hp} {s : Shared} {Q : VK} {args : Args} {us : List Value} {vs : List V} (F : FnG X.prog X.w X.K X.mg X.base gd k f fd ps sp) (hr : Room k X.A) (hg : Gd gd X.A) (tk : Takes X Wx)
    (I : Inv X pins σ H s) (hb : BindsTo s fd args (ps.zip us)) (r : Vals vs us) (q : sp vs H Q (atS Wx σ)) : codeAny (model X.prog X.w) X.A (.call (.ref f) args) (fun res s' => match res with
      | .ok (.ret u) => EP X pins σ Q u s'
      | .ok _ => False
      | .error e => X.xe e s') s := by
  refine codeAny_mono (F.run X.A X.stack s H args us vs Q (atS Wx σ) hr hg I.env0 hb r q) fun res s' z => ?_
  cases res with
  | error e => exact tk e s' (XE.of_call I (fun _ _ _ h => h) z)
  | ok fl =>
    cases fl with
    | ret u => exact I.after z
    | next => exact z.elim
    | brk => exact z.elim
    | cont => exact z.elim
def tCallG (sp : Sp) (dvs : List V) (Wx : WX) (t : TA) : TE := fun σ H Q => t σ H fun vs H1 => sp (vs ++ dvs) H1 Q (atS Wx σ)
theorem pe_callG {x : Str} {p pos : Pos} {e : Expr} {es : List Expr} {t : TA} {dvs : List V} {dl : List Value} (F : FnG X.prog X.w X.K X.mg X.base gd k f fd ps sp) (hr : Room k X.A) (hgd : Gd gd X.A) (tk : Takes X Wx) (hg : Gl X x) (hm : X.mg x = some (.ref f)) (hk : PySem.W.keepIn X.K (.ref f) = true)
    (hb : Binds X.K fd ps dl) (hd : Vals dvs dl) (ha : PA X (e :: es) t) (hdb : (x == ("__debug__" : Str)) = false) (he : starEach (e :: es) X.env = (false, eval e X.env) :: starEach es X.env) (hpl : (backTo pos (starEach es X.env)).any (·.1) = false) :
    PE X (.Call (.Name x p) (e :: es) [] pos) (tCallG sp dvs Wx t) := by
  refine ⟨fun pins s σ H Q I q => ?_⟩
  refine wpAny_Call_Name_kw (ld_glob I hg hm ?_ hdb)
  refine PySem.W.callWith_K (h₀ := X.base) I.ok.mod.kin hk (thn (ha.run pos pins s σ H _ I q) fun us s1 ⟨vs, H1, I1, r, q1⟩ => ⟨I1.kIn, ?_⟩) he hpl
  have r2 := r.append hd
  have hl : (us ++ dl).length = ps.length := by rw [← r2.length]; exact F.len _ _ _ _ q1
  refine wpAny_call (codeAny_mono (run_fnG F hr hgd tk I1 (hb s1 us I1.kIn hl) r2 q1) fun res s' z => ?_)
  cases res with
  | error e => exact z
  | ok fl =>
    cases fl with
    | ret u => exact z
    | next => exact z.elim
    | brk => exact z.elim
    | cont => exact z.elim
end
abbrev FnD := List D → Hs → (D → Hs → Prop) → XD → Prop
def liftF (K : Fg) (Cl : Cm) (n : Nat) (f : FnD) : Sp := fun vs H Q E => ∃ R xs h P Z, HOk' K Cl R H h ∧ RelDs K R H xs vs ∧ xs.length = n ∧ f xs h P Z ∧
  (∀ R' H' h' d v, P d h' → Ex R H R' H' → HOk' K Cl R' H' h' → RelD K R' H' d v → Q v H') ∧
  (∀ R' H' h' x cls dd, Z x h' → Ex R H R' H' → HOk' K Cl R' H' h' → RelX ⟨K, Cl, R, H⟩ R' H' x cls dd → E cls dd H')
section
variable {X : Cx} {C : Cn} {Wx : WX}
def dCall (n : Nat) (f : FnD) (t : TDA) : TDE := fun ds h P Z => t ds h (fun xs h1 => xs.length = n ∧ f xs h1 (fun d h2 => P (.d d) h2) Z) Z
theorem de_call {x : Str} {p pos : Pos} {e : Expr} {es : List Expr} {t : TDA} {f : FnD} {gd : Bool} {k : Nat} {fa : Addr} {fd : FuncData} {ps : List Str} (hK : C.K = X.K) (F : FnG X.prog X.w X.K X.mg X.base gd k fa fd ps (liftF C.K C.Cl ps.length f)) (hr : Room k X.A) (hgd : Gd gd X.A) (tk : Takes X Wx) (hg : Gl X x) (hm : X.mg x = some (.ref fa)) (hk : PySem.W.keepIn X.K (.ref fa) = true)
    (hb : Binds X.K fd ps []) (ha : PA X (e :: es) (liftA C Wx t)) (hdb : (x == ("__debug__" : Str)) = false) (he : starEach (e :: es) X.env = (false, eval e X.env) :: starEach es X.env) (hpl : (backTo pos (starEach es X.env)).any (·.1) = false) :
    PE X (.Call (.Name x p) (e :: es) [] pos) (lift C Wx (dCall ps.length f t)) :=
  (pe_callG F hr hgd tk hg hm hk hb .nil ha hdb he hpl).imD fun σ H Q q => by
    obtain ⟨R, ds, h, P, Z, e, p, k, z⟩ := q
    refine ⟨R, ds, h, _, Z, e, p, fun R1 H1 h1 xs vs ⟨hl, p1⟩ x1 e1 r1 => ?_, z⟩
    refine ⟨R1, xs, h1, _, Z, e1.ok, by rw [List.append_nil]; exact r1, hl, p1, fun R2 H2 h2 d v p2 x2 ok2 r2 => ?_, fun R2 H2 h2 y cls dd p2 x2 ok2 r2 => ?_⟩
    · exact k R2 H2 h2 (.d d) v p2 (x1.trans x2) (e1.step x2 ok2) r2
    · exact z R2 H2 h2 y cls dd p2 (x1.trans x2) (e1.step x2 ok2) r2
end
/-- a body's start -/
def startD (n : Nat) (xs : List D) : DSt := xs.map (fun d => some (.d d)) ++ List.replicate (n - xs.length) none
theorem relDs_slot {K : Fg} {R : Rg} {H : Hp} {xs : List D} {vs : List V} (r : RelDs K R H xs vs) {i : Nat} {w : W} {n : Nat} (e : (startD n xs)[i]? = some (some w)) : ∃ d v, w = .d d ∧ vs[i]? = some v ∧ RelD K R H d v := by
  unfold startD at e
  by_cases hl : i < xs.length
  · rw [List.getElem?_append_left (by simpa using hl), List.getElem?_map, List.getElem?_eq_getElem hl] at e
    cases e
    obtain ⟨v, hv, rv⟩ := relDs_get r (List.getElem?_eq_getElem hl)
    exact ⟨_, v, rfl, hv, rv⟩
  · rw [List.getElem?_append_right (by simpa using hl), List.getElem?_replicate] at e
    split at e
    · cases e
    · cases e
theorem env_start {K : Fg} {Cl : Cm} {R : Rg} {H : Hp} {h : Hs} {xs : List D} {vs : List V} {N : List Str} (ok : HOk' K Cl R H h) (r : RelDs K R H xs vs) : Env ⟨K, Cl, R, H⟩ R (startD N.length xs) (start N vs) H h where
  ok := ok
  ex := Ex.refl _ _
  len := by unfold startD L2.start; simp [relDs_len r]
  slot := fun i w q => by
    obtain ⟨d, v, rfl, hv, rv⟩ := relDs_slot r q
    refine ⟨v, ?_, rv⟩
    have hl : i < vs.length := (List.getElem?_eq_some_iff.mp hv).1
    unfold L2.start
    rw [List.getElem?_append_left (by simpa using hl), List.getElem?_map, hv]
    rfl
  nnew := fun i xs q => by obtain ⟨d, v, z, _⟩ := relDs_slot r q; cases z
  own := fun i j xs ys a q => by obtain ⟨d, v, z, _⟩ := relDs_slot r q; cases z
  own0 := fun i xs a q => by obtain ⟨d, v, z, _⟩ := relDs_slot r q; cases z
section
variable {P : Program} {w : World} {K : Fg} {mg : Str → Option Value} {base : Heap} {gd : Bool} {Cl : Cm}
/-- a def keeps its promise over trees, by its body's reading -/
theorem fnG_body {x qual : Str} {st : Stmt} {f : Addr} {fd : FuncData} {N ps : List Str} {k : Nat} {sp : FnD} {t : TDS} (F : Fun K x qual st f fd) (S : FnScope N ps (defScope st))
    (hpt : ∀ (C : Cn) (cdv : Value) (A : Around) (outer : List PySem.Env) (s : Shared) (H : Hp) (E : XK), (∃ oc od osl fd0, K.lookup f = some ⟨oc, od, .func fd0, osl⟩ ∧ fd0.code = cdv ∧ PySem.W.codeIn K cdv qual = true) → C.K = K → C.Cl = Cl → Room k (A.deeper (envOfC qual (defScope st) s.heap.objs.size f cdv)) → Gd gd A →
      PSs (cxOf (CX K P w) P w K mg base N qual (defScope st) f cdv A outer s H E) (defBody st) (liftS C (fun cls d _ H' => E cls d H') t))
    (hsp : ∀ xs h Q Z, xs.length = ps.length → sp xs h Q Z → t (startD N.length xs) h ⟨fun _ h' => Q .non h', Q, fun y _ h' => Z y h', fun _ _ => False, fun _ _ => False⟩) :
    FnG P w K mg base gd (k + 1) f fd ps (liftF K Cl ps.length sp) := by
  obtain ⟨oc, od, kV, doc, pm, an, cdv, ct, osl, rfl, lk, hcd⟩ := F.ex
  refine fnG_of lk hcd S (fun vs H Q E z => ?_) fun A outer s H vs Q E hr hg z => ?_
  · obtain ⟨R, xs, h, Pd, Z, ok, r, hl, _⟩ := z
    rw [← relDs_len r]; exact hl
  obtain ⟨R, xs, h, Pd, Z, ok, r, hl, q, k1, k2⟩ := z
  refine ⟨_, hpt ⟨K, Cl, R, H⟩ cdv A outer s H E ⟨_, _, _, _, lk, rfl, hcd⟩ rfl rfl hr hg, R, _, h, _, env_start ok r, hsp xs h _ _ hl q, ?_⟩
  exact ⟨fun R' ds σ H' h' e _ p => k1 R' H' h' .non .non p e.ex e.ok m_non, fun _ _ _ _ _ _ _ p => p.elim, fun _ _ _ _ _ _ _ p => p.elim, fun R' H' h' d v ok' x' r' p => k1 R' H' h' d v p x' ok' r',
    fun R' ds σ H' h' y cls dd e _ r' p => k2 R' H' h' y cls dd p e.ex e.ok r'⟩
end
end DL
set_option maxHeartbeats 4000000
namespace DL
open PySem PySem.Spec PyProof.Rows L2
section
variable {X : Cx} {C : Cn} {Wx : WX}
/-- x.append(e), x an own list -/
def dApp (i : Nat) (t : TDE) : TDS := fun ds h P => ∃ xs, ds[i]? = some (some (.own xs)) ∧ xs.length < sizeLine ∧ dD t ds h (fun d h' => P.nx (ds.set i (some (.own (xs ++ [d])))) h') (fun x h' => P.ex x ds h')
theorem relDs_one {K : Fg} {R : Rg} {H : Hp} {d : D} {v : V} (r : RelD K R H d v) : RelDs K R H [d] [v] := m_cons r m_nil
theorem ds_app {i : Nat} {x : Str} {e : Expr} {t : TDE} {p1 apos cpos pos : Pos} (hK : C.K = X.K) (hN : X.N[i]? = some x) (hv : Vis X.env.scope x) (hd : (x == ("__debug__" : Str)) = false) (hcd : (x == ("__classdict__" : Str)) = false) (he : PE X e (lift C Wx t))
    (hs : starEach [e] X.env = (false, eval e X.env) :: starEach [] X.env) (hline : (apos.endLine == cpos.line) = true) (hpl : (((backTo cpos (starEach [e] X.env)).all (fun x => !x.1) && (backToKw cpos (keywordEach [] X.env)).all fun x => x.1.isSome) && decide (([e].length + ([] : List Keyword).length + if ([] : List Keyword).isEmpty = true then 0 else 1) < 30)) = true) (hb : attributeBase (.Name x p1) "append" X.env (eval (.Name x p1) X.env) = eval (.Name x p1) X.env)
    (hsw : swapsWith (.Call (.Attribute (.Name x p1) "append" apos) [e] [] cpos) none pos.line X.env = pure false) :
    PS X (.Expr (.Call (.Attribute (.Name x p1) "append" apos) [e] [] cpos) pos) (liftS C Wx (dApp i t)) :=
  (ps_expr (pe_bm PySem.F.plainAttrs_list PySem.F.slot_list_append PySem.F.type_list_append mt_append (pe_var hN hv hd hcd) (pa_cons (pe_D he) pa_nil hs) hb hpl hline hs) hsw).imD fun D σ H q => by
    obtain ⟨R, ds, h, P, e, ⟨xs, hi, hl, p⟩, k⟩ := q
    obtain ⟨v, hv, a, vs, rfl, q, nf, o, tt⟩ := e.slot i _ hi
    refine ⟨.ref a, hv, .inl ⟨rfl, vs, .inl (.inl q)⟩, R, ds, h, _, _, e, p, fun R' H' h' d u p' x e' r => ?_, k.exE e⟩
    have rs := e'.relW hi hv
    obtain ⟨a', vs', ea, q', nf', o', tt'⟩ := rs
    cases ea
    obtain ⟨e2, m2⟩ := e'.wr hi hv (relDs_append tt' (relDs_one r))
    exact ⟨a, vs', u, rfl, rfl, q', by rw [← relDs_len tt']; exact hl, k.nx R' _ σ _ h' e2 ((x.mo e.ok).trans m2) p'⟩
/-- x[j] = e, x an own list -/
def dSix (i : Nat) (tj t : TDE) : TDS := fun ds h P => dD t ds h (fun d h1 => ∃ xs, ds[i]? = some (some (.own xs)) ∧ tj ds h1 (fun w h2 => ∃ k j, w = .d (.int k) ∧ ixN xs.length k = some j ∧ P.nx (ds.set i (some (.own (xs.set j d)))) h2) (fun x h' => P.ex x ds h')) (fun x h' => P.ex x ds h')
theorem ds_six {i : Nat} {x : Str} {e j : Expr} {t tj : TDE} {p1 tpos pos : Pos} (hN : X.N[i]? = some x) (hv : Vis X.env.scope x) (hd : (x == ("__debug__" : Str)) = false) (hcd : (x == ("__classdict__" : Str)) = false) (he : PE X e (lift C Wx t)) (hj : PE X j (lift C Wx tj))
    (ha : ∀ v, assign (.Subscript (.Name x p1) j tpos) X.env v = (do
      let ov ← holding [v] (eval (.Name x p1) X.env)
      let iv ← holding [v, ov] (eval j X.env)
      standAt tpos
      holding [v, ov, iv] (setItem ov iv v)
      release [v, ov, iv] []))
    (hs : swapsWithSole [.Subscript (.Name x p1) j tpos] e pos.line X.env = pure false) (hw : swappedStores [.Subscript (.Name x p1) j tpos] e X.env = pure none)
    (h1 : (assignEach [.Subscript (.Name x p1) j tpos] X.env).map (·.2) = [assign (.Subscript (.Name x p1) j tpos) X.env]) :
    PS X (.Assign [.Subscript (.Name x p1) j tpos] e pos) (liftS C Wx (dSix i tj t)) :=
  (ps_asg (pe_D he) (pg_sub (pe_var hN hv hd hcd) hj set_list ha) hs hw h1).imD fun D σ H q => by
    obtain ⟨R, ds, h, P, e, p, k⟩ := q
    refine ⟨R, ds, h, _, _, e, p, fun R1 H1 h1 d u p1 x1 e1 r1 => ?_, k.exE e⟩
    obtain ⟨xs, hi, p1⟩ := p1
    obtain ⟨v, hv, a, vs, rfl, q, nf, o, tt⟩ := e1.slot i _ hi
    refine ⟨.ref a, hv, R1, ds, h1, _, _, e1, p1, fun R2 H2 h2 w2 v2 ⟨kk, jj, hw, hj, p2⟩ x2 e2 r2 => ?_, (k.later (x1.mo e.ok)).exE e1⟩
    subst hw
    cases rw_int r2
    obtain ⟨a', vs', ea, q', nf', o', tt'⟩ := e2.relW hi hv
    cases ea
    obtain ⟨e3, m3⟩ := e2.wr hi hv (relDs_set jj tt' (relD_ex e1.ok x2 r1))
    exact ⟨a, vs', kk, jj, rfl, rfl, q', by rw [← relDs_len tt']; exact hj, k.nx R2 _ σ _ h2 e3 (((x1.trans x2).mo e.ok).trans m3) p2⟩
/-- a shared list is made -/
def dNewL (t : TDA) : TDE := fun ds h P Z => t ds h (fun xs h1 => xs.length ≤ sizeLine ∧ P (.d (.ref h1.length)) (h1 ++ [.lst xs])) Z
theorem de_newL {es : List Expr} {t : TDA} {pos : Pos} (ha : PA X es (liftA C Wx t)) : PE X (.List es pos) (lift C Wx (dNewL t)) :=
  (pe_lst ha).imD fun σ H Q q => by
    obtain ⟨R, ds, h, P, Z, e, p, k, z⟩ := q
    refine ⟨R, ds, h, _, Z, e, p, fun R1 H1 h1 w1 v1 ⟨l, p1⟩ x1 e1 r1 => ⟨by rw [← relDs_len r1]; exact l, fun pp np => ?_⟩, z⟩
    obtain ⟨R2, e2, x2, ha2, hn2⟩ := e1.ha (o := .lst w1) (u := .lst v1) np ⟨v1, rfl, r1⟩
    refine k R2 _ _ _ _ p1 (x1.trans x2) e2 ?_
    unfold RelW RelD
    exact ⟨by rw [hn2]; exact Nat.lt_succ_self _, by rw [ha2]⟩
/-- o[j] = e, o a shared list -/
def dHset (to tj t : TDE) : TDS := fun ds h P => dD t ds h (fun d h1 => to ds h1 (fun o h2 => tj ds h2 (fun w h3 => ∃ n xs k j, o = .d (.ref n) ∧ w = .d (.int k) ∧ h3[n]? = some (.lst xs) ∧ ixN xs.length k = some j ∧ P.nx ds (h3.set n (.lst (xs.set j d)))) (fun x h' => P.ex x ds h')) (fun x h' => P.ex x ds h')) (fun x h' => P.ex x ds h')
theorem ds_hset {e o j : Expr} {t to tj : TDE} {tpos pos : Pos} (he : PE X e (lift C Wx t)) (ho : PE X o (lift C Wx to)) (hj : PE X j (lift C Wx tj))
    (ha : ∀ v, assign (.Subscript o j tpos) X.env v = (do
      let ov ← holding [v] (eval o X.env)
      let iv ← holding [v, ov] (eval j X.env)
      standAt tpos
      holding [v, ov, iv] (setItem ov iv v)
      release [v, ov, iv] []))
    (hs : swapsWithSole [.Subscript o j tpos] e pos.line X.env = pure false) (hw : swappedStores [.Subscript o j tpos] e X.env = pure none) (h1 : (assignEach [.Subscript o j tpos] X.env).map (·.2) = [assign (.Subscript o j tpos) X.env]) :
    PS X (.Assign [.Subscript o j tpos] e pos) (liftS C Wx (dHset to tj t)) :=
  (ps_asg (pe_D he) (pg_sub ho hj set_list ha) hs hw h1).imD fun D σ H q => by
    obtain ⟨R, ds, h, P, e, p, k⟩ := q
    refine ⟨R, ds, h, _, _, e, p, fun R1 H1 h1 d u p1 x1 e1 r1 => ?_, k.exE e⟩
    refine ⟨R1, ds, h1, _, _, e1, p1, fun R2 H2 h2 w2 v2 p2 x2 e2 r2 => ?_, (k.later (x1.mo e.ok)).exE e1⟩
    have x12 := x1.trans x2
    refine ⟨R2, ds, h2, _, _, e2, p2, fun R3 H3 h3 w3 v3 ⟨n, xs, kk, jj, ho, hw, hn, hj, p3⟩ x3 e3 r3 => ?_, (k.later (x12.mo e.ok)).exE e2⟩
    subst ho hw
    have x13 := x12.trans x3
    have rr : RelD C.K R3 H3 (.ref n) v2 := relW_ex e2.ok x3 r2
    obtain ⟨_, rfl⟩ := r_ref rr
    cases rw_int r3
    obtain ⟨uo, hu, vs, rfl, tt⟩ := e3.ok.obj n _ hn
    have rd : RelD C.K R3 H3 d u := relD_ex e1.ok (x2.trans x3) r1
    obtain ⟨e4, m4⟩ := e3.hw (o2 := .lst (xs.set jj d)) (u2 := .lst (vs.set jj u)) hn ⟨_, rfl, relDs_set jj tt rd⟩
    exact ⟨_, vs, kk, jj, rfl, rfl, hu, by rw [← relDs_len tt]; exact hj, k.nx R3 ds σ _ _ e4 ((x13.mo e.ok).trans m4) p3⟩
/-- y = x.pop(e), x an own list -/
def dPop (i j : Nat) (t : TDE) : TDS := fun ds h P => ∃ xs, ds[i]? = some (some (.own xs)) ∧ dD t ds h (fun w h1 => ∃ k q d, w = .int k ∧ -(2 ^ 63) ≤ k ∧ k < 2 ^ 63 ∧ seqIndex? k xs.length = some q ∧ xs[q]? = some d ∧
  P.nx ((ds.set i (some (.own (xs.eraseIdx q)))).set j (some (.d d))) h1) (fun x h' => P.ex x ds h')
theorem relDs_erase {K : Fg} {R : Rg} {H : Hp} : ∀ {ds : List D} {vs : List V} (i : Nat), RelDs K R H ds vs → RelDs K R H (ds.eraseIdx i) (vs.eraseIdx i)
  | [], vs, i, r => by cases r_nil r; exact m_nil
  | d :: ds, vs, i, r => by
    obtain ⟨v, q, rfl, r1, r2⟩ := r_cons r
    cases i with
    | zero => exact r2
    | succ i => exact m_cons r1 (relDs_erase i r2)
theorem ds_pop {i j : Nat} {x y : Str} {e : Expr} {t : TDE} {p1 apos cpos pos pos' : Pos} (hN : X.N[i]? = some x) (hv : Vis X.env.scope x) (hd : (x == ("__debug__" : Str)) = false) (hcd : (x == ("__classdict__" : Str)) = false)
    (hnd : X.N.Nodup) (hj : X.N[j]? = some y) (hy : Loc X.env.scope y) (hf : X.fn y = true ∨ X.env.scope.names.lookup y = some .local) (he : PE X e (lift C Wx t))
    (hs : starEach [e] X.env = (false, eval e X.env) :: starEach [] X.env) (hline : (apos.endLine == cpos.line) = true) (hpl : (((backTo cpos (starEach [e] X.env)).all (fun x => !x.1) && (backToKw cpos (keywordEach [] X.env)).all fun x => x.1.isSome) && decide (([e].length + ([] : List Keyword).length + if ([] : List Keyword).isEmpty = true then 0 else 1) < 30)) = true) (hb : attributeBase (.Name x p1) "pop" X.env (eval (.Name x p1) X.env) = eval (.Name x p1) X.env)
    (hsw : swapsWith (.Call (.Attribute (.Name x p1) "pop" apos) [e] [] cpos) (some (.Name y pos')) pos.line X.env = pure false) :
    PS X (.Assign [.Name y pos'] (.Call (.Attribute (.Name x p1) "pop" apos) [e] [] cpos) pos) (liftS C Wx (dPop i j t)) :=
  (ps_set (i := j) hnd hj hy (pe_bm PySem.F.plainAttrs_list PySem.F.slot_list_pop PySem.F.type_list_pop mt_popAt (pe_var hN hv hd hcd) (pa_cons (pe_D he) pa_nil hs) hb hpl hline hs) hsw hf).imD fun D σ H q => by
    obtain ⟨R, ds, h, P, e, ⟨xs, hi, p⟩, k⟩ := q
    obtain ⟨v, hv, a, vs, rfl, q, nf, o, tt⟩ := e.slot i _ hi
    refine ⟨.ref a, hv, .inl ⟨rfl, vs, .inl (.inl q)⟩, R, ds, h, _, _, e, p, fun R' H' h' w u ⟨kk, q, d, hw, l1, l2, sq, hx, p'⟩ x e' r => ?_, k.exE e⟩
    subst hw
    cases r_int r
    have rs := e'.relW hi hv
    obtain ⟨a', vs', ea, q', nf', o', tt'⟩ := rs
    cases ea
    obtain ⟨u2, hu2, ru2⟩ := relDs_get tt' hx
    obtain ⟨e2, m2⟩ := e'.wr hi hv (relDs_erase q tt')
    exact ⟨a, vs', kk, q, u2, rfl, rfl, q', l1, l2, by rw [← relDs_len tt']; exact sq, hu2, k.nx R' _ _ _ h' (e2.set j (relD_mo m2 ru2)) ((x.mo e.ok).trans m2) p'⟩
/-- a list that no slot and no tree holds is written -/
theorem Env.wrP {R : Rg} {ds : DSt} {σ : Sl} {H : Hp} {h : Hs} {vs us : List V} {a : Addr} (e : Env C R ds σ H h) (q : H a = some (.lst vs)) (nf : ¬ R.fz a) (o : Out R a) (h0 : C.H₀ a = none)
    (hn : ∀ (j : Nat) ys, ds[j]? = some (some (.own ys)) → σ[j]? ≠ some (some (.ref a))) : Env C R ds σ (upd H a (.lst us)) h ∧ Mo C.K R H R (upd H a (.lst us)) := by
  have m : Mo C.K R H R (upd H a (.lst us)) := Mo.wr q nf
  refine ⟨⟨⟨e.ok.len, fun j o' hj => ?_, e.ok.inj, e.ok.nfz, fun b z => ?_, tabs_wr q (fun _ => HO.noConfusion) (fun _ => HO.noConfusion) e.ok.tab⟩, ⟨e.ex.le, e.ex.at_, e.ex.fz, e.ex.nat, e.ex.nfz, fun b u q1 o1 n1 => ?_, fun b q1 => ?_, fun b o' u' q1 => by rw [upd_ne (fun y => by subst y; rw [h0] at q1; cases q1)]; exact e.ex.lk b o' u' q1⟩, e.len, fun j w q1 => ?_, e.nnew, e.own, e.own0⟩, m⟩
  · obtain ⟨u, e2, r2⟩ := e.ok.obj j o' hj
    have hjn : j < R.n := by rw [← e.ok.len]; exact (List.getElem?_eq_some_iff.mp hj).1
    exact ⟨u, by rw [upd_ne (o j hjn)]; exact e2, relO_mo m r2⟩
  · obtain ⟨ws, e2⟩ := e.ok.fzd b z
    exact ⟨ws, by rw [upd_ne (show b ≠ a from fun y => nf (by rw [← y]; exact z))]; exact e2⟩
  · rw [upd_ne (fun y => by subst y; rw [h0] at q1; cases q1)]
    exact e.ex.frm b u q1 o1 n1
  · by_cases y : b = a
    · subst y; exact h0
    · rw [upd_ne y] at q1; exact e.ex.dom b q1
  · obtain ⟨v2, s2, r2⟩ := e.slot j w q1
    refine ⟨v2, s2, ?_⟩
    cases w with
    | d y => exact relD_mo m r2
    | new zs => exact absurd q1 (e.nnew j zs)
    | fn _ => exact r2
    | own zs =>
      obtain ⟨b, ws, ev2, q2, nf2, o2, t2⟩ := r2
      subst ev2
      exact ⟨b, ws, rfl, by rw [upd_ne (fun y => hn j zs q1 (by rw [s2, y]))]; exact q2, nf2, o2, relDs_mo m t2⟩
/-- slots forgotten -/
def wipeD (ds : DSt) : List Nat → DSt
  | [] => ds
  | v :: vs => (wipeD ds vs).set v none
theorem wipeD_len (ds : DSt) : ∀ vs : List Nat, (wipeD ds vs).length = ds.length
  | [] => rfl
  | v :: vs => by unfold wipeD; rw [List.length_set, wipeD_len ds vs]
theorem wipeD_some {ds : DSt} {i : Nat} {w : W} : ∀ {vs : List Nat}, (wipeD ds vs)[i]? = some (some w) → ds[i]? = some (some w) ∧ i ∉ vs
  | [], e => ⟨e, by simp⟩
  | v :: vs, e => by
    unfold wipeD at e
    by_cases hi : v = i
    · subst hi
      by_cases hv : v < (wipeD ds vs).length
      · rw [List.getElem?_set_self hv] at e; cases e
      · rw [List.getElem?_eq_none (by simpa using hv)] at e; cases e
    · rw [List.getElem?_set_ne hi] at e
      obtain ⟨h1, h2⟩ := wipeD_some e
      exact ⟨h1, by simp only [List.mem_cons, not_or]; exact ⟨fun z => hi z.symm, h2⟩⟩
theorem wipe_keep {σ : Sl} {i : Nat} : ∀ {vs : List Nat}, i ∉ vs → (wipe σ vs)[i]? = σ[i]?
  | [], _ => rfl
  | v :: vs, h => by
    unfold wipe
    rw [List.getElem?_set_ne (fun z => h (by simp [z]))]
    exact wipe_keep fun z => h (List.mem_cons_of_mem _ z)
theorem Env.wiped {R : Rg} {ds : DSt} {σ : Sl} {H : Hp} {h : Hs} (e : Env C R ds σ H h) (vs : List Nat) : Env C R (wipeD ds vs) (wipe σ vs) H h where
  ok := e.ok
  ex := e.ex
  len := by rw [wipeD_len, wipe_length]; exact e.len
  slot := fun i w q => by
    obtain ⟨q1, q2⟩ := wipeD_some q
    rw [wipe_keep q2]
    exact e.slot i w q1
  nnew := fun i xs q => e.nnew i xs (wipeD_some q).1
  own := fun i j xs ys a q1 s1 q2 s2 => by
    obtain ⟨a1, a2⟩ := wipeD_some q1
    obtain ⟨b1, b2⟩ := wipeD_some q2
    rw [wipe_keep a2] at s1
    rw [wipe_keep b2] at s2
    exact e.own i j xs ys a a1 s1 b1 s2
  own0 := fun i xs a q1 s1 => by
    obtain ⟨a1, a2⟩ := wipeD_some q1
    rw [wipe_keep a2] at s1
    exact e.own0 i xs a a1 s1
theorem wipe_none {σ : Sl} {i : Nat} : ∀ {vs : List Nat}, i ∈ vs → i < σ.length → (wipe σ vs)[i]? = some none
  | [], h, _ => by simp at h
  | v :: vs, h, hl => by
    unfold wipe
    by_cases hi : v = i
    · subst hi; rw [List.getElem?_set_self (by rw [wipe_length]; exact hl)]
    · rw [List.getElem?_set_ne hi]
      exact wipe_none (by rcases List.mem_cons.mp h with z | z; exact absurd z.symm hi; exact z) hl
theorem wipe_kept {σ σ' : Sl} {vs l : List Nat} (k : Kept l (wipe σ vs) σ') (hl : ∀ i ∈ l, i ∈ vs) : wipe σ' vs = wipe σ vs := by
  apply List.ext_getElem?
  intro i
  have len : σ'.length = σ.length := by rw [k.1, wipe_length]
  by_cases hi : i ∈ vs
  · by_cases hb : i < σ.length
    · rw [wipe_none hi (by rw [len]; exact hb), wipe_none hi hb]
    · rw [List.getElem?_eq_none (by rw [wipe_length]; omega), List.getElem?_eq_none (by rw [wipe_length]; omega)]
  · rw [wipe_keep hi, k.2 i (fun z => hi (hl i z)), wipe_keep hi]
def noX : XD := fun _ _ => False
def noW : WX := fun _ _ _ _ => False
/-- the items in turn; what is kept -/
def lcD (ds : DSt) (vs : List Nat) (g : Tg) (tt : TDT) (te : TDE) (P : List D → Hs → Prop) : List D → List D → Hs → Prop
  | [], acc, h => P acc h
  | x :: xs, acc, h => g.put x (wipeD ds vs) fun ds2 => tt ds2 h (fun b h2 => if b = true then dD te ds2 h2 (fun y h3 => acc.length < sizeLine ∧ lcD ds vs g tt te P xs (acc ++ [y]) h3) noX else lcD ds vs g tt te P xs acc h2) noX
def dLc (ti : TDI) (g : Tg) (tt : TDT) (te : TDE) (vs : List Nat) : TDE := fun ds h P Z => ti ds h (fun xs h1 => lcD ds vs g tt te (fun acc h2 => P (.new acc) h2) xs [] h1) Z
def dYes : TDT := fun _ h P _ => P true h
theorem dts_nil {X' : Cx} : PTs X' [] (liftT C noW dYes) := ⟨fun pins s σ H Q I q => pts_nil.run pins s σ H Q I (by
  obtain ⟨R, ds, h, P, Z, e, p, k, z⟩ := q
  exact k R H h true p (Ex.refl _ _) e)⟩
theorem lift_lc {ti : TDI} {g : Tg} {tt : TDT} {te : TDE} {vs : List Nat} (hv : ∀ i ∈ g.slots, i ∈ vs) {σ : Sl} {H : Hp} {Q : VK} (q : lift C Wx (dLc ti g tt te vs) σ H Q) :
    tLc (liftI C Wx ti) (liftG C g) (liftT C noW tt) (liftV C noW (dD te)) vs σ H Q := by
  obtain ⟨R, ds, h, P, Z, e, p, k, z⟩ := q
  refine ⟨R, ds, h, _, Z, e, p, fun R1 H1 h1 xs J p1 x1 e1 src => ?_, z⟩
  intro A nA
  have nf := e1.ok.nfresh nA
  have hA0 : H A = none := x1.dom A nA
  have own0 : ∀ (j : Nat) ys, ds[j]? = some (some (.own ys)) → σ[j]? ≠ some (some (.ref A)) := fun j ys hj hs => by
    obtain ⟨v0, s0, a0, vs0, ev0, q0, _⟩ := e.slot j _ hj
    rw [hs] at s0; cases s0; cases ev0; rw [hA0] at q0; cases q0
  have h0A : C.H₀ A = none := e.ex.dom A hA0
  refine ⟨fun i m H' => m = xs.length - i ∧ i ≤ xs.length ∧ ∃ R' h' acc us, Env C R' ds σ H' h' ∧ Mo C.K R1 H1 R' H' ∧ Ex R H R' H' ∧ H' A = some (.lst us) ∧ ¬ R'.fz A ∧ Out R' A ∧ RelDs C.K R' H' acc us ∧ lcD ds vs g tt te (fun acc h2 => P (.new acc) h2) (xs.drop i) acc h',
    ⟨xs.length, by simp, Nat.zero_le _, R1, h1, [], [], e1.fresh nA, (Ex.fresh nA).mo e1.ok, x1.trans (Ex.fresh nA), upd_same, nf.1, nf.2, m_nil, by simpa using p1⟩, ?_⟩
  rintro i m H2 ⟨rfl, hle, R2, h2, acc, us, e2, m2, x2, hA, nfA, oA, rA, p2⟩
  by_cases hlt : i < xs.length
  · right
    rw [List.drop_eq_getElem_cons hlt] at p2
    refine ⟨src.go i R2 H2 m2 hlt, fun H' => ∃ R' h' acc us, Env C R' ds σ H' h' ∧ Mo C.K R1 H1 R' H' ∧ Ex R H R' H' ∧ H' A = some (.lst us) ∧ ¬ R'.fz A ∧ Out R' A ∧ RelDs C.K R' H' acc us ∧ lcD ds vs g tt te (fun acc h2 => P (.new acc) h2) (xs.drop (i + 1)) acc h',
      fun H' z => ⟨xs.length - (i + 1), by omega, rfl, hlt, z⟩, fun v H3 y => ?_⟩
    obtain ⟨x3, e3, r3⟩ := src.yld i R2 H2 v H3 xs[i] ds σ h2 m2 e2 (List.getElem?_eq_getElem hlt) y
    unfold lcD at p2
    refine ⟨R2, wipeD ds vs, h2, xs[i], _, e3.wiped vs, r3, p2, fun ds4 σ4 e4 kp p4 => ⟨wipe_kept kp hv, ?_⟩⟩
    have stay : ∀ R' H', Ex R2 H3 R' H' → H' A = some (.lst us) ∧ ¬ R'.fz A ∧ Out R' A ∧ RelDs C.K R' H' acc us := fun R' H' x => by
      have hA3 : H3 A = some (.lst us) := x3.frm A _ hA oA fun _ => HO.noConfusion
      refine ⟨x.frm A _ hA3 oA fun _ => HO.noConfusion, fun z => ?_, x.out hA3 oA, relDs_ex e3.ok x (relDs_ex e2.ok x3 rA)⟩
      rcases x.nfz A z with z | z
      · exact nfA z
      · rw [hA3] at z; cases z
    refine ⟨R2, ds4, h2, _, noX, e4, p4, fun R5 H5 h5 b p5 x5 e5 => ?_, fun _ _ _ _ _ _ z => z.elim⟩
    have e5o : Env C R5 ds σ H5 h5 := e3.step x5 e5.ok
    obtain ⟨hA5, nfA5, oA5, rA5⟩ := stay R5 H5 x5
    have m5 : Mo C.K R1 H1 R5 H5 := (m2.trans (x3.mo e2.ok)).trans (x5.mo e3.ok)
    have x05 : Ex R H R5 H5 := (x2.trans x3).trans x5
    cases b with
    | false => exact ⟨R5, h5, acc, us, e5o, m5, x05, hA5, nfA5, oA5, rA5, p5⟩
    | true =>
      refine ⟨R5, ds4, h5, _, noX, e5, p5, fun R6 H6 h6 d u ⟨hl, p6⟩ x6 e6 r6 => ?_, fun _ _ _ _ _ _ z => z.elim⟩
      have e6o : Env C R6 ds σ H6 h6 := e5o.step x6 e6.ok
      have hA6 : H6 A = some (.lst us) := x6.frm A _ hA5 oA5 fun _ => HO.noConfusion
      have nfA6 : ¬ R6.fz A := fun z => by
        rcases x6.nfz A z with z | z
        · exact nfA5 z
        · rw [hA5] at z; cases z
      have oA6 := x6.out hA5 oA5
      have rA6 : RelDs C.K R6 H6 acc us := relDs_ex e5.ok x6 rA5
      obtain ⟨e7, m7⟩ := e6o.wrP (us := us ++ [u]) hA6 nfA6 oA6 h0A own0
      refine ⟨us, hA6, by rw [← relDs_len rA6]; exact hl, R6, h6, acc ++ [d], us ++ [u], e7, (m5.trans (x6.mo e5.ok)).trans m7, ?_, upd_same, nfA6, oA6, relDs_mo m7 (relDs_append rA6 (relDs_one r6)), p6⟩
      have x06 := x05.trans x6
      exact ⟨x06.le, x06.at_, x06.fz, x06.nat, x06.nfz, fun b u q1 o1 n1 => by rw [upd_ne (ne_of_none q1 hA0)]; exact x06.frm b u q1 o1 n1, fun b q1 => by
        by_cases y : b = A
        · subst y; exact hA0
        · rw [upd_ne y] at q1; exact x06.dom b q1, fun b o' u' q1 => by rw [upd_ne (ne_of_none q1 hA0)]; exact x06.lk b o' u' q1⟩
  · left
    have ei : i = xs.length := by omega
    subst ei
    rw [List.drop_length] at p2
    unfold lcD at p2
    exact ⟨src.stop R2 H2 m2, k R2 H2 h2 (.new acc) (.ref A) p2 x2 e2 ⟨A, us, rfl, hA0, hA, nfA, oA, rA⟩⟩
theorem de_lc {elt tg iter : Expr} {ifs : List Expr} {scope : Scope} {own : List (Str × Nat)} {pos : Pos} {ti : TDI} {g : Tg} {tt : TDT} {te : TDE} (hc : X.calm = true) (hN : X.N.Nodup) (hi : PI X tg iter (liftI C Wx ti)) (ok : BlkOk X.N X.env.scope scope own)
    (hg : ∀ (s : Shared) (H : Hp) (A : Addr) (cl : List (Str × Addr)) (fp : List Addr), PG (X.blk s H scope (compEnvC scope cl A X.env) fp) tg (liftG C g)) (ht : ∀ (s : Shared) (H : Hp) (A : Addr) (cl : List (Str × Addr)) (fp : List Addr), PTs (X.blk s H scope (compEnvC scope cl A X.env) fp) ifs (liftT C noW tt))
    (he : ∀ (s : Shared) (H : Hp) (A : Addr) (cl : List (Str × Addr)) (fp : List Addr), PE (X.blk s H scope (compEnvC scope cl A X.env) fp) elt (lift C noW te)) (hv : ∀ i ∈ g.slots, i ∈ own.map (·.2)) (hs : ∀ x, foldedSetIterable iter X.env x = pure x) :
    PE X (.ListComp elt [⟨tg, iter, ifs, 0⟩] scope pos) (lift C Wx (dLc ti g tt te (own.map (·.2)))) :=
  (pe_lc hc hN hi ok hg ht (fun s H A cl fp => pe_D (he s H A cl fp)) hs).imD fun σ H Q q => lift_lc hv q
/-- name = [..] on one line: a tree, or an own list -/
theorem ds_setLc {own? : Bool} {i : Nat} {y : Str} {py : Pos} {elt tg iter : Expr} {ifs : List Expr} {scope : Scope} {own : List (Str × Nat)} {pos spos : Pos} {ti : TDI} {g : Tg} {tt : TDT} {te : TDE} (hc : X.calm = true) (hN : X.N.Nodup) (hy : X.N[i]? = some y) (hyl : X.env.scope.names.lookup y = some .local)
    (hsw : swapsWith (.ListComp elt [⟨tg, iter, ifs, 0⟩] scope pos) (some (.Name y py)) spos.line X.env = pure true) (hi : PI X tg iter (liftI C Wx ti)) (ok : BlkOk X.N X.env.scope scope own)
    (hg : ∀ (s : Shared) (H : Hp) (A : Addr) (cl : List (Str × Addr)) (fp : List Addr), PG (X.blk s H scope (compEnvC scope cl A X.env) fp) tg (liftG C g)) (ht : ∀ (s : Shared) (H : Hp) (A : Addr) (cl : List (Str × Addr)) (fp : List Addr), PTs (X.blk s H scope (compEnvC scope cl A X.env) fp) ifs (liftT C noW tt))
    (he : ∀ (s : Shared) (H : Hp) (A : Addr) (cl : List (Str × Addr)) (fp : List Addr), PE (X.blk s H scope (compEnvC scope cl A X.env) fp) elt (lift C noW te)) (hv : ∀ i ∈ g.slots, i ∈ own.map (·.2)) (hs : ∀ x, foldedSetIterable iter X.env x = pure x) :
    PS X (.Assign [.Name y py] (.ListComp elt [⟨tg, iter, ifs, 0⟩] scope pos) spos) (liftS C Wx (if own? = true then dOwn i (dLc ti g tt te (own.map (·.2))) else dSet i (dLc ti g tt te (own.map (·.2))))) := by
  refine (ps_setLc (i := i) hc hN hy hyl hsw hi ok hg ht (fun s H A cl fp => pe_D (he s H A cl fp)) hs).imD fun D σ H q => ?_
  cases own? with
  | true =>
    obtain ⟨R, ds, h, P, e, p, k⟩ := q
    rw [if_pos rfl] at p
    refine lift_lc hv ⟨R, ds, h, _, _, e, p, fun R' H' h' w v ⟨xs, hw, p'⟩ x e' r => ?_, k.exE e⟩
    subst hw
    exact k.nx R' _ _ H' h' (Env.ownNew i e e' r) (x.mo e.ok) p'
  | false =>
    obtain ⟨R, ds, h, P, e, p, k⟩ := q
    rw [if_neg Bool.false_ne_true] at p
    unfold dSet dD at p
    refine lift_lc hv ⟨R, ds, h, _, _, e, p, fun R' H' h' w v ⟨d, hd, p'⟩ x e' r => ?_, k.exE e⟩
    obtain ⟨R'', x', e'', r', _⟩ := frzW e x e' r hd
    exact k.nx R'' _ _ H' h' (e''.set i r') (x'.mo e.ok) p'
end
end DL
set_option maxHeartbeats 8000000
namespace DL
open PySem PySem.Spec PyProof.Rows L2
/-- enumerate(v), one argument -/
theorem enumNew1 {v : Value} {o : Obj} {H : Heap → Prop} (B : Begins v o H) : Meets (Builtin.«enumerate.__new__» ⟨[.type "enumerate", v], []⟩) (fun _ R s => H s.heap ∧
      R (.ok (.ret (.ref (s.heap.push o).objs.size))) { s with heap := (s.heap.push o).push { cls := .type "enumerate", data := .fields #[.none, .bool false, .ref s.heap.objs.size, rawInt 0, .none, .none] } }) :=
  .of_wp fun prog w A R s z => by
    obtain ⟨hp, g, d, tk, os⟩ := s
    obtain ⟨h1, z⟩ := z
    have hsub := sub_enumerate
    have walkIt : ∀ {A' : Around} {E : Value → Shared → Prop} {Q : Value → Shared → Prop}, Q (.ref hp.objs.size) ⟨hp.push o, g, d, tk, os⟩ → wpAny (model prog w) A' (pyIter v) Q E ⟨hp, g, d, tk, os⟩ := fun y => B.iter prog w _ _ ⟨hp, g, d, tk, os⟩ _ h1 y
    wp_walk using walkIt
    refine wpAny_stack_any fun stk => wpAny_pure ?_
    split
    · rename_i c _ _ _ _ _
      cases (c == Value.type "enumerate") <;> (wp_walk using walkIt; exact ⟨_, rfl, z⟩)
    · wp_walk using walkIt
      exact ⟨_, rfl, z⟩
theorem enumCall1 {prog : Program} {w : World} {A : Around} {E : Value → Shared → Prop} {s : Shared} {v : Value} {o : Obj} {H : Heap → Prop} {Q : Value → Shared → Prop} (B : Begins v o H) (h1 : H s.heap)
    (k : ∀ h', IsEnum h' (s.heap.objs.size + 1) s.heap.objs.size 0 .none → h'.get? s.heap.objs.size = some o → h'.objs.size = s.heap.objs.size + 2 → (∀ b o, s.heap.get? b = some o → h'.get? b = some o) → Q (.ref (s.heap.objs.size + 1)) { s with heap := h' }) :
    wpAny (model prog w) A (call (.type "enumerate") [v]) Q E s := by
  refine callType_new F.called_enumerate (by decide) (F.typeCall_enumerate_1 _) (F.newCall_enumerate_1 _) (fun obj => F.args_object_init_2 obj _) F.entry_enumerate_new (enumNew1 B) ⟨h1, ?_⟩
  have sz : (s.heap.push o).objs.size = s.heap.objs.size + 1 := Heap.size_push ..
  show _ ∧ _
  rw [sz]
  have en : IsEnum ((s.heap.push o).push { cls := .type "enumerate", data := .fields #[.none, .bool false, .ref s.heap.objs.size, rawInt 0, .none, .none] }) (s.heap.objs.size + 1) s.heap.objs.size 0 .none := by
    have := Heap.get?_push_size (s.heap.push o) (o := { cls := .type "enumerate", data := .fields #[.none, .bool false, .ref s.heap.objs.size, rawInt 0, .none, .none] }) rfl
    rw [sz] at this
    exact this
  exact ⟨⟨_, en, rfl⟩, k _ en (Heap.get?_push_of_some _ (Heap.get?_push_size _ B.free)) (by rw [Heap.size_push, sz]) fun b o x => Heap.get?_push_of_some _ (Heap.get?_push_of_some _ x)⟩
/-- the tuple at a, each item in a new pair -/
def ItEt (K : Fg) (a : Addr) : It :=
  ⟨fun i H => ∃ (xs : List V) (x : V), SqT K H a xs ∧ xs[i]? = some x, fun i H v H' => ∃ T x, v = .ref T ∧ H T = none ∧ H' = upd H T (.tup [.int (i : Nat), x]) ∧ ∀ xs, SqT K H a xs → xs[i]? = some x, fun i H => ∃ xs : List V, SqT K H a xs ∧ xs.length = i⟩
theorem two_mem {b e it : Addr} (h : b ∈ [e, it]) : b = e ∨ b = it := by simpa using h
theorem turn_enumT {P : Program} {w : World} {K : Fg} {elts : List Expr} {kk : Nat} {tpos : Pos} (a e it : Addr) :
    Turn P w K (.Tuple elts kk tpos) (ItEt K a) [e, it] e (fun i h => (∃ old, IsEnum h e it ((i : Nat) : Int) old) ∧ h.IsTupleIter it a i ∧ e ≠ it ∧ a ≠ it ∧ e ≠ a) where
  mem := by simp
  obj := fun i h st b hb => by
    obtain ⟨⟨old, he⟩, ⟨o, ho, hc, hd⟩, _⟩ := st
    rcases two_mem hb with z | z
    · exact ⟨_, by rw [z]; exact he, fun v q => by cases q⟩
    · exact ⟨o, by rw [z]; exact ho, fun v q => by rw [hd] at q; cases q⟩
  keep := fun i h h' st k => by
    obtain ⟨⟨old, he⟩, hi, hn⟩ := st
    exact ⟨⟨old, k e (by simp) _ he⟩, hi.at fun o q => k it (by simp) o q, hn⟩
  item := by
    intro X hP hw hK hc i pins s σ H E I hf st hg
    subst hP hw hK
    obtain ⟨⟨old, he⟩, hit, hne, hai, hea⟩ := st
    obtain ⟨xs, x, hq, hx⟩ := hg
    obtain ⟨its, rv, p, hz⟩ := I.tuple hq
    obtain ⟨u, hu, ru⟩ := rv.get hx
    have hel : e < s.heap.objs.size := Heap.lt_size he
    have hil : it < s.heap.objs.size := by
      obtain ⟨_, q, _⟩ := hit
      exact Heap.lt_size q
    have D := Draws.tuple (prog := X.prog) (w := X.w) (A := X.A.in1) (I.ok.hd hc) it a hai its.toArray
    have hlt : i < its.toArray.size := by
      have := (List.getElem?_eq_some_iff.mp hu).1
      simpa using this
    refine wpAny_pyNext_enum_itemD D he ⟨hit, p⟩ hlt hne (by simp [hne, hea]) fun y h' tk hy ho hst' hT hsz hk => ?_
    have ey : y = u := by
      have h1 : its.toArray[i]? = some u := by simpa using hu
      have h2 : its.toArray[i]? = some y := hy
      rw [h1] at h2
      exact (Option.some.inj h2).symm
    subst ey
    refine ⟨_, rfl, wpAny_letOwnedTupleGo_enum (s := { s with heap := h', toks := tk + 1 }) ho fun h'' he' sb => ?_⟩
    have hT2 : h''.get? s.heap.objs.size = some { cls := .type "tuple", data := .seq #[.int i tk, y] } := (sb.2 _ (Nat.ne_of_gt hel)).trans hT
    have nw : ObjOk X.prog X.w (upd H s.heap.objs.size (.tup [.int (i : Nat), x])) h'' s.heap.objs.size (.tup [.int (i : Nat), x]) :=
      ⟨by show 2 ≤ sizeLine; decide, [.int i tk, y], .cons ⟨_, rfl⟩ (.cons ru .nil), ⟨_, hT2, rfl, _, rfl⟩⟩
    have J : Inv X pins σ (upd H s.heap.objs.size (.tup [.int (i : Nat), x])) { s with heap := h'', toks := tk + 1 } :=
      I.turnedNew (ch := [e, it]) (fun b ob hb q => (sb.2 b (fun z => hb (by simp [z]))).trans (hk b ob (fun z => hb (by simp [z])) (fun z => hb (by simp [z])) q)) hf (Nat.le_refl _) nw
    refine ⟨.ref s.heap.objs.size, _, J, rfl, ⟨_, x, rfl, I.hok.fresh (Nat.le_refl _), rfl, fun ys hy => by rw [I.tuple_inj hy hq]; exact hx⟩, ⟨⟨y, ?_⟩, hst'.1.at fun o q => (sb.2 it (Ne.symm hne)).trans q, hne, hai, hea⟩, fun b hb => ?_⟩
    · rw [show ((i + 1 : Nat) : Int) = (i : Int) + 1 by omega]
      exact he'
    · have lt : b < s.heap.objs.size := by
        rcases two_mem hb with z | z
        · rw [z]; exact hel
        · rw [z]; exact hil
      rw [upd_ne (Nat.ne_of_lt lt)]
      exact (hf b hb).1
  done := by
    intro X hP hw hK hc i pins s σ H E I hf st hg
    subst hP hw hK
    obtain ⟨⟨old, he⟩, hit, hne, hai, hea⟩ := st
    obtain ⟨xs, hq, hx⟩ := hg
    obtain ⟨its, rv, p, hz⟩ := I.tuple hq
    obtain ⟨f0, f1, f2, f3, f4, f5⟩ := hf it (by simp)
    have D := Draws.tuple (prog := X.prog) (w := X.w) (A := X.A.in1) (I.ok.hd hc) it a hai its.toArray
    have hsz : its.toArray.size = i := by
      have := rv.length
      rw [List.size_toArray, ← this]
      exact hx
    exact wpAny_pyNext_enum_endD D he ⟨by rw [hsz]; exact hit, p⟩ fun h' eb => ⟨rfl, I.turned (t' := s.toks) (fun b o hb q => eb b o hb q) f0 f1 f3 f4 f5⟩
  self := fun A i s Q E st h => by
    obtain ⟨⟨_, he⟩, _⟩ := st
    exact wpAny_pyIter_enum he h
/-- enumerate(e), e a tuple -/
def iEnumT (K : Fg) (ta : TA) : TI := fun σ H R => ta σ H fun vs H1 => ∃ a xs, vs = [.ref a] ∧ SqT K H1 a xs ∧ R (ItEt K a) H1
theorem pi_enumT {X : Cx} {e : Expr} {ta : TA} {p pos tpos : Pos} {elts : List Expr} {kk : Nat} (hg : Gl X "enumerate") (hm : X.mg "enumerate" = none) (ha : PA X [e] ta) (hs : starEach [e] X.env = [(false, eval e X.env)]) :
    PI X (.Tuple elts kk tpos) (.Call (.Name "enumerate" p) [e] [] pos) (iEnumT X.K ta) := by
  refine ⟨fun pins s σ H R I z => ?_⟩
  refine Call_ (ld_blt I hg hm boot_enumerate (PyProof.Rows.callWith_type1 (thn (ha.run pos pins s σ H _ I z) fun us s1 ⟨vs, H1, I1, r1, q1⟩ => ?_) hs rfl))
  obtain ⟨a, xs, rfl, hq, q⟩ := q1
  cases r1 with
  | cons r rr =>
    cases rr
    cases r
    obtain ⟨its, rv, p', hz⟩ := I1.tuple hq
    refine enumCall1 (begins_tuple a its.toArray) p' fun h' he hit hsz hk => wpAny_pyIter_enum he ?_
    have I2 : Inv X pins σ H1 { s1 with heap := h' } := I1.kept (t' := s1.toks) hk
    have al : a < s1.heap.objs.size := by
      obtain ⟨o, e1, _⟩ := p'
      exact Heap.lt_size e1
    refine ⟨s1.heap.objs.size + 1, [s1.heap.objs.size + 1, s1.heap.objs.size], _, _, H1, rfl, I2, turn_enumT a (s1.heap.objs.size + 1) s1.heap.objs.size, ⟨⟨.none, he⟩, ⟨_, hit, rfl, rfl⟩, Nat.succ_ne_self _, Nat.ne_of_lt al, ?_⟩, fun b hb => ?_, q⟩
    · intro z
      have : s1.heap.objs.size + 1 < s1.heap.objs.size := by rw [z]; exact al
      exact absurd this (Nat.not_lt.mpr (Nat.le_succ _))
    · have ge : s1.heap.objs.size ≤ b := by
        rcases two_mem hb with z | z
        · rw [z]; exact Nat.le_succ _
        · rw [z]; exact Nat.le_refl _
      exact I1.fpOk ge (I1.hok.fresh ge)
theorem vals_signs {α : Type} (f : α → Str) : ∀ (cs : List α) (vs : List Value), vs.length = cs.length → (∀ (j : Nat) (v : Value), vs[j]? = some v → ∃ c u, cs[j]? = some c ∧ v = .str (f c) u) → Vals (cs.map fun c => V.str (f c)) vs
  | [], [], _, _ => .nil
  | [], _ :: _, hl, _ => by simp at hl
  | _ :: _, [], hl, _ => by simp at hl
  | c :: cs, v :: vs, hl, h => by
    obtain ⟨c', u, h1, h2⟩ := h 0 v rfl
    cases h1
    exact .cons ⟨u, h2⟩ (vals_signs f cs vs (by simpa using hl) fun j w hj => by simpa using h (j + 1) w (by simpa using hj))
/-- list(x), x a text -/
theorem call_listS {X : Cx} (hc : X.calm = true) : CallR X (.type "list") (fun xs H Q => ∃ x : Str, xs = [.str x] ∧ x.cps.size ≤ sizeLine ∧ ∀ l, H l = none → Q (.ref l) (upd H l (.lst (x.cps.toList.map fun c => V.str ⟨#[c]⟩)))) := by
  intro pins s σ H xs us Q I r z
  obtain ⟨x, rfl, hz, q⟩ := z
  obtain ⟨u, rfl, ru⟩ := vals1 r
  obtain ⟨t, rfl⟩ := ru
  refine call_list_str (I.ok.hd hc) x t (fun h' tk acc' c' kp e hacc => ?_) hz
  have rv : Vals (x.cps.toList.map fun c => V.str ⟨#[c]⟩) acc'.toList := vals_signs (fun c => ⟨#[c]⟩) x.cps.toList acc'.toList (by simp [hacc.1]) fun j v hj => by
    obtain ⟨c, u, h1, h2⟩ := hacc.2 j v (by simpa using hj)
    exact ⟨c, u, by simpa using h1, h2⟩
  exact ⟨.ref s.heap.objs.size, _, I.laid (t' := tk) kp (Nat.le_refl _) (show ObjOk X.prog X.w _ h' _ (.lst _) from ⟨by simpa using hz, acc'.toList, c', rv, by simpa using e⟩), rfl, q _ (I.hok.fresh (Nat.le_refl _))⟩
def wListS (x : W) (Q : W → Prop) : Prop := match x with
  | .d (.str s) => s.cps.size ≤ sizeLine ∧ Q (.new (s.cps.toList.map fun c => .str ⟨#[c]⟩))
  | _ => False
def enD (xs : List D) : List D := xs.zipIdx.map fun p => .tup [.int (p.2 : Nat), p.1]
def dItE (t : TDE) : TDI := fun ds h P Z => dD t ds h (fun d h' => ∃ xs, d = .tup xs ∧ P (enD xs) h') Z
section
variable {X : Cx} {C : Cn} {Wx : WX}
theorem relDs_mkstrs {K : Fg} {R : Rg} {H : Hp} {α : Type} (f : α → Str) : ∀ (ns : List α), RelDs K R H (ns.map fun c => D.str (f c)) (ns.map fun c => V.str (f c))
  | [] => m_nil
  | n :: ns => m_cons m_str (relDs_mkstrs f ns)
theorem de_listS {a : Expr} {ta : TDE} {p pos : Pos} (hc : X.calm = true) (hg : Gl X "list") (hm : X.mg "list" = none) (ha : PE X a (lift C Wx ta)) (he : starEach [a] X.env = (false, eval a X.env) :: starEach [] X.env) : PE X (.Call (.Name "list" p) [a] [] pos) (lift C Wx (dOp1 wListS ta)) :=
  (pe_callTy (call_listS hc) hg hm (by decide +kernel) (pa_cons ha pa_nil he) (he := he)).imD fun σ H Q q => by
    obtain ⟨R, ds, h, P, Z, e, p, k, z⟩ := q
    refine ⟨R, ds, h, _, Z, e, p, fun R1 H1 h1 w1 v1 p1 x1 e1 r1 => ?_, z⟩
    unfold wListS at p1
    split at p1
    · cases rw_str r1
      exact ⟨_, rfl, p1.1, fun l nl => k R1 _ h1 _ _ p1.2 (x1.trans (Ex.fresh nl)) (e1.fresh nl) (m_new e1 x1 nl (relDs_mkstrs _ _))⟩
    · exact p1.elim
theorem di_en {elts : List Expr} {kk : Nat} {tp : Pos} {e : Expr} {t : TDE} {p pos : Pos} (hK : C.K = X.K) (hg : Gl X "enumerate") (hm : X.mg "enumerate" = none) (ha : PE X e (lift C Wx t)) (hs : starEach [e] X.env = [(false, eval e X.env)]) : PI X (.Tuple elts kk tp) (.Call (.Name "enumerate" p) [e] [] pos) (liftI C Wx (dItE t)) :=
  (pi_enumT hg hm (pa_cons (pe_D ha) pa_nil hs) hs).imD fun σ H Q q => by
    obtain ⟨R, ds, h, P, Z, e, p, k, z⟩ := q
    refine ⟨R, ds, h, _, Z, e, p, fun R' H' h' d v ⟨xs, hd, p'⟩ x e' r => ?_, z⟩
    subst hd
    obtain ⟨a, vs, rfl, sq, t⟩ := r_tup r
    refine ⟨a, vs, rfl, sq.sq, k R' H' h' _ _ p' x e' ?_⟩
    rw [← hK]
    have hl : (enD xs).length = xs.length := by unfold enD; simp
    refine ⟨fun i R2 H2 m hi => ⟨vs, vs[i]'(by rw [← relDs_len t, ← hl]; exact hi), (m.tup _ _ sq).sq, by simp⟩, fun R2 H2 m => ⟨vs, (m.tup _ _ sq).sq, by rw [hl, relDs_len t]⟩, fun i R2 H2 v H3 d ds σ h m e2 hd y => ?_⟩
    obtain ⟨T, y, rfl, nT, rfl, hy⟩ := y
    have hi : i < xs.length := by rw [← hl]; exact (List.getElem?_eq_some_iff.mp hd).1
    have ed : d = .tup [.int (i : Nat), xs[i]] := by
      unfold enD at hd
      rw [List.getElem?_map, List.getElem?_zipIdx, List.getElem?_eq_getElem hi] at hd
      simp at hd
      exact hd.symm
    subst ed
    obtain ⟨u, hu, ru⟩ := relDs_get t (List.getElem?_eq_getElem hi)
    have := hy vs (m.tup _ _ sq).sq
    rw [hu] at this
    cases this
    refine ⟨Ex.fresh nT, e2.fresh nT, m_tup upd_same (m_cons m_int (m_cons (relD_ex e2.ok (Ex.fresh nT) (relD_mo m ru)) m_nil))⟩
end
end DL
set_option maxHeartbeats 8000000
namespace DL
open PySem PySem.Spec PyProof.Rows L2
section
variable {X : Cx} {C : Cn} {Wx : WX}
end
end DL
set_option maxHeartbeats 8000000
namespace DL
open PySem PySem.Spec PyProof.Rows L2
mutual
/-- no shared object, no list of one's own in it -/
def pureD : D → Bool
  | .ref _ => false
  | .tup xs => pureDs xs
  | .lst _ => false
  | .fro xs => pureDs xs
  | .wtp xs => pureDs xs
  | _ => true
def pureDs : List D → Bool
  | [] => true
  | x :: xs => pureD x && pureDs xs
end
def wD : W → D
  | .d x => x
  | .new xs => .lst xs
  | .own xs => .lst xs
  | .fn _ => .ref 0
abbrev TDW := DSt → Hs → (List W → Hs → Prop) → XD → Prop
def RelWs (K : Fg) (H₁ : Hp) (R : Rg) (H : Hp) : List W → List V → Prop
  | [], vs => vs = []
  | w :: ws, vs => ∃ v r, vs = v :: r ∧ RelW K H₁ R H w v ∧ RelWs K H₁ R H ws r
def dNilW : TDW := fun _ h P _ => P [] h
def dConsW (t : TDE) (u : TDW) : TDW := fun ds h P Z => t ds h (fun x h1 => u ds h1 (fun xs h2 => P (x :: xs) h2) Z) Z
def liftW (C : Cn) (Wx : WX) (t : TDW) : TA := fun σ H Q => ∃ R ds h P Z, Env C R ds σ H h ∧ t ds h P Z ∧
  (∀ R' H' h' ws vs, P ws h' → Ex R H R' H' → Env C R' ds σ H' h' → RelWs C.K H R' H' ws vs → Q vs H') ∧
  (∀ R' H' h' x cls dd, Z x h' → Ex R H R' H' → Env C R' ds σ H' h' → RelX C R' H' x cls dd → Wx cls dd σ H')
section
variable {K : Fg} {R R' : Rg} {H H' H₁ : Hp}
mutual
theorem relD_back : ∀ {d : D} {v : V}, pureD d = true → RelD K R H d v → RelD K R' H d v
  | .non, v, _, r => by unfold RelD at r ⊢; exact r
  | .bl _, v, _, r => by unfold RelD at r ⊢; exact r
  | .int _, v, _, r => by unfold RelD at r ⊢; exact r
  | .str _, v, _, r => by unfold RelD at r ⊢; exact r
  | .ty _, v, _, r => by unfold RelD at r ⊢; exact r
  | .ref i, v, n, r => by unfold pureD at n; cases n
  | .lst i, v, n, r => by unfold pureD at n; cases n
  | .tup ds, v, n, r => by
    unfold pureD at n
    unfold RelD at r ⊢
    obtain ⟨a, vs, e, q, t⟩ := r
    exact ⟨a, vs, e, q, relDs_back n t⟩
  | .fro ds, v, n, r => by
    unfold pureD at n
    unfold RelD at r ⊢
    obtain ⟨a, vs, e, q, t⟩ := r
    exact ⟨a, vs, e, q, relDs_back n t⟩
  | .wtp ds, v, n, r => by
    unfold pureD at n
    unfold RelD at r ⊢
    obtain ⟨a, vs, e, q, t⟩ := r
    exact ⟨a, vs, e, q, relDs_back n t⟩
theorem relDs_back : ∀ {ds : List D} {vs : List V}, pureDs ds = true → RelDs K R H ds vs → RelDs K R' H ds vs
  | [], vs, _, r => by unfold RelDs at r ⊢; exact r
  | d :: ds, vs, n, r => by
    unfold pureDs at n
    obtain ⟨n1, n2⟩ := Bool.and_eq_true_iff.mp n
    unfold RelDs at r ⊢
    obtain ⟨v, q, e, r1, r2⟩ := r
    exact ⟨v, q, e, relD_back n1 r1, relDs_back n2 r2⟩
end
end
section
variable {X : Cx} {C : Cn} {Wx : WX}
theorem dw_nil : PA X [] (liftW C Wx dNilW) := pa_nil.imD fun σ H Q q => by
  obtain ⟨R, ds, h, P, Z, e, p, k, z⟩ := q
  exact k R H h [] [] p (Ex.refl _ _) e rfl
theorem relWs_start {K : Fg} {R : Rg} {H H₁ H₀ : Hp} (hd : ∀ b, H₁ b = none → H₀ b = none) : ∀ {ws : List W} {vs : List V}, RelWs K H₁ R H ws vs → RelWs K H₀ R H ws vs
  | [], vs, r => r
  | w :: ws, vs, r => by
    obtain ⟨v, q, e, r1, r2⟩ := r
    exact ⟨v, q, e, relW_start hd r1, relWs_start hd r2⟩
theorem dw_cons {e : Expr} {es : List Expr} {t : TDE} {u : TDW} (ha : PE X e (lift C Wx t)) (hr : PA X es (liftW C Wx u)) (hs : starEach (e :: es) X.env = (false, eval e X.env) :: starEach es X.env) : PA X (e :: es) (liftW C Wx (dConsW t u)) :=
  (pa_cons ha hr hs).imD fun σ H Q q => by
    obtain ⟨R, ds, h, P, Z, e, p, k, z⟩ := q
    refine ⟨R, ds, h, _, Z, e, p, fun R1 H1 h1 w1 v1 p1 x1 e1 r1 => ?_, z⟩
    refine ⟨R1, ds, h1, _, Z, e1, p1, fun R2 H2 h2 ws vs p2 x2 e2 r2 => ?_, fun R' H' h' x cls dd a b c d => z R' H' h' x cls dd a (x1.trans b) c d⟩
    exact k R2 H2 h2 (w1 :: ws) (v1 :: vs) p2 (x1.trans x2) e2 ⟨v1, vs, rfl, relW_ex e1.ok x2 r1, relWs_start x1.dom r2⟩
end
end DL
set_option maxHeartbeats 4000000
namespace DL
open PySem PySem.Spec PyProof.Rows L2
/-- a call of the lambda's function at f, at any later state -/
def ActOk (P : Program) (w : World) (K : Fg) (mg : Str → Option Value) (base : Heap) (gd : Bool) (k : Nat) (fr : List Addr) (H : Hp) (s : Shared) (f : Addr) (tl : XK → Hp → VK → Prop) : Prop :=
  ∀ (A : Around) (outer : List PySem.Env) (t : Shared) (G : Hp) (Q : VK) (E : XK), Room k A → Gd gd A → Env0 P w K mg base A outer t G → Un fr [] H G s.heap t.heap → tl E G Q →
    codeAny (model P w) A (.call (.ref f) ⟨[], []⟩) (CR (CX K P w) outer P w G t Q E) t
/-- the context of a lambda's body -/
abbrev lamCxh (X : Cx) (A : Around) (outer : List PySem.Env) (s : Shared) (H : Hp) (E : XK) (scope : Scope) (f c' : Addr) : Cx := (LamX.lamCx X A outer s H E scope f c').wish fun e s' => wpAny (model X.prog X.w) (A.deeper (LamX.lamEnv X scope s.heap.objs.size f c')) (leaving (LamX.lamEnv X scope s.heap.objs.size f c') e) (fun _ s'' => CX X.K X.prog X.w outer H s E e s'') (fun e' s'' => CX X.K X.prog X.w outer H s E e' s'') s'
section
variable {X : Cx} {pins : List (Addr × Obj)} {σ : Sl} {H : Hp} {s : Shared}
theorem act_ok {f c : Addr} {pm ctv : Value} {params : Arguments} {body : Expr} {scope : Scope} {k : Nat} {gd : Bool} {tb : XK → TE} (I : Inv X pins σ H s) (L : LamX.LamS X.env.scope scope)
    (hf : s.heap.get? f = some (PySem.W.kla_obj "<lambda>" (X.env.qual ++ "<lambda>") params body scope (cloFrom X.env.cells scope.names []) pm c ctv)) (hn : H f = none) (hfr : f ∉ frs X.stack)
    (hbd : bindArgs (PySem.W.kla_fn "<lambda>" (X.env.qual ++ "<lambda>") params body scope (cloFrom X.env.cells scope.names []) pm (.ref c) ctv) ⟨[], []⟩ = pure [])
    (hb : ∀ (A : Around) (outer : List PySem.Env) (t : Shared) (G : Hp) (E : XK), Room k (A.deeper (LamX.lamEnv X scope t.heap.objs.size f c)) → Gd gd A → PE (lamCxh X A outer t G E scope f c) body (tb E)) :
    ActOk X.prog X.w X.K X.mg X.base gd (k + 1) (frs X.stack) H s f (fun E G Q => G c = some (LamX.CodeO c (X.env.qual ++ "<lambda>")) ∧ tb E σ G Q) := by
  intro A outer t G Q E hr hg e0 un ⟨hc, ht⟩
  have ft := un.keep f _ hf hn hfr (fun z => nomatch z)
  obtain ⟨⟨oc, us, tk, oc1, oc2, oc3⟩, _⟩ := e0.hok c _ hc
  have nol : t.heap.NoLimit := e0.mod.nolimit.keeps fun b o z => (e0.bs b o z).1
  refine PySem.W.kla_callFunE hr.depth ft rfl L.co L.gen rfl ⟨c, oc, us, tk, rfl, oc1, oc2, oc3⟩ ?_
  rw [hbd]
  refine wpAny_pure (wpAny_newFunctionEnv (fun y hy => (L.own y hy).2) (fun y hy => nomatch hy) (fun g1 n1 n2 => ⟨nol.fresh _ n2, ?_⟩) L.kind)
  have kp : ∀ b o, t.heap.get? b = some o → g1.get? b = some o := fun b o z => n2.extBut b o (Nat.ne_of_lt (Heap.lt_size z)) (Heap.get?_push_of_some _ z)
  have J := LamX.lam_start2 (tk := t.toks + ([] : List (Str × Value)).length) (E := E) (f := f) (c' := c) I L e0 hr.hd un n1 kp |>.wish (fun e s' => wpAny (model X.prog X.w) (A.deeper (LamX.lamEnv X scope t.heap.objs.size f c)) (leaving (LamX.lamEnv X scope t.heap.objs.size f c) e) (fun _ s'' => CX X.K X.prog X.w outer G t E e s'') (fun e' s'' => CX X.K X.prog X.w outer G t E e' s'') s')
  refine PySem.W.kla_codeExpr (wpAny_mono ((hb A outer t G E (hr.deeper _) hg).run [] _ _ G Q J ht) (fun v s' z => ?_) fun _ _ z => z)
  obtain ⟨u, G', J', ru, zq⟩ := z
  exact ⟨u, G', J'.os, J'.bare, J'.base, J'.hok, ru, zq⟩
/-- x(): the slot i holds the lambda's function -/
theorem pe_actG {Z : Cx} {gd : Bool} {k i : Nat} {x : Str} {f : Addr} {tl : XK → Hp → VK → Prop} {Wx : WX} {p1 p2 : Pos} {o : Obj} (hact : ActOk Z.prog Z.w Z.K Z.mg Z.base gd k (frs Z.outer) Z.H_0 Z.s_0 f tl) (hex : Z.ex = []) (hr : Room k Z.A) (hg : Gd gd Z.A) (tk : Takes Z Wx)
    (hfo : Z.s_0.heap.get? f = some o) (hfd : ∃ fd, o.data = .func fd) (hfn : Z.H_0 f = none) (hff : f ∉ frs Z.outer) (hN : Z.N[i]? = some x) (hv : Vis Z.env.scope x) (hd : (x == ("__debug__" : Str)) = false) (hcd : (x == ("__classdict__" : Str)) = false) :
    PE Z (.Call (.Name x p1) [] [] p2) (fun σ H Q => σ[i]? = some (some (.ref f)) ∧ tl (atS Wx σ) H Q) := by
  refine ⟨fun pins s σ H Q I h => ?_⟩
  obtain ⟨h1, h3⟩ := h
  refine wpAny_Call_Name_kw (thn ((pe_var (pos := p1) (i := i) hN hv hd hcd).run pins s σ H (fun v G => v = .ref f ∧ G = H) I ⟨.ref f, h1, rfl, rfl⟩) fun u t ⟨v, G, J, ru, ev, eg⟩ => ?_)
  subst ev eg
  cases (show u = Value.ref f from ru)
  have un : Un (frs Z.outer) [] Z.H_0 G Z.s_0.heap t.heap := by
    have b := J.base
    rw [hex] at b
    exact b
  have ft := un.keep f _ hfo hfn hff (fun z => nomatch z)
  obtain ⟨fd, hfd⟩ := hfd
  obtain ⟨oc, od, dt, sl⟩ := o
  cases (show dt = _ from hfd)
  refine PySem.W.callWith_F0 ⟨_, _, _, _, ft⟩ ?_
  refine wpAny_call (codeAny_mono (hact Z.A Z.stack t G Q (atS Wx σ) hr hg J.env0 un h3) fun r t2 z => ?_)
  cases r with
  | error e => exact tk e t2 (XE.of_call J (fun _ _ _ h => h) z)
  | ok fl =>
    cases fl with
    | ret u => exact J.after z
    | next => exact z.elim
    | brk => exact z.elim
    | cont => exact z.elim
/-- the lambda is made: as the library's, and what was told of stays told of -/
theorem lam_mk {T : List (Addr × Str)} {cd Pt : Addr} {params : Arguments} {body : Expr} {scope : Scope} {pos : Pos} {E Q : Value → Shared → Prop} (I : Inv X pins σ H s) (TB : LamX.TabB X.base X.mg cd Pt) (hcd : X.env.code = .ref cd) (hin : (Pt, X.env.qual ++ "<lambda>") ∈ T) (hone : ∀ y ∈ T, y.1 = Pt → y.2 = X.env.qual ++ "<lambda>")
    (hT : LamX.Tabs T H) (hdf : defaultsOf params X.env = ([], [])) (hfr : ∀ y ∈ scope.names, y.2 = .free → ∃ c, X.env.cells.lookup y.1 = some c)
    (fin : ∀ (f c : Addr) (pm ctv : Value) (G : Hp) (t : Shared), Inv X pins σ G t → LamX.ExtN H G → (∀ b, G b = none → H b = none) → LamX.Tabs T G → t.heap.get? f = some (PySem.W.kla_obj "<lambda>" (X.env.qual ++ "<lambda>") params body scope (cloFrom X.env.cells scope.names []) pm c ctv) → G f = none → f ∉ frs X.stack → G c = some (LamX.CodeO c (X.env.qual ++ "<lambda>")) → Q (.ref f) t) :
    wpAny (model X.prog X.w) X.A (eval (.Lambda params body scope pos) X.env) Q E s := by
  obtain ⟨row, h1, h2, h3⟩ := hT _ hin
  refine PySem.W.kla_eval hdf ?_
  have tabAt := I.hok Pt _ h1
  have bAt : s.heap.BuiltinsAt X.mg Pt := TB.bm.keeps I.bk
  have gAt := I.mod.glob.keeps I.bk
  have cAt := TB.code.keeps I.bk
  have out : ∀ f, s.heap.objs.size ≤ f → f ∉ frs X.stack := fun f hf z => by
    rcases List.mem_cons.mp (I.stkSub _ z) with y | y
    · exact absurd (y ▸ I.lt) (Nat.not_lt.mpr hf)
    · exact I.nofs hf y
  cases look : codeAmong pos row.toList with
  | some cv =>
    obtain ⟨c, rfl, hc⟩ := h3 pos cv look
    refine PySem.W.kla_makeFunctionHit (mg := X.mg) (c := cd) (P := Pt) (ps := row) (closure_ok hfr) I.ok.glob gAt hcd cAt tabAt h2 look bAt fun ctv g tk gx gsz => ?_
    refine fin g.objs.size c ((X.mg "__name__").getD .none) ctv H _ (I.kept fun b o z => Heap.get?_push_of_some _ (gx b o z)) (LamX.ExtN.refl H) (fun _ z => z) hT (Heap.get?_push_size _ rfl) (I.hok.fresh gsz) (out _ gsz) hc
  | none =>
    refine PySem.W.kla_makeFunction (mg := X.mg) (c := cd) (P := Pt) (ps := row) (closure_ok hfr) I.ok.glob gAt hcd cAt tabAt h2 look TB.gP bAt fun c ctv g tk gx ge gl gr gt => ?_
    obtain ⟨c2, oc, us, tq, ec, g1, g2, g3⟩ := gr
    cases ec
    have sz : s.heap.objs.size ≤ g.objs.size := Nat.le_trans ge (Nat.le_of_lt gl)
    have nc : H c = none := I.hok.fresh ge
    have J := LamX.inv_table (t' := tk) (more := #[rawInt pos.line, rawInt pos.col, .ref c]) (h' := g.push (PySem.W.kla_obj "<lambda>" (X.env.qual ++ "<lambda>") params body scope (cloFrom X.env.cells scope.names []) ((X.mg "__name__").getD .none) c ctv)) I h1
      (fun b o hb z => Heap.get?_push_of_some _ (gx b o hb z)) (Heap.get?_push_of_some _ gt) ge ⟨oc, us, tq, Heap.get?_push_of_some _ g1, g2, g3⟩
    have neP : ∀ b o, H b = some o → (∀ ps, o ≠ .tbl ps) → b ≠ Pt := fun b o z n y => n row (Option.some.inj (z.symm.trans (by rw [y]; exact h1)))
    have ext : LamX.ExtN H (upd (upd H Pt (.tbl (row ++ #[rawInt pos.line, rawInt pos.col, .ref c]))) c (LamX.CodeO c (X.env.qual ++ "<lambda>"))) := fun b o z n => by
      rw [upd_ne (ne_of_none z nc), upd_ne (neP b o z n)]; exact z
    have lst : (row ++ #[rawInt pos.line, rawInt pos.col, .ref c]).toList = row.toList ++ [rawInt pos.line, rawInt pos.col, .ref c] := by simp
    have nPc : Pt ≠ c := ne_of_none h1 nc
    have nfP : g.objs.size ≠ Pt := Nat.ne_of_gt (Nat.lt_of_lt_of_le (Heap.lt_size (show s.heap.get? Pt = some _ from tabAt)) sz)
    refine fin g.objs.size c ((X.mg "__name__").getD .none) ctv _ _ J ext (fun b z => ?_) (fun y hy => ?_) (Heap.get?_push_size _ rfl) ?_ (out _ sz) upd_same
    · by_cases y1 : b = c
      · rw [y1]; exact nc
      · rw [upd_ne y1] at z
        by_cases y2 : b = Pt
        · rw [y2, upd_same] at z; cases z
        · rw [upd_ne y2] at z; exact z
    · by_cases yb : y.1 = Pt
      · rw [hone y hy yb, yb]
        refine ⟨_, by rw [upd_ne nPc, upd_same], by rw [lst]; exact PySem.TriplesOk_snoc _ _ _ _ h2, fun p cv z => ?_⟩
        rw [lst] at z
        rcases LamX.among_app _ h2 z with u | u
        · obtain ⟨c0, e1, e2⟩ := h3 p cv u
          exact ⟨c0, e1, ext _ _ e2 LamX.codeO_ne⟩
        · exact ⟨c, u, upd_same⟩
      · obtain ⟨r2, a1, a2, a3⟩ := hT y hy
        refine ⟨r2, by rw [upd_ne (ne_of_none a1 nc), upd_ne yb]; exact a1, a2, fun p cv z => ?_⟩
        obtain ⟨c0, e1, e2⟩ := a3 p cv z
        exact ⟨c0, e1, ext _ _ e2 LamX.codeO_ne⟩
    · rw [upd_ne (Nat.ne_of_gt gl), upd_ne nfP]; exact I.hok.fresh sz
abbrev ActD := Hs → (D → Hs → Prop) → XD → Prop
abbrev HFn := ActD → Hs → (D → Hs → Prop) → XD → Prop
/-- the lambda's reading over trees, at any later state: R, H: where it was made -/
def tlD (K : Fg) (Cl : Cm) (R : Rg) (H : Hp) (act : ActD) : XK → Hp → VK → Prop := fun E G Q => ∃ R' h' Pd Zd, HOk' K Cl R' G h' ∧ Ex R H R' G ∧ act h' Pd Zd ∧
  (∀ R2 G2 h2 d v, Pd d h2 → Ex R' G R2 G2 → HOk' K Cl R2 G2 h2 → RelD K R2 G2 d v → Q v G2) ∧ (∀ R2 G2 h2 x cls dd, Zd x h2 → Ex R' G R2 G2 → HOk' K Cl R2 G2 h2 → RelX ⟨K, Cl, R', G⟩ R2 G2 x cls dd → E cls dd G2)
theorem ActOk.imp {P : Program} {w : World} {K : Fg} {mg : Str → Option Value} {base : Heap} {gd : Bool} {k : Nat} {fr : List Addr} {f : Addr} {tl tl' : XK → Hp → VK → Prop} (a : ActOk P w K mg base gd k fr H s f tl) (h : ∀ E G Q, tl' E G Q → tl E G Q) : ActOk P w K mg base gd k fr H s f tl' :=
  fun A outer t G Q E hr hg e0 un z => a A outer t G Q E hr hg e0 un (h E G Q z)
def dAct (i : Nat) (a : Addr → ActD) : TDE := fun ds h P Z => ∃ f, ds[i]? = some (some (.fn f)) ∧ a f h (fun d h' => P (.d d) h') Z
/-- the reading of the only function that is handed in -/
def onlyA (f : Addr) (act : ActD) : Addr → ActD := fun g h P Z => g = f ∧ act h P Z
def noA : Addr → ActD := fun _ _ _ _ => False
theorem de_act {Z : Cx} {C : Cn} {gd : Bool} {k i : Nat} {x : Str} {f : Addr} {act : ActD} {Wx : WX} {p1 p2 : Pos} {o : Obj} (hK : C.K = Z.K) (hH : C.H₀ = Z.H_0) (hact : ActOk Z.prog Z.w Z.K Z.mg Z.base gd k (frs Z.outer) Z.H_0 Z.s_0 f (tlD C.K C.Cl C.R₀ C.H₀ act)) (hex : Z.ex = []) (hr : Room k Z.A) (hg : Gd gd Z.A) (tk : Takes Z Wx)
    (hfo : Z.s_0.heap.get? f = some o) (hfd : ∃ fd, o.data = .func fd) (hfn : Z.H_0 f = none) (hff : f ∉ frs Z.outer) (hN : Z.N[i]? = some x) (hv : Vis Z.env.scope x) (hd : (x == ("__debug__" : Str)) = false) (hcd : (x == ("__classdict__" : Str)) = false) :
    PE Z (.Call (.Name x p1) [] [] p2) (lift C Wx (dAct i (onlyA f act))) :=
  (pe_actG hact hex hr hg tk hfo hfd hfn hff hN hv hd hcd).imD fun σ G Q q => by
    obtain ⟨R, ds, h, P, Zd, e, ⟨f', hf', ef, p⟩, k, z⟩ := q
    subst ef
    obtain ⟨v, hv, r⟩ := e.slot i _ hf'
    cases (show v = .ref f' from r)
    exact ⟨hv, R, h, _, Zd, e.ok, e.ex, p, fun R2 G2 h2 d v p2 x2 ok2 r2 => k R2 G2 h2 (.d d) v p2 x2 (e.step x2 ok2) r2, fun R2 G2 h2 y cls dd p2 x2 ok2 r2 => z R2 G2 h2 y cls dd p2 x2 (e.step x2 ok2) r2⟩
theorem de_noact {Z : Cx} {C : Cn} {Wx : WX} {e : Expr} {i : Nat} : PE Z e (lift C Wx (dAct i noA)) := ⟨fun pins s σ H Q I q => by
  obtain ⟨R, ds, h, P, Zd, e, ⟨f', hf', p⟩, k, z⟩ := q
  exact p.elim⟩
/-- a def that calls what it is handed -/
structure HoG (P : Program) (w : World) (K : Fg) (mg : Str → Option Value) (base : Heap) (gd : Bool) (k : Nat) (g : Addr) (fd : FuncData) (a : Str) (Cl : Cm) (sp : HFn) : Prop where
  run : ∀ (A : Around) (outer : List PySem.Env) (s : Shared) (H : Hp) (R : Rg) (h : Hs) (f : Addr) (o : Obj) (act : ActD) (Pd : D → Hs → Prop) (Zd : XD) (Q : VK) (E : XK), Room (k + 1) A → Gd gd A → Env0 P w K mg base A outer s H → BindsTo s fd ⟨[.ref f], []⟩ [(a, .ref f)] →
    s.heap.get? f = some o → (∃ fd', o.data = .func fd') → H f = none → f ∉ frs outer → ActOk P w K mg base gd k (frs outer) H s f (tlD K Cl R H act) → HOk' K Cl R H h → sp act h Pd Zd →
    (∀ R' H' h' d v, Pd d h' → Ex R H R' H' → HOk' K Cl R' H' h' → RelD K R' H' d v → Q v H') → (∀ R' H' h' x cls dd, Zd x h' → Ex R H R' H' → HOk' K Cl R' H' h' → RelX ⟨K, Cl, R, H⟩ R' H' x cls dd → E cls dd H') →
    codeAny (model P w) A (.call (.ref g) ⟨[.ref f], []⟩) (CR (CX K P w) outer P w H s Q E) s
def startF (n : Nat) (f : Addr) : DSt := some (.fn f) :: List.replicate (n - 1) none
theorem env_startF {K : Fg} {Cl : Cm} {R : Rg} {H : Hp} {h : Hs} {f : Addr} {N : List Str} (hN : 0 < N.length) (ok : HOk' K Cl R H h) : Env ⟨K, Cl, R, H⟩ R (startF N.length f) (start N [.ref f]) H h := by
  have sl : ∀ (i : Nat) w, (startF N.length f)[i]? = some (some w) → i = 0 ∧ w = .fn f := fun i w q => by
    unfold startF at q
    cases i with
    | zero => simp at q; exact ⟨rfl, q.symm⟩
    | succ i =>
      rw [List.getElem?_cons_succ, List.getElem?_replicate] at q
      split at q <;> cases q
  refine ⟨ok, Ex.refl _ _, by unfold startF L2.start; simp, fun i w q => ?_, fun i xs q => ?_, fun i j xs ys a q => ?_, fun i xs a q => ?_⟩
  · obtain ⟨rfl, rfl⟩ := sl i w q
    exact ⟨.ref f, by unfold L2.start; simp, rfl⟩
  · obtain ⟨_, z⟩ := sl i _ q; cases z
  · obtain ⟨_, z⟩ := sl i _ q; cases z
  · obtain ⟨_, z⟩ := sl i _ q; cases z
section
variable {C : Cn} {Wx : WX}
def dLam (sp : HFn) (tb : TDE) : TDE := fun ds h P Z => sp (fun h' P' Z' => dD tb ds h' P' Z') h (fun d h' => P (.d d) h') Z
theorem de_lam {x a : Str} {g c Pt : Addr} {k : Nat} {gd : Bool} {fd : FuncData} {sp : HFn} {params : Arguments} {body : Expr} {scope : Scope} {tb : TDE} {p lpos pos : Pos} (hK : C.K = X.K) (F : HoG X.prog X.w C.K X.mg X.base gd (k + 1) g fd a C.Cl sp) (hr : Room (k + 2) X.A) (hgd : Gd gd X.A) (tk : Takes X Wx) (hg : Gl X x) (hm : X.mg x = some (.ref g)) (hk : PySem.W.keepIn X.K (.ref g) = true)
    (hb : Binds X.K fd [a] []) (TB : LamX.TabB X.base X.mg c Pt) (hcode : X.env.code = .ref c) (hT : (Pt, X.env.qual ++ "<lambda>") ∈ C.Cl.T) (hu : ∀ p ∈ C.Cl.T, p.1 = Pt → p.2 = X.env.qual ++ "<lambda>") (L : LamX.LamS X.env.scope scope) (hdf : defaultsOf params X.env = ([], []))
    (hbd : ∀ (q : Str) (cl : List (Str × Addr)) (pm cv ctv : Value), bindArgs (PySem.W.kla_fn "<lambda>" q params body scope cl pm cv ctv) ⟨[], []⟩ = pure [])
    (hbody : ∀ (A : Around) (outer : List PySem.Env) (t : Shared) (G : Hp) (E : XK) (f c' : Addr), Room k (A.deeper (LamX.lamEnv X scope t.heap.objs.size f c')) → Gd gd A → PE (lamCxh X A outer t G E scope f c') body (lift C (fun cls d _ G => E cls d G) tb))
    (hdb : (x == ("__debug__" : Str)) = false) : PE X (.Call (.Name x p) [.Lambda params body scope lpos] [] pos) (lift C Wx (dLam sp tb)) := by
  refine ⟨fun pins s σ H Q I q => ?_⟩
  obtain ⟨R, ds, h, Pd, Zd, e, p, kk, z⟩ := q
  refine wpAny_Call_Name_kw (ld_glob I hg hm ?_ hdb)
  refine PySem.W.callWith_K (h₀ := X.base) I.ok.mod.kin hk ?_ (by rfl) (by rfl)
  show wpAny _ _ (spliced ((false, eval (.Lambda params body scope lpos) X.env) :: backTo pos (starEach [] X.env))) _ _ s
  refine Calls.spliced_cons (lam_mk I TB hcode hT hu e.ok.tab hdf (L.has I.ok) fun f c' pm ctv H1 s1 I1 eN dm T1 hf hfn hff hco => Calls.spliced_nil ⟨I1.kIn, ?_⟩)
  have x1 : Ex R H R H1 := ⟨Nat.le_refl _, fun _ _ => rfl, fun _ y => y, fun i a b => absurd b (by omega), fun _ y => .inl y, fun b o y _ n => eN b o y n, dm, fun b o u y => eN b _ y (fun _ => HO.noConfusion)⟩
  have ok1 : HOk' C.K C.Cl R H1 h := e.ok.ex x1 (fun i hi => by
    have hl : i < h.length := by rw [e.ok.len]; exact hi
    obtain ⟨u, hu, ro⟩ := e.ok.obj i h[i] (List.getElem?_eq_getElem hl)
    rw [hu]
    refine eN _ _ hu fun ps y => ?_
    subst y
    exact shr_of ro) T1
  have e1 : Env C R ds σ H1 h := e.step x1 ok1
  have oc : ∀ R' G, HOk' C.K C.Cl R' G h → True := fun _ _ _ => trivial
  have act := act_ok (gd := gd) (k := k) (c := c') I1 L hf hfn hff (hbd _ _ _ _ _) (tb := fun E => liftV C (fun cls d _ G => E cls d G) (dD tb)) (fun A outer t G E hr hg => pe_D (hbody A outer t G E f c' hr hg))
  have act2 : ActOk X.prog X.w X.K X.mg X.base gd (k + 1) (frs X.stack) H1 s1 f (tlD C.K C.Cl R H1 (fun h' P' Z' => dD tb ds h' P' Z')) := act.imp fun E G Q' y => by
    obtain ⟨R', h', Pd', Zd', ok', x', a', k1, k2⟩ := y
    have co : Out R c' := ok1.outT hco ⟨fun _ => HO.noConfusion, fun _ => HO.noConfusion, fun _ => HO.noConfusion, fun _ _ _ => HO.noConfusion, fun _ _ => HO.noConfusion⟩
    refine ⟨x'.frm c' _ hco co LamX.codeO_ne, R', ds, h', Pd', Zd', e1.step x' ok', a', fun R2 G2 h2 d v p2 x2 e2 r2 => k1 R2 G2 h2 d v p2 x2 e2.ok r2, fun R2 G2 h2 y cls dd p2 x2 e2 r2 => k2 R2 G2 h2 y cls dd p2 x2 e2.ok r2⟩
  have e0 := I1.env0
  rw [← hK] at e0 act2
  refine wpAny_call (codeAny_mono (F.run X.A X.stack s1 H1 R h f _ _ _ Zd Q (atS Wx σ) hr hgd e0 (hb s1 [.ref f] I1.kIn rfl) hf ⟨_, rfl⟩ hfn hff act2 ok1 p (fun R' H' h' d v p2 x2 ok2 r2 => kk R' H' h' (.d d) v p2 (x1.trans x2) (e1.step x2 ok2) r2) (fun R' H' h' y cls dd p2 x2 ok2 r2 => z R' H' h' y cls dd p2 (x1.trans x2) (e1.step x2 ok2) r2)) fun r s2 y => ?_)
  cases r with
  | error er => exact tk er s2 (XE.of_call I1 (fun _ _ _ h => h) (hK ▸ y))
  | ok fl =>
    cases fl with
    | ret u => exact I1.after y
    | next => exact y.elim
    | brk => exact y.elim
    | cont => exact y.elim
end
end
end DL
set_option maxHeartbeats 4000000
namespace DL
open PySem PySem.Spec PyProof.Rows L2
section
variable {κ : Type} [DecidableEq κ]
def valD (kvs : List (κ × D)) (k : κ) : Option D := (kvs.find? fun kv => decide (kv.1 = k)).map (·.2)
variable {K : Fg} {R : Rg} {H : Hp}
theorem relKd_val {k : κ} {d : D} : ∀ {kvs : List (κ × D)} {ks : List (κ × V)}, RelKd K R H kvs ks → valD kvs k = some d → ∃ v, valV ks k = some v ∧ RelD K R H d v
  | [], ks, r, e => by simp [valD] at e
  | (x, y) :: kvs, ks, r, e => by
    obtain ⟨v, q, rfl, r1, r2⟩ := r
    by_cases hx : x = k
    · have : some y = some d := by simpa [valD, List.find?_cons, hx] using e
      cases this
      exact ⟨v, valV_pos (p := (x, v)) hx, r1⟩
    · obtain ⟨u, e1, e2⟩ := relKd_val (k := k) (d := d) r2 (by simpa [valD, List.find?_cons, hx] using e)
      exact ⟨u, by rw [valV_neg (p := (x, v)) hx]; exact e1, e2⟩
theorem relKd_no {k : κ} : ∀ {kvs : List (κ × D)} {ks : List (κ × V)}, RelKd K R H kvs ks → valD kvs k = none → valV ks k = none
  | [], ks, r, e => by cases (show ks = [] from r); rfl
  | (x, y) :: kvs, ks, r, e => by
    obtain ⟨v, q, rfl, r1, r2⟩ := r
    by_cases hx : x = k
    · simp [valD, List.find?_cons, hx] at e
    · rw [valV_neg (p := (x, v)) hx]
      exact relKd_no r2 (by simpa [valD, List.find?_cons, hx] using e)
theorem relKd_len : ∀ {kvs : List (κ × D)} {ks : List (κ × V)}, RelKd K R H kvs ks → kvs.length = ks.length
  | [], ks, r => by cases (show ks = [] from r); rfl
  | (x, y) :: kvs, ks, r => by
    obtain ⟨v, q, rfl, r1, r2⟩ := r
    simp [relKd_len r2]
theorem relKd_zip : ∀ {ks : List κ} {xs : List D} {vs : List V}, RelDs K R H xs vs → RelKd K R H (ks.zip xs) (ks.zip vs)
  | [], xs, vs, r => by simp; rfl
  | k :: ks, [], vs, r => by cases r_nil r; simp; rfl
  | k :: ks, x :: xs, vs, r => by
    obtain ⟨v, q, rfl, r1, r2⟩ := r_cons r
    exact ⟨v, _, rfl, r1, relKd_zip r2⟩
theorem merge_new : ∀ (more acc : List (Key × V)), ((acc ++ more).map (·.1)).Nodup → mergeK acc more = acc ++ more
  | [], acc, _ => by simp [mergeK]
  | (k, v) :: more, acc, h => by
    have e : putK acc k v = acc ++ [(k, v)] := by
      unfold putK
      rw [if_neg]
      intro z
      obtain ⟨p, hp, e⟩ := List.any_eq_true.mp z
      rw [List.map_append, List.nodup_append] at h
      exact h.2.2 p.1 (List.mem_map.mpr ⟨p, hp, rfl⟩) k (by simp) (of_decide_eq_true e)
    show mergeK (putK acc k v) more = _
    rw [e, merge_new more (acc ++ [(k, v)]) (by simpa using h)]
    simp
end
section
variable {X : Cx} {C : Cn} {Wx : WX}
/-- a dict that stands apart becomes a shared one -/
theorem Env.haP {R : Rg} {ds : DSt} {σ : Sl} {H : Hp} {h : Hs} {p : Addr} {o : O} {u : HO} {k0 : List (Key × V)} (e : Env C R ds σ H h) (hp : H p = some (.dK k0)) (op : Out R p) (h0 : C.H₀ p = none) (r : RelO C.K C.Cl R H o u) :
    ∃ R', Env C R' ds σ (upd H p u) (h ++ [o]) ∧ (∀ R0 H0, Ex R0 H0 R H → H0 p = none → Ex R0 H0 R' (upd H p u)) ∧ R'.at_ h.length = p ∧ R'.n = h.length + 1 := by
  let R' : Rg := ⟨R.n + 1, fun i => if i = R.n then p else R.at_ i, R.fz⟩
  have hlt : ∀ i, i < R.n → R'.at_ i = R.at_ i := fun i hi => if_neg (Nat.ne_of_lt hi)
  have hat : R'.at_ R.n = p := if_pos rfl
  have ne : ∀ b v, H b = some v → (∀ k, v ≠ .dK k) → b ≠ p := fun b v q n z => by subst z; rw [hp] at q; cases q; exact n _ rfl
  have nfz : ¬ R.fz p := fun z => by obtain ⟨vs, q⟩ := e.ok.fzd p z; rw [hp] at q; cases q
  have x : ∀ R0 H0, Ex R0 H0 R H → H0 p = none → Ex R0 H0 R' (upd H p u) := fun R0 H0 x n0 => by
    refine ⟨Nat.le_succ_of_le x.le, fun i hi => by rw [hlt i (Nat.lt_of_lt_of_le hi x.le)]; exact x.at_ i hi, x.fz, fun i a b => ?_, x.nfz, fun b v q o1 n1 => ?_, fun b q => ?_, fun b o' u' q => by rw [upd_ne (fun y => by subst y; rw [n0] at q; cases q)]; exact x.lk b o' u' q⟩
    · have b' : i < R.n + 1 := b
      by_cases y : i = R.n
      · subst y; rw [hat]; exact n0
      · rw [hlt i (by omega)]; exact x.nat i a (by omega)
    · rw [upd_ne (fun y => by subst y; rw [n0] at q; cases q)]; exact x.frm b v q o1 n1
    · by_cases y : b = p
      · subst y; exact n0
      · rw [upd_ne y] at q; exact x.dom b q
  have m : Mo C.K R H R' (upd H p u) := by
    refine ⟨Nat.le_succ _, hlt, fun b us q => ?_, fun b us q => ⟨q.1, by rw [upd_ne (ne b _ q.2 fun _ => HO.noConfusion)]; exact q.2⟩, fun b us q => ?_, fun b o' u' q => by rw [upd_ne (ne b _ q fun _ => HO.noConfusion)]; exact q⟩
    · show upd H p u b = _
      rw [upd_ne (ne b _ q fun _ => HO.noConfusion)]; exact q
    · rcases q with ⟨o', q⟩ | q
      · exact .inl ⟨o', by rw [upd_ne (ne b _ q fun _ => HO.noConfusion)]; exact q⟩
      · exact .inr q
  refine ⟨R', ⟨⟨by show (h ++ [o]).length = R.n + 1; simp [e.ok.len], fun j o' hj => ?_, fun i j hi hj q => ?_, fun i hi z => ?_, fun b z => ?_, tabs_wr hp (fun _ => HO.noConfusion) (fun _ => HO.noConfusion) e.ok.tab⟩, x _ _ e.ex h0, e.len, fun j w q1 => ?_, e.nnew, e.own, e.own0⟩, x, by rw [e.ok.len]; exact hat, by rw [e.ok.len]⟩
  · by_cases hl : j < h.length
    · rw [List.getElem?_append_left hl] at hj
      obtain ⟨v, e2, r3⟩ := e.ok.obj j o' hj
      have hjl : j < R.n := by rw [← e.ok.len]; exact hl
      exact ⟨v, by rw [hlt j hjl, upd_ne (op j hjl)]; exact e2, relO_mo m r3⟩
    · have hb : j < (h ++ [o]).length := (List.getElem?_eq_some_iff.mp hj).1
      have ej : j = h.length := by simp at hb; omega
      subst ej
      simp at hj
      subst hj
      exact ⟨u, by rw [e.ok.len, hat]; exact upd_same, relO_mo m r⟩
  · have hi' : i < R.n + 1 := hi
    have hj' : j < R.n + 1 := hj
    by_cases a : i = R.n
    · by_cases b : j = R.n
      · omega
      · exfalso; rw [a, hat, hlt j (by omega)] at q; exact op j (by omega) q.symm
    · by_cases b : j = R.n
      · exfalso; rw [b, hat, hlt i (by omega)] at q; exact op i (by omega) q
      · rw [hlt i (by omega), hlt j (by omega)] at q; exact e.ok.inj i j (by omega) (by omega) q
  · have hi' : i < R.n + 1 := hi
    by_cases a : i = R.n
    · subst a; rw [hat] at z; exact nfz z
    · rw [hlt i (by omega)] at z; exact e.ok.nfz i (by omega) z
  · obtain ⟨vs, q⟩ := e.ok.fzd b z
    exact ⟨vs, by rw [upd_ne (ne b _ q fun _ => HO.noConfusion)]; exact q⟩
  · obtain ⟨v2, s2, r3⟩ := e.slot j w q1
    refine ⟨v2, s2, ?_⟩
    cases w with
    | d y => exact relD_mo m r3
    | new zs => exact absurd q1 (e.nnew j zs)
    | fn _ => exact r3
    | own zs =>
      obtain ⟨b, ws, ev2, q2, nf2, o2, t2⟩ := r3
      have hbp := ne b _ q2 fun _ => HO.noConfusion
      refine ⟨b, ws, ev2, by rw [upd_ne hbp]; exact q2, nf2, fun i hi z => ?_, relDs_mo m t2⟩
      have hi' : i < R.n + 1 := hi
      by_cases a : i = R.n
      · subst a; rw [hat] at z; exact hbp z.symm
      · rw [hlt i (by omega)] at z; exact o2 i (by omega) z
/-- {'a': x, ..}: a new shared dict -/
def dDic (ks : List Str) (ta : TDA) : TDE := fun ds h P Z => ta ds h (fun xs h1 => xs.length = ks.length ∧ P (.d (.ref h1.length)) (h1 ++ [.dic ((ks.map Sum.inr).zip xs)])) Z
theorem zip_fst {α β : Type} : ∀ {as : List α} {bs : List β}, bs.length = as.length → (as.zip bs).map (·.1) = as
  | [], bs, h => by simp
  | a :: as, [], h => by simp at h
  | a :: as, b :: bs, h => by simp at h; simp [zip_fst h]
theorem zip_key : ∀ {ks : List Str} {vs : List V}, (ks.map V.str).zip vs = (((ks.map Sum.inr : List Key)).zip vs).map fun kv => (kV kv.1, kv.2)
  | [], vs => by simp
  | k :: ks, [] => by simp
  | k :: ks, v :: vs => by simp [zip_key (ks := ks) (vs := vs), kV]
theorem de_dic {keys : List (Option Expr)} {values : List Expr} {trs : List (TE × TE)} {ks : List Str} {ta : TDA} {pos : Pos} (pp : PPs X pos keys values trs) (ht : ∀ σ H Q, liftA C Wx ta σ H (fun vs H' => Q ((ks.map V.str).zip vs) H') → tPairs trs σ H Q) (hall : keys.all (·.isSome) = true) (hl : keys.length = values.length) (h0 : keys ≠ []) (h15 : keys.length ≤ 15) (hk : ks.length ≤ 15) (nd : ks.Nodup) :
    PE X (.Dict keys values pos) (lift C Wx (dDic ks ta)) :=
  (pe_disp pp hall hl h0 h15).imD fun σ H Q q => by
    obtain ⟨R, ds, h, P, Z, e, p, k, z⟩ := q
    intro pp np
    have nf := e.ok.nfresh np
    refine ht σ (upd H pp (.dK [])) _ ⟨R, ds, h, _, Z, e.fresh (o := .dK []) np, p, fun R1 H1 h1 xs vs ⟨hx, p1⟩ x1 e1 r1 => ?_, fun R' H' h' x cls dd a b c d => z R' H' h' x cls dd a ((Ex.fresh (o := .dK []) np).trans b) c d⟩
    have hp1 : H1 pp = some (.dK []) := x1.frm pp _ upd_same nf.2 fun _ => HO.noConfusion
    have o1 : Out R1 pp := x1.out (o := .dK []) upd_same nf.2
    have hlen : vs.length = ks.length := by rw [← relDs_len r1]; exact hx
    refine ⟨hp1, (ks.map Sum.inr).zip vs, zip_key, by simp; omega, ?_⟩
    have nd2 : ((ks.map Sum.inr : List Key)).Nodup := by
      refine List.Pairwise.map _ (fun a b h z => h (Sum.inr.inj z)) nd
    show Q (.ref pp) (upd H1 pp (.dK (mergeK [] ((ks.map Sum.inr).zip vs))))
    rw [merge_new _ [] (by rw [List.nil_append, zip_fst (by simpa using hlen)]; exact nd2), List.nil_append]
    obtain ⟨R2, e2, x2, a2, n2⟩ := e1.haP (o := .dic ((ks.map Sum.inr).zip xs)) hp1 o1 (e.ex.dom pp np) ⟨_, rfl, relKd_zip r1⟩
    have x02 := x2 R H ((Ex.fresh (o := .dK []) np).trans x1) np
    have rr : ∀ G, RelD C.K R2 G (.ref h1.length) (.ref pp) := fun G => by
      unfold RelD
      exact ⟨by rw [n2]; omega, by rw [a2]⟩
    exact k R2 (upd H1 pp (.dK ((ks.map Sum.inr).zip vs))) _ (.d (.ref h1.length)) (.ref pp) p1 x02 e2 (rr (upd H1 pp (.dK ((ks.map Sum.inr).zip vs))))
end
end DL
set_option maxHeartbeats 4000000
namespace DL
open PySem PySem.Spec PyProof.Rows L2
theorem nostand : notAStandIn Value.none = pure () := by rfl
/-- parameters by place, no defaults -/
def posA : Arguments → Option (List Str)
  | ⟨[], as, none, [], [], none, []⟩ => if (as.map (·.arg)).Nodup then some (as.map (·.arg)) else none
  | _ => none
theorem posA_ok {p : Arguments} {ps : List Str} (h : posA p = some ps) : ∃ as : List Arg, p = ⟨[], as, none, [], [], none, []⟩ ∧ as.map (·.arg) = ps ∧ ps.Nodup := by
  unfold posA at h
  split at h
  · split at h
    · rename_i hn
      cases h
      exact ⟨_, rfl, rfl, hn⟩
    · cases h
  · cases h
theorem kwLoop {f : Str × Value → List (Str × Value) × List (Str × Value) → Sem (ForInStep (List (Str × Value) × List (Str × Value)))} : ∀ (kw sl : List (Str × Value)), (∀ kv ∈ kw, ∀ sl, (List.lookup kv.1 sl).isSome = false → f kv (sl, []) = pure (.yield (sl ++ [kv], []))) →
    ((sl ++ kw).map (·.1)).Nodup → forIn kw (sl, []) f = pure (sl ++ kw, [])
  | [], sl, _, _ => by simp
  | kv :: kw, sl, hf, hn => by
    have nl : (List.lookup kv.1 sl).isSome = false := by
      cases h : List.lookup kv.1 sl with
      | none => rfl
      | some u =>
        exfalso
        rw [List.map_append, List.nodup_append] at hn
        exact hn.2.2 kv.1 (List.mem_map.mpr ⟨_, PySem.mem_of_lookup h, rfl⟩) kv.1 (by simp) rfl
    rw [List.forIn_cons, hf kv (by simp) sl nl, pure_bind]
    show forIn kw (sl ++ [kv], []) f = _
    rw [kwLoop kw (sl ++ [kv]) (fun y hy => hf y (List.mem_cons_of_mem _ hy)) (by simpa using hn)]
    simp
theorem look_zip {α : Type} : ∀ {ns : List Str} {us : List α} {i : Nat} {n : Str} {u : α}, ns.Nodup → ns[i]? = some n → us[i]? = some u → (ns.zip us).lookup n = some u
  | [], us, i, n, u, _, h, _ => by simp at h
  | m :: ns, [], i, n, u, _, _, h => by simp at h
  | m :: ns, v :: us, 0, n, u, _, h1, h2 => by
    simp at h1 h2
    subst h1 h2
    simp [List.lookup]
  | m :: ns, v :: us, i + 1, n, u, hn, h1, h2 => by
    have hm : n ≠ m := fun z => by
      subst z
      rw [List.nodup_cons] at hn
      exact hn.1 (List.mem_of_getElem? (by simpa using h1))
    have hb : (n == m) = false := by simpa using hm
    rw [List.zip_cons_cons, List.lookup_cons, hb]
    exact look_zip (List.nodup_cons.mp hn).2 (by simpa using h1) (by simpa using h2)
/-- by place and by name: names as written, where each parameter's value stands -/
def kwB (ps : List Str) (np : Nat) (ks : List Str) (pi : List Nat) : Bool := decide (np + ks.length = ps.length) && decide ((ps.take np ++ ks).Nodup) && decide (pi.map (fun i => (ps.take np ++ ks)[i]?) = ps.map some) && (ks.all fun k => ps.contains k)
def pick {α : Type} (pi : List Nat) (xs : List α) : List α := pi.filterMap fun i => xs[i]?
theorem pick_zip {ns : List Str} {vs : List Value} (hn : ns.Nodup) (hl : ns.length = vs.length) : ∀ {pi : List Nat} {ps : List Str}, pi.map (fun i => ns[i]?) = ps.map some → (ps.filterMap fun n => ((ns.zip vs).lookup n).map (n, ·)) = ps.zip (pick pi vs) ∧ (∀ n ∈ ps, ((ns.zip vs).lookup n).isSome = true) ∧ (pick pi vs).length = ps.length
  | [], [], _ => ⟨rfl, fun _ h => (by simp at h), rfl⟩
  | [], _ :: _, h => by simp at h
  | _ :: _, [], h => by simp at h
  | i :: pi, p :: ps, h => by
    simp only [List.map_cons, List.cons.injEq] at h
    have hi : i < ns.length := (List.getElem?_eq_some_iff.mp h.1).1
    have hv : vs[i]? = some (vs[i]'(by omega)) := List.getElem?_eq_getElem (by omega)
    have lk := look_zip hn h.1 hv
    obtain ⟨a, b, c⟩ := pick_zip hn hl h.2
    refine ⟨?_, ?_, ?_⟩
    · rw [List.filterMap_cons, lk]
      simp only [Option.map_some, pick, List.filterMap_cons, hv]
      rw [a]; rfl
    · intro n hn'
      rcases List.mem_cons.mp hn' with rfl | hn'
      · rw [lk]; rfl
      · exact b n hn'
    · simp only [pick, List.filterMap_cons, hv, List.length_cons]
      rw [show (List.filterMap (fun i => vs[i]?) pi).length = ps.length from c]
theorem zip_take {α β : Type} : ∀ {ps : List α} {us : List β}, ps.zip us = (ps.take us.length).zip us
  | [], us => by simp
  | p :: ps, [] => by simp
  | p :: ps, u :: us => by simp [zip_take (ps := ps) (us := us)]
theorem bind_kw {fd : FuncData} {ps ks : List Str} {pi : List Nat} {us ws : List Value} (h : posA fd.params = some ps) (hd : fd.defaults = .none) (hk : kwB ps us.length ks pi = true) (hw : ws.length = ks.length) : bindArgs fd ⟨us, ks.zip ws⟩ = pure (ps.zip (pick pi (us ++ ws))) := by
  obtain ⟨as, hp, rfl, hnd⟩ := posA_ok h
  unfold kwB at hk
  simp only [Bool.and_eq_true, decide_eq_true_eq, List.all_eq_true] at hk
  obtain ⟨⟨⟨k1, k2⟩, k3⟩, k4⟩ := hk
  generalize hns : as.map (·.arg) = ns at *
  have eL : ns.zip us ++ ks.zip ws = (ns.take us.length ++ ks).zip (us ++ ws) := by
    rw [zip_take, List.zip_append (by rw [List.length_take]; omega)]
  have fsts : ((ns.zip us ++ ks.zip ws).map (·.1)) = ns.take us.length ++ ks := by
    rw [eL, zip_fst (by simp; omega)]
  obtain ⟨q1, q2, q3⟩ := pick_zip (ns := ns.take us.length ++ ks) (vs := us ++ ws) k2 (by simp; omega) k3
  rw [← eL] at q1 q2
  have miss : ns.filter (fun n => ((ns.zip us ++ ks.zip ws).lookup n).isNone) = [] := by
    rw [List.filter_eq_nil_iff]
    intro n hn
    have := q2 n hn
    cases hh : (ns.zip us ++ ks.zip ws).lookup n with
    | none => rw [hh] at this; cases this
    | some _ => simp
  unfold bindArgs
  simp only [hp, hd, hns]
  have hgt : ¬ us.length > ns.length := by omega
  simp only [List.map_nil, List.nil_append, List.append_nil, seqItems?, pure_bind, nostand, Option.getD, List.length_nil, List.drop_nil, Nat.sub_zero, List.take_length,  List.drop_length, List.zip_nil_right, List.isEmpty_nil, Nat.zero_sub, List.forIn_nil]
  rw [kwLoop (ks.zip ws) (ns.zip us) (fun kv hkv sl hsl => ?_) (by rw [fsts]; exact k2)]
  · simp only [pure_bind, miss]
    simp [hgt, q1]
  · have : kv.1 ∈ ns := by simpa using k4 kv.1 (List.of_mem_zip hkv).1
    simp [this, hsl]
/-- how a call by place and by name binds -/
def BK (fd : FuncData) (ps : List Str) : Prop := ∀ (ks : List Str) (pi : List Nat) (us ws : List Value), kwB ps us.length ks pi = true → ws.length = ks.length → bindArgs fd ⟨us, ks.zip ws⟩ = pure (ps.zip (pick pi (us ++ ws)))
theorem relDs_pick {K : Fg} {R : Rg} {H : Hp} {xs : List D} {vs : List V} (r : RelDs K R H xs vs) : ∀ (pi : List Nat), RelDs K R H (pick pi xs) (pick pi vs)
  | [] => m_nil
  | i :: pi => by
    unfold pick
    rw [List.filterMap_cons, List.filterMap_cons]
    by_cases hi : i < xs.length
    · obtain ⟨v, e, rv⟩ := relDs_get r (List.getElem?_eq_getElem hi)
      rw [e, List.getElem?_eq_getElem hi]
      exact m_cons rv (relDs_pick r pi)
    · rw [List.getElem?_eq_none (by omega), List.getElem?_eq_none (by rw [← relDs_len r]; omega)]
      exact relDs_pick r pi
theorem vals_get : ∀ {vs : List V} {us : List Value} {i : Nat}, Vals vs us → (∀ v, vs[i]? = some v → ∃ u, us[i]? = some u ∧ RelV v u) ∧ (vs[i]? = none → us[i]? = none)
  | [], _, i, .nil => ⟨fun v h => by simp at h, fun _ => by simp⟩
  | v :: vs, u :: us, 0, .cons r t => ⟨fun w h => by simp at h; subst h; exact ⟨u, by simp, r⟩, fun h => by simp at h⟩
  | v :: vs, u :: us, i + 1, .cons r t => by
    obtain ⟨a, b⟩ := vals_get (i := i) t
    exact ⟨fun w h => by obtain ⟨x, e1, e2⟩ := a w (by simpa using h); exact ⟨x, by simpa using e1, e2⟩, fun h => by simpa using b (by simpa using h)⟩
theorem vals_pick {vs : List V} {us : List Value} (r : Vals vs us) : ∀ (pi : List Nat), Vals (pick pi vs) (pick pi us)
  | [] => .nil
  | i :: pi => by
    unfold pick
    rw [List.filterMap_cons, List.filterMap_cons]
    cases h : vs[i]? with
    | some v =>
      obtain ⟨u, e, ru⟩ := (vals_get r).1 v h
      rw [e]
      exact .cons ru (vals_pick r pi)
    | none =>
      rw [(vals_get r).2 h]
      exact vals_pick r pi
section
variable {X : Cx} {C : Cn} {Wx : WX}
theorem pk_consD {nm : Option Str} {kpos : Pos} {e : Expr} {kws : List Keyword} {t : TDE} {u : TDA} (he : PE X e (lift C Wx t)) (hr : PK X kws (liftA C Wx u)) : PK X (⟨nm, e, kpos⟩ :: kws) (liftA C Wx (dCons t u)) := by
  refine ⟨fun pos pins s σ H Q I q => (pk_cons (pe_D he) hr).run pos pins s σ H Q I ?_⟩
  obtain ⟨R, ds, h, P, Z, e, p, k, z⟩ := q
  refine ⟨R, ds, h, _, Z, e, p, fun R1 H1 h1 d v p1 x1 e1 r1 => ?_, z⟩
  exact ⟨R1, ds, h1, _, Z, e1, p1, fun R2 H2 h2 xs vs p2 x2 e2 r2 => k R2 H2 h2 (d :: xs) (v :: vs) p2 (x1.trans x2) e2 (m_cons (relD_ex e1.ok x2 r1) r2), fun R' H' h' x cls dd a b c d => z R' H' h' x cls dd a (x1.trans b) c d⟩
theorem pk_nilD : PK X [] (liftA C Wx dNil) := ⟨fun pos pins s σ H Q I q => pk_nil.run pos pins s σ H Q I (by
  obtain ⟨R, ds, h, P, Z, e, p, k, z⟩ := q
  exact k R H h _ _ p (Ex.refl _ _) e m_nil)⟩
theorem kw_all {kws : List Keyword} {ks : List Str} {env : PySem.Env} {pos : Pos} : kws.map (·.arg) = ks.map some → (backToKw pos (keywordEach kws env)).all (·.1.isSome) = true ∧ (backToKw pos (keywordEach kws env)).filterMap (·.1) = ks ∧ (backToKw pos (keywordEach kws env)).any (·.1.isNone) = false := by
  induction kws generalizing ks with
  | nil => intro h; cases ks with
    | nil => exact ⟨rfl, rfl, rfl⟩
    | cons k ks => simp at h
  | cons kw kws ih =>
    intro h
    cases ks with
    | nil => simp at h
    | cons k ks =>
      obtain ⟨nm, e, kp⟩ := kw
      simp only [List.map_cons, List.cons.injEq] at h
      obtain ⟨h1, h2⟩ := h
      subst h1
      obtain ⟨a, b, c⟩ := ih h2
      unfold backToKw at a b c ⊢
      simp only [keywordEach, List.map_cons, List.all_cons, List.any_cons, List.filterMap_cons, a, b, c]
      exact ⟨by first | trivial | rfl, by first | trivial | rfl, by first | trivial | rfl⟩
end
end DL
set_option maxHeartbeats 4000000
namespace DL
open PySem PySem.Spec PySem.W PyProof.Rows L2
/-- parameters by place, then such by name alone -/
def koA : Arguments → Option (List Str × Nat)
  | ⟨[], as, none, kas, _, none, []⟩ => if (as.map (·.arg) ++ kas.map (·.arg)).Nodup then some (as.map (·.arg) ++ kas.map (·.arg), as.length) else none
  | _ => none
theorem koA_ok {p : Arguments} {ps : List Str} {np : Nat} (h : koA p = some (ps, np)) : ∃ (as kas : List Arg) (kd : List (Option Expr)), p = ⟨[], as, none, kas, kd, none, []⟩ ∧ as.map (·.arg) ++ kas.map (·.arg) = ps ∧ as.length = np ∧ ps.Nodup := by
  unfold koA at h
  split at h
  · split at h
    · rename_i hn
      cases h
      exact ⟨_, _, _, rfl, rfl, rfl, hn⟩
    · cases h
  · cases h
theorem zip_map_self {dv : Str → Value} : ∀ l : List Str, l.map (fun n => (n, dv n)) = l.zip (l.map dv)
  | [] => rfl
  | a :: l => by simp [zip_map_self l]
theorem koLoop {M : Model} {h : Heap} {σ : Type} (mk : List (Str × Value) → σ) (dv : Str → Value) {f : Str → σ → Sem (ForInStep σ)} : ∀ (kwn : List Str) (sl : List (Str × Value)), (∀ n ∈ kwn, ∀ sl, (List.lookup n sl).isSome = true → f n (mk sl) = pure (.yield (mk sl))) →
    (∀ n ∈ kwn, (List.lookup n sl).isSome = false → ∀ sl', (List.lookup n sl').isSome = false → Looks M h (f n (mk sl')) (.yield (mk (sl' ++ [(n, dv n)])))) → kwn.Nodup →
    Looks M h (forIn kwn (mk sl) f) (mk (sl ++ (kwn.filter fun n => (List.lookup n sl).isNone).map fun n => (n, dv n)))
  | [], sl, _, _, _ => by simpa using Looks.of_pure rfl
  | n :: kwn, sl, h1, h2, nd => by
    rw [List.nodup_cons] at nd
    rw [List.forIn_cons]
    cases hl : List.lookup n sl with
    | some v =>
      have e := h1 n (by simp) sl (by rw [hl] <;> rfl)
      rw [e, pure_bind]
      have := koLoop mk dv kwn sl (fun m hm => h1 m (by simp [hm])) (fun m hm => h2 m (by simp [hm])) nd.2
      simpa [hl] using this
    | none =>
      have e := h2 n (by simp) (by rw [hl] <;> rfl) sl (by rw [hl] <;> rfl)
      refine e.andThen ?_
      show Looks M h (forIn kwn (mk (sl ++ [(n, dv n)])) f) _
      have lk : ∀ m ∈ kwn, List.lookup m (sl ++ [(n, dv n)]) = List.lookup m sl := fun m hm => by
        have ne : ¬ m = n := fun z => nd.1 (by rw [← z]; exact hm)
        rw [List.lookup_append]
        have hb : (m == n) = false := by simpa using ne
        cases hz : List.lookup m sl <;> simp [List.lookup, hb]
      have := koLoop mk dv kwn (sl ++ [(n, dv n)]) (fun m hm => h1 m (by simp [hm])) (fun m hm hz => h2 m (by simp [hm]) (by rw [← lk m hm]; exact hz)) nd.2
      have ef : (kwn.filter fun m => (List.lookup m (sl ++ [(n, dv n)])).isNone) = kwn.filter fun m => (List.lookup m sl).isNone := List.filter_congr fun m hm => by rw [lk m hm]
      rw [ef] at this
      simpa [hl, List.append_assoc] using this
/-- by place and by name; dk: the names whose defaults stand in -/
def koB (ps : List Str) (np : Nat) (ks dk : List Str) (pi : List Nat) : Bool := decide (np ≤ ps.length) && decide ((ps.take np ++ ks ++ dk).Nodup) && decide (pi.map (fun i => (ps.take np ++ ks ++ dk)[i]?) = ps.map some) && (ks.all fun k => ps.contains k) && decide (dk = (ps.drop np).filter fun n => !ks.contains n)
theorem bind_ko {M : Model} {h : Heap} {fd : FuncData} {ps ks dk : List Str} {np : Nat} {pi : List Nat} {us ws : List Value} {D : Addr} (dv : Str → Value) (hp : koA fd.params = some (ps, np)) (hd : fd.defaults = .none) (hkd : dk ≠ [] → fd.kwdefaults = .ref D) (hu : us.length = np) (hw : ws.length = ks.length)
    (hns : ∀ n ∈ dk, Looks M h (nsGet D n) (some (dv n))) (hk : koB ps np ks dk pi = true) : Looks M h (bindArgs fd ⟨us, ks.zip ws⟩) (ps.zip (pick pi (us ++ ws ++ dk.map dv))) := by
  obtain ⟨as, kas, kd, ep, rfl, hl, hnd⟩ := koA_ok hp
  clear hp
  unfold koB at hk
  simp only [Bool.and_eq_true, decide_eq_true_eq, List.all_eq_true] at hk
  obtain ⟨⟨⟨⟨k0, k1⟩, k2⟩, k3⟩, k4⟩ := hk
  have tk : (as.map (·.arg) ++ kas.map (·.arg)).take np = as.map (·.arg) := by rw [List.take_append_of_le_length (by simp [hl]), List.take_of_length_le (by simp [hl])]
  have dr : (as.map (·.arg) ++ kas.map (·.arg)).drop np = kas.map (·.arg) := by rw [List.drop_append_of_le_length (by simp [hl]), List.drop_of_length_le (by simp [hl]), List.nil_append]
  rw [tk] at k1 k2
  rw [dr] at k4
  have la : (as.map (·.arg)).length = us.length := by simp [hl, hu]
  generalize hns1 : as.map (·.arg) = ns at *
  generalize hns2 : kas.map (·.arg) = kn at *
  have eL : ns.zip us ++ ks.zip ws = (ns ++ ks).zip (us ++ ws) := by rw [List.zip_append la]
  have ll : (ns ++ ks).length = (us ++ ws).length := by rw [List.length_append, List.length_append]; omega
  have fsts : ((ns.zip us ++ ks.zip ws).map (·.1)) = ns ++ ks := by rw [eL, zip_fst (by rw [ll] <;> exact Nat.le_refl _)]
  have k1' : (ns ++ ks).Nodup := (List.nodup_append.mp k1).1
  have eA : ns.zip us ++ ks.zip ws ++ dk.map (fun n => (n, dv n)) = (ns ++ ks ++ dk).zip (us ++ ws ++ dk.map dv) := by
    rw [eL, List.zip_append ll, zip_map_self]
  obtain ⟨q1, q2, q3⟩ := pick_zip (ns := ns ++ ks ++ dk) (vs := us ++ ws ++ dk.map dv) k1 (by rw [List.length_append, ll, List.length_append (as := us ++ ws), List.length_map]) k2
  rw [← eA] at q1 q2
  -- which of the names by name alone have no value yet
  have lookN : ∀ n ∈ kn, ((ns.zip us ++ ks.zip ws).lookup n).isNone = !ks.contains n := fun n hn => by
    have n1 : n ∉ ns := fun z => (List.nodup_append.mp hnd).2.2 n z n hn rfl
    by_cases hk : n ∈ ks
    · have : ((ns.zip us ++ ks.zip ws).lookup n).isSome = true := by
        rw [eL]
        have hm : n ∈ ns ++ ks := List.mem_append_right _ hk
        obtain ⟨i, hi, e⟩ := List.getElem_of_mem hm
        have hv : (us ++ ws)[i]? = some ((us ++ ws)[i]'(by simp at hi ⊢; omega)) := List.getElem?_eq_getElem _
        rw [look_zip k1' (List.getElem?_eq_some_iff.mpr ⟨hi, e⟩) hv] <;> rfl
      have c : ks.contains n = true := by simpa using hk
      rw [c]
      cases hh : (ns.zip us ++ ks.zip ws).lookup n with
      | none => rw [hh] at this; cases this
      | some _ => rfl
    · have c : ks.contains n = false := by simpa using hk
      rw [c]
      cases hh : (ns.zip us ++ ks.zip ws).lookup n with
      | none => rfl
      | some v =>
        exfalso
        have : n ∈ (ns.zip us ++ ks.zip ws).map (·.1) := List.mem_map.mpr ⟨_, PySem.mem_of_lookup hh, rfl⟩
        rw [fsts] at this
        rcases List.mem_append.mp this with z | z
        · exact n1 z
        · exact hk z
  have filt : (kn.filter fun n => (List.lookup n (ns.zip us ++ ks.zip ws)).isNone) = dk := by
    rw [k4]
    exact List.filter_congr fun n hn => lookN n hn
  have miss : ns.filter (fun n => ((ns.zip us ++ ks.zip ws).lookup n).isNone) = [] := by
    rw [List.filter_eq_nil_iff]
    intro n hn
    obtain ⟨i, hi, e⟩ := List.getElem_of_mem hn
    have hv : us[i]? = some (us[i]'(by omega)) := List.getElem?_eq_getElem _
    have := look_zip (List.nodup_append.mp k1').1 (List.getElem?_eq_some_iff.mpr ⟨hi, e⟩) hv
    have h2 : (ns.zip us ++ ks.zip ws).lookup n = some (us[i]'(by omega)) := by rw [List.lookup_append, this] <;> rfl
    rw [h2]
    simp
  have hgt : ¬ us.length > ns.length := by omega
  unfold bindArgs
  simp only [ep, hd, hns1, hns2]
  simp only [List.map_nil, List.nil_append, List.append_nil, seqItems?, pure_bind, nostand, Option.getD, List.length_nil, List.drop_nil, Nat.sub_zero, List.take_length, List.drop_length, List.zip_nil_right, List.isEmpty_nil, Nat.zero_sub, List.forIn_nil]
  rw [kwLoop (ks.zip ws) (ns.zip us) (fun kv hkv sl hsl => ?_) (by rw [fsts]; exact k1')]
  · simp only [pure_bind, miss]
    simp only [hgt, decide_false, Bool.false_and, Bool.false_eq_true, if_false, List.isEmpty_nil, Bool.not_true, pure_bind]
    have hv : ∀ n ∈ dk, fd.kwdefaults = .ref D := fun n hn => hkd (fun z => by rw [z] at hn; cases hn)
    refine Looks.andThen (koLoop (fun sl => (sl, ([] : List Str))) dv kn (ns.zip us ++ ks.zip ws) (fun n hn sl hz => ?_) (fun n hn hz sl hz2 => ?_) (List.nodup_append.mp hnd).2.1) ?_
    · cases hh : List.lookup n sl with
      | none => rw [hh] at hz; cases hz
      | some v => simp [hh]
    · have nd : n ∈ dk := by
        rw [← filt]
        refine List.mem_filter.mpr ⟨hn, ?_⟩
        cases hh : List.lookup n (ns.zip us ++ ks.zip ws) with
        | none => rfl
        | some v => rw [hh] at hz; cases hz
      have hno : List.lookup n sl = none := by
        cases hh : List.lookup n sl with
        | none => rfl
        | some v => rw [hh] at hz2; cases hz2
      simp only [hno, hv n nd, Option.isNone_none, if_true]
      exact (hns n nd).andThen (Looks.of_pure rfl)
    · rw [filt]
      refine Looks.of_pure ?_
      simp only [List.isEmpty_nil, Bool.not_true, Bool.false_eq_true, if_false]
      rw [q1]
  · have : kv.1 ∈ ns ++ kn := by simpa using k3 kv.1 (List.of_mem_zip hkv).1
    rcases List.mem_append.mp this with z | z <;> simp [z, hsl]
inductive Kq where
  | non
  | bl (b : Bool)
  | int (i : Int)
  | str (x : Str)
def Kq.d : Kq → D
  | .non => .non
  | .bl b => .bl b
  | .int i => .int i
  | .str x => .str x
def Kq.v : Kq → V
  | .non => .non
  | .bl b => .bl b
  | .int i => .int i
  | .str x => .str x
def Kq.dv : Kq → He.Dv
  | .non => .non
  | .bl b => .bl b
  | .int i => .int i
  | .str x => .str x
def Kq.same : Kq → Kq → Bool
  | .non, .non => true
  | .bl a, .bl b => a == b
  | .int a, .int b => decide (a = b)
  | .str a, .str b => decide (a = b)
  | _, _ => false
theorem Kq.same_eq {a b : Kq} (h : a.same b = true) : a = b := by
  cases a <;> cases b <;> simp [Kq.same] at h <;> first | rfl | (subst h; rfl)
theorem Kq.dv_v (K : Fg) (k : Kq) : k.dv.v K = k.v := by cases k <;> rfl
theorem Kq.rel {C : Fg} {R : Rg} {H : Hp} (k : Kq) : RelD C R H k.d k.v := by
  cases k
  · exact m_non
  · exact m_bl
  · exact m_int
  · exact m_str
/-- how a call binds where parameters stand by name alone -/
def KoB (K : Fg) (fd : FuncData) (ps : List Str) (np : Nat) (dfl : List (Str × Kq)) : Prop :=
  ∃ dv : Str → Value, (∀ p ∈ dfl, RelV p.2.v (dv p.1)) ∧ ∀ (ks : List Str) (pi : List Nat) (s : Shared) (us ws : List Value), K.In s.heap → us.length = np → ws.length = ks.length →
    koB ps np ks ((dfl.filter fun p => !ks.contains p.1).map (·.1)) pi = true → BindsTo s fd ⟨us, ks.zip ws⟩ (ps.zip (pick pi (us ++ ws ++ ((dfl.filter fun p => !ks.contains p.1).map (·.1)).map dv)))
theorem koB_of {K : Fg} {x qual : Str} {params : Arguments} {body : List Stmt} {scope : Scope} {kws : List (Str × V)} {f : Addr} {fd : FuncData} {ps : List Str} {np : Nat} {dfl : List (Str × Kq)} (Fu : FunD K x qual params body scope [] kws f fd) (hp : koA params = some (ps, np)) (hn : (dfl.map (·.1)).Nodup) (hk : ∀ p ∈ dfl, (p.1, p.2.v) ∈ kws) : KoB K fd ps np dfl := by
  obtain ⟨oc, od, dV, kV, doc, pm, an, cdv, ct, osl, rfl, lk, hcd, hdv, hkw⟩ := Fu.ex
  have hd : dV = .none := by
    rcases hdv with ⟨_, z⟩ | ⟨z, _⟩
    · exact z
    · exact absurd rfl z
  subst hd
  by_cases h0 : dfl = []
  · subst h0
    refine ⟨fun _ => .none, fun p h => by simp at h, fun ks pi s us ws X hu hw hb => ?_⟩
    exact BindsTo.of_looks fun M => bind_ko (fd := PySem.W.fnOf x qual params body scope .none kV doc pm an cdv ct) (D := 0) (fun _ => .none) hp rfl (fun z => absurd rfl z) hu hw (fun n h => by simp at h) hb
  · have hkne : kws ≠ [] := fun z => by
      obtain ⟨p, l, e⟩ := List.exists_cons_of_ne_nil h0
      have := hk p (by rw [e]; exact List.mem_cons_self)
      rw [z] at this; cases this
    rcases hkw with e | ⟨D, rfl, hq⟩
    · exact absurd e hkne
    · have ex : ∀ p ∈ dfl, ∃ u, PySem.W.nsIn K D p.1 = some (some u) ∧ RelV p.2.v u := fun p hpm => hq (p.1, p.2.v) (hk p hpm)
      let dv : Str → Value := fun n => match PySem.W.nsIn K D n with
        | some (some u) => u
        | _ => .none
      have dvp : ∀ p ∈ dfl, PySem.W.nsIn K D p.1 = some (some (dv p.1)) ∧ RelV p.2.v (dv p.1) := fun p hpm => by
        obtain ⟨u, e, r⟩ := ex p hpm
        have : dv p.1 = u := by show (match PySem.W.nsIn K D p.1 with | some (some u) => u | _ => .none) = u; rw [e]
        rw [this]; exact ⟨e, r⟩
      refine ⟨dv, fun p hpm => (dvp p hpm).2, fun ks pi s us ws X hu hw hb => ?_⟩
      refine BindsTo.of_looks fun M => bind_ko (fd := PySem.W.fnOf x qual params body scope .none (.ref D) doc pm an cdv ct) (D := D) dv hp rfl (fun _ => rfl) hu hw (fun n h => ?_) hb
      obtain ⟨p, hpf, rfl⟩ := List.mem_map.mp h
      exact PySem.W.looks_nsIn X (dvp p (List.mem_filter.mp hpf).1).1
theorem kq_rels {C : Fg} {R : Rg} {H : Hp} : ∀ {l : List (Str × Kq)}, RelDs C R H (l.map fun p => p.2.d) (l.map fun p => p.2.v)
  | [] => m_nil
  | p :: l => m_cons p.2.rel kq_rels
theorem kq_vals {dv : Str → Value} : ∀ {l : List (Str × Kq)}, (∀ p ∈ l, RelV p.2.v (dv p.1)) → Vals (l.map fun p => p.2.v) ((l.map (·.1)).map dv)
  | [], _ => .nil
  | p :: l, h => .cons (h p (List.mem_cons_self)) (kq_vals fun q hq => h q (List.mem_cons_of_mem _ hq))
section
variable {X : Cx} {C : Cn} {Wx : WX}
def dCallO (n np nk : Nat) (pi : List Nat) (dfs : List D) (f : FnD) (t u : TDA) : TDE := fun ds h P Z => t ds h (fun xs h1 => xs.length = np ∧ u ds h1 (fun ys h2 => ys.length = nk ∧ (pick pi (xs ++ ys ++ dfs)).length = n ∧ f (pick pi (xs ++ ys ++ dfs)) h2 (fun d h3 => P (.d d) h3) Z) Z) Z
theorem run_callO {gd : Bool} {k : Nat} {fa : Addr} {fd : FuncData} {ps ks : List Str} {pi : List Nat} {f : FnD} {pins : List (Addr × Obj)} {s2 : Shared} {σ : Sl} {H2 : Hp} {Q : VK} {us ws zv : List Value} {vs zs : List V} (F : FnG X.prog X.w X.K X.mg X.base gd k fa fd ps (liftF C.K C.Cl ps.length f)) (hr : Room k X.A) (hgd : Gd gd X.A) (tk : Takes X Wx)
    (I : Inv X pins σ H2 s2) (hb : BindsTo s2 fd ⟨us, ks.zip ws⟩ (ps.zip (pick pi (us ++ ws ++ zv)))) {dz : List V} (r : Vals vs us) (rz : Vals zs ws) (rd : Vals dz zv) (q : liftF C.K C.Cl ps.length f (pick pi (vs ++ zs ++ dz)) H2 Q (atS Wx σ)) :
    wpAny (model X.prog X.w) X.A (call (.ref fa) us (ks.zip ws)) (EP X pins σ Q) X.xe s2 := by
  refine wpAny_call (codeAny_mono (run_fnG F hr hgd tk I hb (vals_pick ((r.append rz).append rd) pi) q) fun res s' z => ?_)
  cases res with
  | error e => exact z
  | ok fl =>
    cases fl with
    | ret u => exact z
    | next => exact z.elim
    | brk => exact z.elim
    | cont => exact z.elim
theorem de_callO {x : Str} {p pos : Pos} {ls : List Expr} {kws : List Keyword} {t u : TDA} {f : FnD} {gd : Bool} {k : Nat} {fa : Addr} {fd : FuncData} {ps ks : List Str} {pi : List Nat} {dfl : List (Str × Kq)} (hK : C.K = X.K) (F : FnG X.prog X.w X.K X.mg X.base gd k fa fd ps (liftF C.K C.Cl ps.length f)) (hr : Room k X.A) (hgd : Gd gd X.A) (tk : Takes X Wx) (hg : Gl X x) (hm : X.mg x = some (.ref fa)) (hk : PySem.W.keepIn X.K (.ref fa) = true)
    (bk : KoB X.K fd ps ls.length dfl) (ha : PA X ls (liftA C Wx t)) (hkw : PK X kws (liftA C Wx u)) (hb : koB ps ls.length ks ((dfl.filter fun p => !ks.contains p.1).map (·.1)) pi = true) (hks : kws.map (·.arg) = ks.map some) (hdb : (x == ("__debug__" : Str)) = false) (hst : ls = [] ∨ ∃ e es, ls = e :: es ∧ starEach (e :: es) X.env = (false, eval e X.env) :: starEach es X.env) (hpl : (backTo pos (starEach ls X.env)).any (·.1) = false) (h0 : ls = [] → ∀ ds h Z (P : List D → Hs → Prop), t ds h P Z → P [] h) :
    PE X (.Call (.Name x p) ls kws pos) (lift C Wx (dCallO ps.length ls.length ks.length pi ((dfl.filter fun p => !ks.contains p.1).map fun p => p.2.d) f t u)) := by
  obtain ⟨dv, hdv, bk⟩ := bk
  generalize hfl : (dfl.filter fun p => !ks.contains p.1) = fl at hb
  have hdv' : ∀ p ∈ fl, RelV p.2.v (dv p.1) := fun p hp => hdv p (by rw [← hfl] at hp; exact (List.mem_filter.mp hp).1)
  refine ⟨fun pins s σ H Q I q => ?_⟩
  obtain ⟨R, ds, h, P, Z, e, pd, kk, z⟩ := q
  obtain ⟨a1, a2, a3⟩ := kw_all (env := X.env) (pos := pos) hks
  refine wpAny_Call_Name_kw (ld_glob I hg hm ?_ hdb)
  have go : ∀ {s1 : Shared} {R1 : Rg} {H1 : Hp} {h1 : Hs} {xs : List D} {vs : List V} {us : List Value}, Inv X pins σ H1 s1 → Ex R H R1 H1 → Env C R1 ds σ H1 h1 → RelDs C.K R1 H1 xs vs → Vals vs us → xs.length = ls.length ∧ u ds h1 (fun ys h2 => ys.length = ks.length ∧ (pick pi (xs ++ ys ++ fl.map fun p => p.2.d)).length = ps.length ∧ f (pick pi (xs ++ ys ++ fl.map fun p => p.2.d)) h2 (fun d h3 => P (.d d) h3) Z) Z →
      wpAny (model X.prog X.w) X.A (evalAll ((backToKw pos (keywordEach kws X.env)).map (·.2))) (fun ws s2 => X.K.In s2.heap ∧ wpAny (model X.prog X.w) X.A (call (.ref fa) ([] ++ us) (((backToKw pos (keywordEach kws X.env)).filterMap (·.1)).zip ws)) (EP X pins σ Q) X.xe s2) X.xe s1 := by
    intro s1 R1 H1 h1 xs vs us I1 x1 e1 r1 rv ⟨hl, p1⟩
    refine thn (hkw.run pos pins s1 σ H1 (fun zs H2 => ∃ R2 h2 ys, RelDs C.K R2 H2 ys zs ∧ Ex R1 H1 R2 H2 ∧ Env C R2 ds σ H2 h2 ∧ ys.length = ks.length ∧ (pick pi (xs ++ ys ++ fl.map fun p => p.2.d)).length = ps.length ∧ f (pick pi (xs ++ ys ++ fl.map fun p => p.2.d)) h2 (fun d h3 => P (.d d) h3) Z) I1 ⟨R1, ds, h1, _, Z, e1, p1, fun R2 H2 h2 ys zs p2 x2 e2 r2 => ⟨R2, h2, ys, r2, x2, e2, p2⟩, fun R' H' h' y cls dd a b c d => z R' H' h' y cls dd a (x1.trans b) c d⟩) fun ws s2 ⟨zs, H2, I2, rz, R2, h2, ys, r2, x2, e2, hl2, hl3, p2⟩ => ⟨I2.kIn, ?_⟩
    rw [a2, List.nil_append]
    have lu : us.length = ls.length := by rw [← rv.length, ← relDs_len r1]; exact hl
    have bb := bk ks pi s2 us ws I2.kIn lu (by rw [← rz.length, ← relDs_len r2]; exact hl2) (by rw [hfl]; exact hb)
    rw [hfl] at bb
    refine run_callO (C := C) F hr hgd tk I2 bb rv rz (kq_vals hdv') ?_
    refine ⟨R2, pick pi (xs ++ ys ++ fl.map fun p => p.2.d), h2, _, Z, e2.ok, relDs_pick (relDs_append (relDs_append (relDs_ex e1.ok x2 r1) r2) kq_rels) pi, hl3, p2, fun R3 H3 h3 d v p3 x3 ok3 r3 => ?_, fun R3 H3 h3 y cls dd p3 x3 ok3 r3 => ?_⟩
    · exact kk R3 H3 h3 (.d d) v p3 ((x1.trans x2).trans x3) (e2.step x3 ok3) r3
    · exact z R3 H3 h3 y cls dd p3 ((x1.trans x2).trans x3) (e2.step x3 ok3) r3
  rcases hst with rfl | ⟨e0, es, rfl, he⟩
  · refine PySem.W.callWith_KW0 (h₀ := X.base) I.ok.mod.kin hk a1 ?_ (by rw [a3] <;> rfl)
    exact go (xs := []) (vs := []) (us := []) I (Ex.refl _ _) e m_nil .nil (h0 rfl ds h Z _ pd)
  · refine PySem.W.callWith_KW (h₀ := X.base) I.ok.mod.kin hk a1 (thn (ha.run pos pins s σ H (fun vs H1 => ∃ R1 h1 xs, Ex R H R1 H1 ∧ Env C R1 ds σ H1 h1 ∧ RelDs C.K R1 H1 xs vs ∧ (xs.length = (e0 :: es).length ∧ u ds h1 (fun ys h2 => ys.length = ks.length ∧ (pick pi (xs ++ ys ++ fl.map fun p => p.2.d)).length = ps.length ∧ f (pick pi (xs ++ ys ++ fl.map fun p => p.2.d)) h2 (fun d h3 => P (.d d) h3) Z) Z)) I ⟨R, ds, h, _, Z, e, pd, fun R1 H1 h1 xs vs p1 x1 e1 r1 => ⟨R1, h1, xs, x1, e1, r1, p1⟩, z⟩) fun us s1 ⟨vs, H1, I1, rv, R1, h1, xs, x1, e1, r1, p1⟩ => go I1 x1 e1 r1 rv p1) (by rw [hpl, a3] <;> rfl) he
end
end DL
set_option maxHeartbeats 4000000
namespace DL
open PySem PySem.Spec PyProof.Rows L2
section
variable {X : Cx} {C : Cn} {Wx : WX}
def noC0 : Expr → Bool
  | .Call _ [] [] _ => false
  | _ => true
theorem base_ok {o : Expr} {at_ : Str} {env : PySem.Env} {w : Sem Value} (h : noC0 o = true) : attributeBase o at_ env w = w := by
  cases o with
  | Call f as kws p =>
    cases as with
    | cons a as => cases f <;> rfl
    | nil =>
      cases kws with
      | nil => cases h
      | cons k kws => cases f <;> rfl
  | _ => rfl
def mmI (mx : Bool) (i j : Int) : Int := if mx = true then max i j else min i j
def mmN (mx : Bool) : Str := if mx = true then "max" else "min"
def dMM (mx : Bool) (ta tb : TDE) : TDE := fun ds h P Z => dCons ta (dCons tb dNil) ds h (fun xs h' => ∃ i j, xs = [.int i, .int j] ∧ P (.d (.int (mmI mx i j))) h') Z
theorem de_mm {mx : Bool} {a b : Expr} {ta tb : TDE} {p pos : Pos} (hc : X.calm = true) (hg : Gl X (mmN mx)) (hm : X.mg (mmN mx) = none) (ha : PE X a (lift C Wx ta)) (hb : PE X b (lift C Wx tb)) (he : starEach [a, b] X.env = (false, eval a X.env) :: starEach [b] X.env) (hs2 : starEach [b] X.env = (false, eval b X.env) :: starEach [] X.env) :
    PE X (.Call (.Name (mmN mx) p) [a, b] [] pos) (lift C Wx (dMM mx ta tb)) := by
  have hpl : (backTo pos (starEach [b] X.env)).any (·.1) = false := by rw [hs2]; rfl
  have arg : PA X [a, b] (liftA C Wx (dCons ta (dCons tb dNil))) := da_cons ha (da_cons hb da_nil hs2) he
  have fin : ∀ {r : List V → Hp → VK → Prop}, (∀ i j H Q, Q (.int (mmI mx i j)) H → r [.int i, .int j] H Q) → PE X (.Call (.Name (mmN mx) p) [a, b] [] pos) (tCB r (liftA C Wx (dCons ta (dCons tb dNil)))) → PE X (.Call (.Name (mmN mx) p) [a, b] [] pos) (lift C Wx (dMM mx ta tb)) := fun hr pe => pe.imD fun σ H Q q => by
    obtain ⟨R, ds, h, P, Z, e, p, k, z⟩ := q
    refine ⟨R, ds, h, _, Z, e, p, fun R' H' h' xs vs ⟨i, j, hx, p'⟩ x e' r => ?_, z⟩
    subst hx
    obtain ⟨v1, q1, rfl, r1, r2⟩ := r_cons r
    obtain ⟨v2, q2, rfl, r3, r4⟩ := r_cons r2
    cases r_nil r4
    cases r_int r1
    cases r_int r3
    exact hr i j H' Q (k R' H' h' _ _ p' x e' mw_int)
  cases mx with
  | true => exact fin (fun i j H Q q => ⟨i, j, rfl, by
      have e : mmI true i j = if j > i then j else i := by unfold mmI; simp only [if_true]; split <;> omega
      rw [← e]; exact q⟩) (pe_callB (call_max2 hc) hg hm (by decide +kernel) arg (he := he) (hpl := hpl))
  | false => exact fin (fun i j H Q q => ⟨i, j, rfl, by
      have e : mmI false i j = if j < i then j else i := by unfold mmI; simp; split <;> omega
      rw [← e]; exact q⟩) (pe_callB (call_min2 hc) hg hm (by decide +kernel) arg (he := he) (hpl := hpl))
/-- the best of a sequence of ints -/
def Best (mx : Bool) (ns : List Int) (m : Int) : Prop := m ∈ ns ∧ ∀ y ∈ ns, if mx = true then y ≤ m else m ≤ y
theorem old2 {s : Shared} {o1 : Obj} {h' : Heap} (hk : ∀ b o, b ∉ [s.heap.objs.size] → (s.heap.push o1).get? b = some o → h'.get? b = some o) : ∀ b o, s.heap.get? b = some o → h'.get? b = some o := fun b o e => hk b o (fun hm => by
  rcases List.mem_cons.mp hm with e1 | hm
  · exact absurd (e1 ▸ Heap.lt_size e) (Nat.lt_irrefl _)
  · cases hm) (Heap.get?_push_of_some _ e)
theorem best_tup {mx : Bool} {prog : Program} {w : World} {A : Around} {E : Value → Shared → Prop} {s : Shared} {l : Addr} {its : List Value} {ns : List Int} {Q : Value → Shared → Prop} (hh : A.handled = none) (hl : s.heap.IsTuple l its.toArray) (hi : IntsAre its ns) (hne : 0 < ns.length)
    (h : ∀ h' tk m t', (∀ b o, s.heap.get? b = some o → h'.get? b = some o) → Best mx ns m → Q (.int m t') { s with heap := h', toks := tk }) : wpAny (model prog w) A (call (.builtin (if mx = true then "max" else "min")) [.ref l]) Q E s := by
  obtain ⟨xs, e⟩ := hi.allInts.items
  have hn : numsOf (intItems xs).toList = ns := by rw [← e]; exact hi.numsOf
  rw [nums_intItems] at hn
  subst hn
  rw [e] at hl
  have hsz : 0 < (intItems xs).size := by simpa [intItems] using hne
  have hlt : l < s.heap.objs.size := by obtain ⟨_, z, _⟩ := hl; exact Heap.lt_size z
  have fp : ∀ (o1 : Obj), ∀ b ∈ [s.heap.objs.size, l], b < (s.heap.push o1).objs.size := fun o1 b hb => by
    rw [Heap.size_push]
    rcases List.mem_cons.mp hb with rfl | hb
    · exact Nat.lt_succ_self _
    · rcases List.mem_cons.mp hb with rfl | hb
      · exact Nat.lt_succ_of_lt hlt
      · cases hb
  have at_ : ∀ {bt : Nat → Nat → Bool} {v : Value}, (intItems xs)[argBest bt ((intItems xs).size - 1)]? = some v → ∃ t, v = .int (numAt xs (argBest bt (xs.size - 1))) t := fun {bt v} hv => by
    have : (intItems xs).size = xs.size := by simp [intItems]
    rw [this] at hv
    exact intItems_at hv
  have mem : ∀ i, i ≤ xs.size - 1 → numAt xs i ∈ xs.toList.map (·.1) := fun i hi => by
    rw [numAt_eq]; exact PySem.getD_mem (by rw [List.length_map, Array.length_toList]; have : (intItems xs).size = xs.size := (by simp [intItems]); omega)
  cases mx with
  | true =>
    refine call_max_walk (wpAny_pyIter_tuple hl ?_)
    refine ⟨_, [_, l], [_], _, _, _, _, rfl, Walks.tuple (A := A.in1) hh _ l (Nat.ne_of_lt hlt) (intItems xs), ⟨⟨_, Heap.get?_push_size _ rfl, rfl, rfl⟩, hl.push _⟩, fp _, hsz, CmpOf.ints_gt (numAt xs) (fun _ _ => intItems_at), fun v h' tk hP hk => ?_⟩
    obtain ⟨t, rfl⟩ := at_ hP
    obtain ⟨h1, h2⟩ := argBest_gt (numAt xs) (xs.size - 1)
    refine h h' tk _ t (old2 hk) ⟨mem _ h1, fun a ha => ?_⟩
    obtain ⟨j, hj, rfl⟩ := mem_getD ha
    rw [List.length_map, Array.length_toList] at hj
    simp only [if_true]
    rw [← numAt_eq]; exact h2 j (by omega)
  | false =>
    refine call_min_walk (wpAny_pyIter_tuple hl ?_)
    refine ⟨_, [_, l], [_], _, _, _, _, rfl, Walks.tuple (A := A.in1) hh _ l (Nat.ne_of_lt hlt) (intItems xs), ⟨⟨_, Heap.get?_push_size _ rfl, rfl, rfl⟩, hl.push _⟩, fp _, hsz, CmpOf.ints_lt (numAt xs) (fun _ _ => intItems_at), fun v h' tk hP hk => ?_⟩
    obtain ⟨t, rfl⟩ := at_ hP
    obtain ⟨h1, h2⟩ := argBest_lt (numAt xs) (xs.size - 1)
    refine h h' tk _ t (old2 hk) ⟨mem _ h1, fun a ha => ?_⟩
    obtain ⟨j, hj, rfl⟩ := mem_getD ha
    rw [List.length_map, Array.length_toList] at hj
    simp only [Bool.false_eq_true, if_false]
    rw [← numAt_eq]; exact h2 j (by omega)
def rMx (K : Fg) (mx : Bool) : List V → Hp → VK → Prop := fun vs H Q => ∃ (a : Addr) (ns : List Int), vs = [V.ref a] ∧ (SqL K H a (ns.map V.int) ∨ SqT K H a (ns.map V.int)) ∧ 0 < ns.length ∧ ∀ m, Best mx ns m → Q (.int m) H
theorem cr_mx {mx : Bool} (hc : X.calm = true) : CallR X (.builtin (if mx = true then "max" else "min")) (rMx X.K mx) := by
  intro pins s σ H vs us Q I r h
  obtain ⟨a, ns, rfl, hs | hs, hne, q⟩ := h
  · cases mx with
    | true => exact cr_max hc pins s σ H _ us Q I r ⟨a, ns, rfl, hs, hne, fun m h1 h2 => q m ⟨h1, fun y hy => by simpa using h2 y hy⟩⟩
    | false => exact cr_min hc pins s σ H _ us Q I r ⟨a, ns, rfl, hs, hne, fun m h1 h2 => q m ⟨h1, fun y hy => by simpa using h2 y hy⟩⟩
  · obtain ⟨its, rv, hl, _⟩ := I.tuple hs
    rw [Vals.ref1 r]
    exact best_tup (I.ok.hd hc) hl rv.ints hne fun h' tk m t' hk hb => ⟨.int _, H, I.kept hk, ⟨_, rfl⟩, q m hb⟩
def wMx (mx : Bool) (x : W) (Q : W → Prop) : Prop := ∃ ns : List Int, seqW x = some (ns.map D.int) ∧ 0 < ns.length ∧ ∀ m, Best mx ns m → Q (.d (.int m))
theorem de_mx {mx : Bool} {a : Expr} {ta : TDE} {p pos : Pos} (hK : C.K = X.K) (hc : X.calm = true) (hg : Gl X (mmN mx)) (hm : X.mg (mmN mx) = none) (ha : PE X a (lift C Wx ta)) (he : starEach [a] X.env = (false, eval a X.env) :: starEach [] X.env) :
    PE X (.Call (.Name (mmN mx) p) [a] [] pos) (lift C Wx (dOp1 (wMx mx) ta)) := by
  have ar : PA X [a] (tCons (lift C Wx ta) tNil) := pa_cons ha pa_nil he
  have fin : PE X (.Call (.Name (mmN mx) p) [a] [] pos) (tCB (rMx X.K mx) (tCons (lift C Wx ta) tNil)) → PE X (.Call (.Name (mmN mx) p) [a] [] pos) (lift C Wx (dOp1 (wMx mx) ta)) := fun pe => pe.imD fun σ H Q q => by
    obtain ⟨R, ds, h, P, Z, e, p, k, z⟩ := q
    refine ⟨R, ds, h, _, Z, e, p, fun R1 H1 h1 w1 v1 ⟨ns, e1, hn, p1⟩ x1 e1' r1 => ?_, z⟩
    obtain ⟨a, vs, rfl, q, t⟩ := rel_seq r1 e1
    cases relDs_ints t
    exact ⟨a, ns, rfl, hK ▸ q, hn, fun m hb => k R1 H1 h1 _ _ (p1 m hb) x1 e1' mw_int⟩
  cases mx with
  | true => exact fin (pe_callB (cr_mx (mx := true) hc) hg hm (by decide +kernel) ar (he := he))
  | false => exact fin (pe_callB (cr_mx (mx := false) hc) hg hm (by decide +kernel) ar (he := he))
def wJoin (x y : W) (Q : W → Prop) : Prop := ∃ (a : Str) (ys : List Str), x = .d (.str a) ∧ seqW y = some (ys.map D.str) ∧ (ys.map (·.length)).sum + ys.length * a.length ≤ 16777216 ∧ Q (.d (.str (Txt.join a ys)))
def dJoin (ta tb : TDE) : TDE := fun ds h P Z => ta ds h (fun x h1 => (∃ a, x = .d (.str a)) ∧ tb ds h1 (fun y h2 => wJoin x y fun z => P z h2) Z) Z
theorem de_join {o b : Expr} {ta tb : TDE} {apos pos : Pos} (hK : C.K = X.K) (ha : PE X o (lift C Wx ta)) (hb : PE X b (lift C Wx tb)) (hs : starEach [b] X.env = [(false, eval b X.env)]) (hbase : attributeBase o "join" X.env (eval o X.env) = eval o X.env) (hline : (apos.endLine == pos.line) = true) :
    PE X (.Call (.Attribute o "join" apos) [b] [] pos) (lift C Wx (dJoin ta tb)) :=
  (pe_join ha hb hs hbase hline).imD fun σ H Q q => by
    obtain ⟨R, ds, h, P, Z, e, p, k, z⟩ := q
    refine ⟨R, ds, h, _, Z, e, p, fun R1 H1 h1 w1 v1 ⟨⟨a, ex⟩, p1⟩ x1 e1 r1 => ?_, z⟩
    subst ex
    cases rw_str r1
    refine ⟨⟨_, rfl⟩, R1, ds, h1, _, Z, e1, p1, fun R2 H2 h2 w2 v2 ⟨a', ys, ea, ey, hl, p2⟩ x2 e2 r2 => ?_, fun R' H' h' x cls dd a b c d => z R' H' h' x cls dd a (x1.trans b) c d⟩
    cases ea
    obtain ⟨b, vs, rfl, q, t⟩ := rel_seq r2 ey
    cases relDs_strs t
    exact ⟨_, b, ys, rfl, rfl, hK ▸ q, hl, k R2 H2 h2 _ _ p2 (x1.trans x2) e2 mw_str⟩
def dwnD (lo : Int) (n : Nat) : List D := (List.range n).map fun (i : Nat) => .int (lo - (i : Int))
def dItR3 (t u v : TDE) : TDI := fun ds h P Z => dCons t (dCons u (dCons v dNil)) ds h (fun xs h' => ∃ i j, xs = [.int i, .int j, .int (-1)] ∧ (-(2 ^ 62) ≤ i ∧ i < 2 ^ 62 ∧ -(2 ^ 62) ≤ j ∧ j < 2 ^ 62) ∧ P (dwnD i (i - j).toNat) h') Z
theorem src_dwn {R : Rg} {H : Hp} {lo : Int} {n : Nat} : Src C R H (dwnD lo n) (Itc lo (-1) n) := by
  have hl : (dwnD lo n).length = n := by unfold dwnD; simp
  refine ⟨fun i _ _ _ hi => by rw [hl] at hi; exact hi, fun _ _ _ => by rw [hl]; exact Nat.le_refl n, fun i R2 H2 v H3 d ds σ h m e2 hd y => ?_⟩
  obtain ⟨rfl, rfl⟩ := y
  have hi : i < n := by rw [← hl]; exact (List.getElem?_eq_some_iff.mp hd).1
  have : D.int (lo - (i : Int)) = d := by
    unfold dwnD at hd
    rw [List.getElem?_map, List.getElem?_range hi] at hd
    cases hd; rfl
  subst this
  have e : lo + (i : Int) * -1 = lo - (i : Int) := by omega
  rw [e]
  exact ⟨Ex.refl _ _, e2, m_int⟩
theorem di_r3 {tg a b c : Expr} {t u v : TDE} {p pos : Pos} (hg : Gl X "range") (hm : X.mg "range" = none) (ha : PE X a (lift C Wx t)) (hb : PE X b (lift C Wx u)) (hc : PE X c (lift C Wx v)) (h1 : starEach [a, b, c] X.env = (false, eval a X.env) :: starEach [b, c] X.env) (h2 : starEach [b, c] X.env = (false, eval b X.env) :: starEach [c] X.env) (h3 : starEach [c] X.env = (false, eval c X.env) :: starEach [] X.env) :
    PI X tg (.Call (.Name "range" p) [a, b, c] [] pos) (liftI C Wx (dItR3 t u v)) :=
  (pi_range3 hg hm (da_cons ha (da_cons hb (da_cons hc da_nil h3) h2) h1) h1 (by rw [h2, h3]; rfl)).imD fun σ H Q q => by
    obtain ⟨R, ds, h, P, Z, e, p, k, z⟩ := q
    refine ⟨R, ds, h, _, Z, e, p, fun R' H' h' d v ⟨i, j, hd, ⟨l1, l2, l3, l4⟩, p'⟩ x e' r => ?_, z⟩
    subst hd
    obtain ⟨v1, vr, rfl, r1, r2⟩ := r_cons r
    obtain ⟨v2, vr, rfl, rb, r3⟩ := r_cons r2
    obtain ⟨v3, vr, rfl, rc, r4⟩ := r_cons r3
    cases r_nil r4
    cases r_int r1
    cases r_int rb
    cases r_int rc
    exact ⟨i, j, -1, _, rfl, RgC.neg l1 l2 l3 l4, k R' H' h' _ _ p' x e' src_dwn⟩
def dExt (i : Nat) (t : TDE) : TDS := fun ds h P => ∃ xs, ds[i]? = some (some (.own xs)) ∧ t ds h (fun w h' => ∃ ys, (w = .new ys ∨ w = .d (.lst ys)) ∧ xs.length + ys.length ≤ sizeLine ∧ P.nx (ds.set i (some (.own (xs ++ ys)))) h') (fun x h' => P.ex x ds h')
theorem ds_ext {i : Nat} {x : Str} {e : Expr} {t : TDE} {p1 apos cpos pos : Pos} (hN : X.N[i]? = some x) (hv : Vis X.env.scope x) (hd : (x == ("__debug__" : Str)) = false) (hcd : (x == ("__classdict__" : Str)) = false) (he : PE X e (lift C Wx t))
    (hs : starEach [e] X.env = (false, eval e X.env) :: starEach [] X.env) (hline : (apos.endLine == cpos.line) = true) (hpl : (((backTo cpos (starEach [e] X.env)).all (fun x => !x.1) && (backToKw cpos (keywordEach [] X.env)).all fun x => x.1.isSome) && decide (([e].length + ([] : List Keyword).length + if ([] : List Keyword).isEmpty = true then 0 else 1) < 30)) = true) (hb : attributeBase (.Name x p1) "extend" X.env (eval (.Name x p1) X.env) = eval (.Name x p1) X.env)
    (hsw : swapsWith (.Call (.Attribute (.Name x p1) "extend" apos) [e] [] cpos) none pos.line X.env = pure false) :
    PS X (.Expr (.Call (.Attribute (.Name x p1) "extend" apos) [e] [] cpos) pos) (liftS C Wx (dExt i t)) :=
  (ps_expr (pe_bm PySem.F.plainAttrs_list PySem.F.slot_list_extend PySem.F.type_list_extend mt_extend (pe_var hN hv hd hcd) (pa_cons he pa_nil hs) hb hpl hline hs) hsw).imD fun D σ H q => by
    obtain ⟨R, ds, h, P, e, ⟨xs, hi, p⟩, k⟩ := q
    obtain ⟨v, hv, a, vs, rfl, q, nf, o, tt⟩ := e.slot i _ hi
    refine ⟨.ref a, hv, .inl ⟨rfl, vs, .inl (.inl q)⟩, R, ds, h, _, _, e, p, fun R' H' h' w u ⟨ys, hw, hl, p'⟩ x e' r => ?_, k.exE e⟩
    have rs := e'.relW hi hv
    obtain ⟨a', vs', ea, q', nf', o', tt'⟩ := rs
    cases ea
    have hw' : lsjW w = some ys := by rcases hw with rfl | rfl <;> rfl
    obtain ⟨b, us, rfl, qb, tb⟩ := rel_lsj r hw'
    obtain ⟨e2, m2⟩ := e'.wr hi hv (relDs_append tt' tb)
    exact ⟨a, b, vs', us, rfl, rfl, q', qb, by rw [← relDs_len tt', ← relDs_len tb]; exact hl, k.nx R' _ _ _ h' e2 ((x.mo e.ok).trans m2) p'⟩
end
end DL
set_option maxHeartbeats 4000000
namespace DL
open PySem PySem.Spec PyProof.Rows L2
section
variable {X : Cx} {C : Cn} {Wx : WX}
/-- how many numbers range(a, b, c) has -/
def rszN (a b c : Int) : Nat := (Builtin.Range.rangeSize a b c).toNat
theorem rsz_bd {a b c : Int} (ha : 0 ≤ a) (hb : 0 ≤ b) (hc : 1 ≤ c) : 0 ≤ Builtin.Range.rangeSize a b c ∧ Builtin.Range.rangeSize a b c ≤ b := by
  unfold Builtin.Range.rangeSize
  rw [if_pos (by omega)]
  split
  · have h1 := Int.ediv_nonneg (a := b - a - 1) (b := c) (by omega) (by omega)
    have h2 := Int.ediv_le_self c (show (0 : Int) ≤ b - a - 1 by omega)
    omega
  · omega
theorem RgC.pos {a b c : Int} (ha : 0 ≤ a) (ha' : a < 2 ^ 40) (hb : 0 ≤ b) (hb' : b < 2 ^ 40) (hc : 1 ≤ c) (hc' : c < 1073741824) : RgC a b c (rszN a b c) := by
  obtain ⟨h1, h2⟩ := rsz_bd ha hb hc
  refine ⟨by omega, by omega, ?_, ?_⟩
  · unfold Builtin.Range.small
    simp only [Builtin.Range.rangeFitsLong, Bool.and_eq_true, Bool.or_eq_true, decide_eq_true_eq, beq_iff_eq]
    rw [if_pos (by omega)]
    simp only [Bool.and_eq_true, decide_eq_true_eq]
    omega
  · unfold rszN; omega
def stpD (lo c : Int) (n : Nat) : List D := (List.range n).map fun (i : Nat) => .int (lo + (i : Int) * c)
def dItR4 (t u v : TDE) : TDI := fun ds h P Z => dCons t (dCons u (dCons v dNil)) ds h (fun xs h' => ∃ i j c, xs = [.int i, .int j, .int c] ∧ (0 ≤ i ∧ i < 2 ^ 40 ∧ 0 ≤ j ∧ j < 2 ^ 40 ∧ 1 ≤ c ∧ c < 1073741824) ∧ P (stpD i c (rszN i j c)) h') Z
theorem src_stp {R : Rg} {H : Hp} {lo c : Int} {n : Nat} : Src C R H (stpD lo c n) (Itc lo c n) := by
  have hl : (stpD lo c n).length = n := by unfold stpD; simp
  refine ⟨fun i _ _ _ hi => by rw [hl] at hi; exact hi, fun _ _ _ => by rw [hl]; exact Nat.le_refl n, fun i R2 H2 v H3 d ds σ h m e2 hd y => ?_⟩
  obtain ⟨rfl, rfl⟩ := y
  have hi : i < n := by rw [← hl]; exact (List.getElem?_eq_some_iff.mp hd).1
  have : D.int (lo + (i : Int) * c) = d := by
    unfold stpD at hd
    rw [List.getElem?_map, List.getElem?_range hi] at hd
    cases hd; rfl
  subst this
  exact ⟨Ex.refl _ _, e2, m_int⟩
theorem di_r4 {tg a b c : Expr} {t u v : TDE} {p pos : Pos} (hg : Gl X "range") (hm : X.mg "range" = none) (ha : PE X a (lift C Wx t)) (hb : PE X b (lift C Wx u)) (hc : PE X c (lift C Wx v)) (h1 : starEach [a, b, c] X.env = (false, eval a X.env) :: starEach [b, c] X.env) (h2 : starEach [b, c] X.env = (false, eval b X.env) :: starEach [c] X.env) (h3 : starEach [c] X.env = (false, eval c X.env) :: starEach [] X.env) :
    PI X tg (.Call (.Name "range" p) [a, b, c] [] pos) (liftI C Wx (dItR4 t u v)) :=
  (pi_range3 hg hm (da_cons ha (da_cons hb (da_cons hc da_nil h3) h2) h1) h1 (by rw [h2, h3] <;> rfl)).imD fun σ H Q q => by
    obtain ⟨R, ds, h, P, Z, e, p, k, z⟩ := q
    refine ⟨R, ds, h, _, Z, e, p, fun R' H' h' d v ⟨i, j, cc, hd, ⟨l1, l2, l3, l4, l5, l6⟩, p'⟩ x e' r => ?_, z⟩
    subst hd
    obtain ⟨v1, vr, rfl, r1, r2⟩ := r_cons r
    obtain ⟨v2, vr, rfl, rb, r3⟩ := r_cons r2
    obtain ⟨v3, vr, rfl, rc, r4⟩ := r_cons r3
    cases r_nil r4
    cases r_int r1
    cases r_int rb
    cases r_int rc
    exact ⟨i, j, cc, _, rfl, RgC.pos l1 l2 l3 l4 l5 l6, k R' H' h' _ _ p' x e' src_stp⟩
end
end DL
set_option maxHeartbeats 4000000
namespace DL
open PySem PySem.Spec PyProof.Rows L2
def repStr (a : Str) (k : Nat) : Str := ⟨(List.replicate k a.cps.toList).flatten.toArray⟩
theorem foldl_reps (xs : List Nat) : ∀ (k : Nat) (acc : List Nat), List.foldl (fun x1 x2 => x1 ++ x2) acc.toArray (List.replicate k xs.toArray) = (acc ++ (List.replicate k xs).flatten).toArray
  | 0, acc => by simp
  | k + 1, acc => by
    rw [List.replicate_succ, List.foldl_cons, List.replicate_succ, List.flatten_cons]
    have : acc.toArray ++ xs.toArray = (acc ++ xs).toArray := by simp
    rw [this, foldl_reps xs k, List.append_assoc]
def rRepS : R2 := fun x y H Q => ∃ (a : Str) (k : Int), x = .str a ∧ y = .int k ∧ 1 ≤ k ∧ k ≤ 1000 ∧ 1 ≤ a.length ∧ a.length ≤ 1000 ∧ Q (.str (repStr a k.toNat)) H
theorem op_repS {X : Cx} : OpR X (binaryOp .Mult) rRepS := by
  intro pins s σ H x y v u Q I rx ry h
  obtain ⟨a, k, rfl, rfl, k0, k1, l0, l1, q⟩ := h
  obtain ⟨t, rfl⟩ := rx
  obtain ⟨t', rfl⟩ := ry
  have hmul : a.length * k.toNat ≤ 1000 * 1000 := Nat.mul_le_mul l1 (by omega)
  refine PySem.P.mul_str ?_ ?_ ?_ ?_
  · rw [decide_eq_false (by omega), decide_eq_false (by omega)] <;> rfl
  · intro _ _
    have := Int.ediv_nonneg (a := 2 ^ 63 - 1) (b := k) (by decide) (by omega)
    have h3 : (1000 : Int) ≤ (2 ^ 63 - 1) / k := by
      rw [Int.le_ediv_iff_mul_le (by omega)]
      omega
    omega
  · intro _ _
    unfold Builtin.Str.tooLong
    rw [sizeLine_eq]
    exact decide_eq_false (by omega)
  · rw [if_neg (by omega)]
    by_cases c : k = 1
    · subst c
      have e : repStr a (1 : Int).toNat = a := by unfold repStr; simp
      rw [e] at q
      rw [if_pos (by simp)]
      exact ⟨.str a, H, I, ⟨t, rfl⟩, q⟩
    · have e : (⟨(List.replicate k.toNat a.cps).foldl (· ++ ·) #[]⟩ : Str) = repStr a k.toNat := by
        have := foldl_reps a.cps.toList k.toNat []
        unfold repStr
        rw [List.nil_append] at this
        simpa using this
      rw [if_neg (by simp; exact ⟨c, by omega⟩), e]
      refine ⟨?_, .str (repStr a k.toNat), H, I.tok _, ⟨_, rfl⟩, q⟩
      rw [sizeLine_eq]
      have : (repStr a k.toNat).length = k.toNat * a.length := by
        unfold repStr
        show ((List.replicate k.toNat a.cps.toList).flatten.toArray).size = k.toNat * a.cps.size
        simp
      rw [this, Nat.mul_comm]
      omega
section
variable {X : Cx} {C : Cn} {Wx : WX}
def wRepS (x y : W) (Q : W → Prop) : Prop := ∃ (a : Str) (k : Int), x = .d (.str a) ∧ y = .d (.int k) ∧ 1 ≤ k ∧ k ≤ 1000 ∧ 1 ≤ a.length ∧ a.length ≤ 1000 ∧ Q (.d (.str (repStr a k.toNat)))
theorem de_repS {a b : Expr} {ta tb : TDE} {pos : Pos} (ha : PE X a (lift C Wx ta)) (hb : PE X b (lift C Wx tb)) : PE X (.BinOp a .Mult b pos) (lift C Wx (dOp2 wRepS ta tb)) :=
  (pe_op op_repS ha hb).imD fun σ H Q q => op2 (fun R ds σ H h R0 H0 x y v u Pw Q e ex _ rx ry p k => by
    obtain ⟨xs, kk, rfl, rfl, k1, k2, k3, k4, p⟩ := p
    cases rw_str rx
    cases rw_int ry
    exact ⟨xs, kk, rfl, rfl, k1, k2, k3, k4, k R _ _ _ p (Ex.refl _ _) e mw_str⟩) q
end
end DL
set_option maxHeartbeats 8000000
namespace DL
open PySem PySem.Spec PyProof.Rows L2
/-- the tuple at a beside the list at b, of one length: new pairs -/
def ItZm (K : Fg) (a b : Addr) : It :=
  ⟨fun i H => ∃ (xs ys : List V) (x y : V), SqT K H a xs ∧ SqL K H b ys ∧ xs[i]? = some x ∧ ys[i]? = some y,
    fun i H v H' => ∃ T x y, v = .ref T ∧ H T = none ∧ H' = upd H T (.tup [x, y]) ∧ (∀ l, SqT K H a l → l[i]? = some x) ∧ ∀ l, SqL K H b l → l[i]? = some y,
    fun i H => ∃ xs ys : List V, SqT K H a xs ∧ SqL K H b ys ∧ xs.length = i ∧ ys.length = i⟩
/-- the cells of such a zip -/
structure ZmA (z p q c d a b : Addr) : Prop where
  pz : p ≠ z
  qz : q ≠ z
  pq : p ≠ q
  pc : p ≠ c
  pd : p ≠ d
  zc : z ≠ c
  zd : z ≠ d
  qc : q ≠ c
  qd : q ≠ d
  cd : c ≠ d
  ac : a ≠ c
  ad : a ≠ d
  bc : b ≠ c
  bd : b ≠ d
  za : z ≠ a
  zb : z ≠ b
  qa : q ≠ a
  qb : q ≠ b
theorem ZmA.sep {z p q c d a b : Addr} (D : ZmA z p q c d a b) : ZipSep2 z p q c d [c, a] [d, b] where
  TIz := D.pz
  TOz := D.qz
  TITO := D.pq
  TIi1 := D.pc
  mem1 := by simp
  zf1 := by simp [D.zc, D.za]
  Tf1 := by simp [D.qc, D.qa]
  TIi2 := D.pd
  mem2 := by simp
  zf2 := by simp [D.zd, D.zb]
  Tf2 := by simp [D.qd, D.qb]
  sep1_2 := by simp [D.cd, Ne.symm D.bc]
  sep2_1 := by simp [Ne.symm D.cd, Ne.symm D.ad]
theorem mem5 {x z p q c d : Addr} (h : x ∈ [z, p, q, c, d]) : x = z ∨ x = p ∨ x = q ∨ x = c ∨ x = d := by simpa using h
theorem zmA_of (n a b : Nat) (ha : a < n) (hb : b < n) : ZmA (n + 4) (n + 2) (n + 3) n (n + 1) a b := by constructor <;> (intro g; have g : _ = (_ : Nat) := g; omega)
theorem mem5n {n x : Nat} (h : x ∈ [n + 4, n + 2, n + 3, n, n + 1]) : n ≤ x := by
  have : x = n + 4 ∨ x = n + 2 ∨ x = n + 3 ∨ x = n ∨ x = n + 1 := by simpa using h
  omega
def ZmS (z p q c d a b : Addr) (i : Nat) (h : Heap) : Prop := IsZip h z p q .none ∧ IsTupOf2 h p (.ref c) (.ref d) ∧ (∃ u v, IsTupOf2 h q u v) ∧ h.IsTupleIter c a i ∧ h.IsListIter d b i
theorem turn_zipM {P : Program} {w : World} {K : Fg} {elts : List Expr} {kk : Nat} {tpos : Pos} {z p q c d a b : Addr} (D : ZmA z p q c d a b) : Turn P w K (.Tuple elts kk tpos) (ItZm K a b) [z, p, q, c, d] z (ZmS z p q c d a b) where
  mem := List.mem_cons_self
  obj := fun i h st x hx => by
    obtain ⟨hz, hp, ⟨u, v, hq⟩, ⟨o1, e1, _, d1⟩, ⟨o2, e2, _, d2⟩⟩ := st
    rcases mem5 hx with g | g | g | g | g <;> subst g
    · exact ⟨_, hz, fun v g => by cases g⟩
    · exact ⟨_, hp, fun v g => by cases g⟩
    · exact ⟨_, hq, fun v g => by cases g⟩
    · exact ⟨o1, e1, fun v g => by rw [d1] at g; cases g⟩
    · exact ⟨o2, e2, fun v g => by rw [d2] at g; cases g⟩
  keep := fun i h h' st k => by
    obtain ⟨hz, hp, ⟨u, v, hq⟩, h1, h2⟩ := st
    exact ⟨k z (by simp) _ hz, k p (by simp) _ hp, ⟨u, v, k q (by simp) _ hq⟩, h1.at fun o g => k c (by simp) o g, h2.at fun o g => k d (by simp) o g⟩
  item := by
    intro X hP hw hK hc i pins s σ H E I hf st hg
    subst hP hw hK
    obtain ⟨hz, hp, ⟨u0, v0, hq⟩, h1, h2⟩ := st
    obtain ⟨xs, ys, x, y, sx, sy, gx, gy⟩ := hg
    obtain ⟨its, rv, pt, _⟩ := I.tuple sx
    obtain ⟨its2, rv2, pl, _⟩ := I.list sy
    obtain ⟨u, hu, ru⟩ := rv.get gx
    obtain ⟨v, hv, rv3⟩ := rv2.get gy
    have hu' : its.toArray[i]? = some u := by simpa using hu
    have hv' : its2.toArray[i]? = some v := by simpa using hv
    have D1 := Draws.tuple (prog := X.prog) (w := X.w) (A := X.A.in1) (I.ok.hd hc) c a D.ac its.toArray
    have D2 := Draws.list (prog := X.prog) (w := X.w) (A := X.A.in1) (I.ok.hd hc) d b D.bd its2.toArray
    have zl : z < s.heap.objs.size := Heap.lt_size hz
    have n1 : i < its.toArray.size := (Array.getElem?_eq_some_iff.mp hu').1
    have n2 : i < its2.toArray.size := (Array.getElem?_eq_some_iff.mp hv').1
    refine wpAny_pyNext_zipD2_item D.sep D1 D2 hz hp hq ⟨h1, pt⟩ ⟨h2, pl.isList⟩ n1 n2 fun x1 x2 h' tk g1 g2 z' q' c' d' t' _ kp => ?_
    have e1 : x1 = u := by rw [hu'] at g1; exact (Option.some.inj g1).symm
    have e2 : x2 = v := by rw [hv'] at g2; exact (Option.some.inj g2).symm
    subst e1 e2
    refine ⟨_, rfl, wpAny_letOwnedTupleGo_zip (s := { s with heap := h', toks := tk }) z' fun h'' z'' sb => ?_⟩
    have t2 : h''.get? s.heap.objs.size = some { cls := .type "tuple", data := .seq #[x1, x2] } := (sb.2 _ (Nat.ne_of_gt zl)).trans t'
    have nw : ObjOk X.prog X.w (upd H s.heap.objs.size (.tup [x, y])) h'' s.heap.objs.size (.tup [x, y]) := ⟨by show 2 ≤ sizeLine; decide, [x1, x2], .cons ru (.cons rv3 .nil), ⟨_, t2, rfl, _, rfl⟩⟩
    have old : ∀ e o, ¬ e ∈ [z, p, q, c, d] → s.heap.get? e = some o → h''.get? e = some o := fun e o ne g => by
      simp only [List.mem_cons, List.not_mem_nil, or_false, not_or] at ne
      exact (sb.2 e ne.1).trans (kp e o ne.1 ne.2.2.1 ne.2.2.2.1 ne.2.2.2.2 g)
    have J : Inv X pins σ (upd H s.heap.objs.size (.tup [x, y])) { s with heap := h'', toks := tk } := I.turnedNew (ch := [z, p, q, c, d]) (fun e o ne g => old e o ne g) hf (Nat.le_refl _) nw
    refine ⟨.ref s.heap.objs.size, _, J, rfl, ⟨_, x, y, rfl, I.hok.fresh (Nat.le_refl _), rfl, fun l hl => by rw [I.tuple_inj hl sx]; exact gx, fun l hl => by rw [I.list_inj hl sy]; exact gy⟩, ?_, fun e he => ?_⟩
    · refine ⟨z'', (sb.2 _ D.pz).trans (kp _ _ D.pz D.pq D.pc D.pd hp), ⟨x1, x2, (sb.2 _ D.qz).trans q'⟩, ?_, ?_⟩
      · exact c'.1.at fun o g => (sb.2 _ (Ne.symm D.zc)).trans g
      · exact d'.1.at fun o g => (sb.2 _ (Ne.symm D.zd)).trans g
    · have lt : e < s.heap.objs.size := by
        rcases mem5 he with g | g | g | g | g <;> subst g
        · exact zl
        · exact Heap.lt_size hp
        · exact Heap.lt_size hq
        · obtain ⟨_, g, _⟩ := h1; exact Heap.lt_size g
        · obtain ⟨_, g, _⟩ := h2; exact Heap.lt_size g
      rw [upd_ne (Nat.ne_of_lt lt)]
      exact (hf e he).1
  done := by
    intro X hP hw hK hc i pins s σ H E I hf st hg
    subst hP hw hK
    obtain ⟨hz, hp, ⟨u0, v0, hq⟩, h1, h2⟩ := st
    obtain ⟨xs, ys, sx, sy, gx, gy⟩ := hg
    obtain ⟨its, rv, pt, _⟩ := I.tuple sx
    obtain ⟨its2, rv2, pl, _⟩ := I.list sy
    have D1 := Draws.tuple (prog := X.prog) (w := X.w) (A := X.A.in1) (I.ok.hd hc) c a D.ac its.toArray
    have D2 := Draws.list (prog := X.prog) (w := X.w) (A := X.A.in1) (I.ok.hd hc) d b D.bd its2.toArray
    have l1 : its.toArray.size = i := by rw [List.size_toArray, ← rv.length]; exact gx
    have l2 : its2.toArray.size = i := by rw [List.size_toArray, ← rv2.length]; exact gy
    refine wpAny_pyNext_zipD2_end D.sep D1 D2 hz hp hq ⟨h1, pt⟩ ⟨h2, pl.isList⟩ (by omega) (by omega) (by omega) fun h' tk kp => ⟨rfl, ?_⟩
    refine I.turnedL (ch := [z, p, q, c, d]) (fun e o ne g => ?_) hf
    simp only [List.mem_cons, List.not_mem_nil, or_false, not_or] at ne
    exact kp e o ne.1 ne.2.2.1 ne.2.2.2.1 ne.2.2.2.2 g
  self := fun A i s Q E st k => wpAny_pyIter_zip st.1 k
def iZipM (K : Fg) (ta : TA) : TI := fun σ H R => ta σ H fun vs H1 => ∃ a b xs ys, vs = [.ref a, .ref b] ∧ SqT K H1 a xs ∧ SqL K H1 b ys ∧ R (ItZm K a b) H1
theorem pi_zipM {X : Cx} {e e2 : Expr} {ta : TA} {p pos tpos : Pos} {elts : List Expr} {kk : Nat} (hg : Gl X "zip") (hm : X.mg "zip" = none) (ha : PA X [e, e2] ta)
    (hs : starEach [e, e2] X.env = (false, eval e X.env) :: starEach [e2] X.env) (hpl : (backTo pos (starEach [e2] X.env)).any (·.1) = false) :
    PI X (.Tuple elts kk tpos) (.Call (.Name "zip" p) [e, e2] [] pos) (iZipM X.K ta) := by
  refine ⟨fun pins s σ H R I z => ?_⟩
  refine Call_ (ld_blt I hg hm PyProof.Rows.boot_zip (PyProof.Rows.callWith_type1 (thn (ha.run pos pins s σ H _ I z) fun us s1 ⟨vs, H1, I1, r1, q1⟩ => ?_) hs hpl))
  obtain ⟨a, b, xs, ys, rfl, sx, sy, q⟩ := q1
  cases r1 with
  | cons ra rr =>
    cases rr with
    | cons rb rr =>
      cases rr
      cases ra
      cases rb
      obtain ⟨its, rv, pt, _⟩ := I1.tuple sx
      obtain ⟨its2, rv2, pl, _⟩ := I1.list sy
      have al : a < s1.heap.objs.size := by obtain ⟨o, g, _⟩ := id pt; exact Heap.lt_size g
      have bl : b < s1.heap.objs.size := pl.lt
      refine zip_begins2 (begins_tuple a its.toArray) (begins_list b its2.toArray) pt pl.isList fun h' hz hp hq g1 g2 _ kp => wpAny_pyIter_zip hz ?_
      have I2 : Inv X pins σ H1 { s1 with heap := h' } := I1.kept (t' := s1.toks) kp
      refine ⟨s1.heap.objs.size + 4, [s1.heap.objs.size + 4, s1.heap.objs.size + 2, s1.heap.objs.size + 3, s1.heap.objs.size, s1.heap.objs.size + 1], _, _, H1, rfl, I2, turn_zipM (zmA_of _ a b al bl), ⟨hz, hp, ⟨_, _, hq⟩, ⟨_, g1, rfl, rfl⟩, ⟨_, g2, rfl, rfl⟩⟩, fun e he => ?_, q⟩
      have ge : s1.heap.objs.size ≤ e := mem5n he
      exact I1.fpOk ge (I1.hok.fresh ge)
end DL
set_option maxHeartbeats 8000000
namespace DL
open PySem PySem.Spec PyProof.Rows L2
section
variable {prog : Program} {w : World} {A : Around} {E : Value → Shared → Prop} {s : Shared}
abbrev shI : Nat → Bool := fun _ => false
def kI (h : Heap) (v : Value) : List (Int ⊕ List Nat) := (tupKey h shI v).getD []
/-- a tuple of the numbers ns, one at least -/
def IsTI (h : Heap) (v : Value) (ns : List Int) : Prop := ∃ a o us n, v = .ref a ∧ h.get? a = some o ∧ o.cls = .type "tuple" ∧ o.data = .seq us n ∧ Vals (ns.map V.int) us.toList ∧ ns ≠ []
theorem IsTI.keeps {h h' : Heap} {v : Value} {ns : List Int} (p : IsTI h v ns) (k : ∀ b o, h.get? b = some o → o.cls = .type "tuple" → h'.get? b = some o) : IsTI h' v ns := by
  obtain ⟨a, o, us, n, e, ho, hc, r⟩ := p
  exact ⟨a, o, us, n, e, k _ _ ho hc, hc, r⟩
end
end DL
set_option maxHeartbeats 8000000
namespace DL
open PySem PySem.Spec PyProof.Rows L2
def fI (h : Heap) (v : Value) : List Int := (kI h v).filterMap fun x => match x with
  | .inl i => some i
  | .inr _ => none
section
variable {X : Cx} {pins : List (Addr × Obj)} {σ : L2.St} {H : Hp} {s : Shared}
end
end DL
set_option maxHeartbeats 8000000
namespace DL
open PySem PySem.Spec PyProof.Rows L2
def keyD : Key → D
  | .inl i => .int i
  | .inr x => .str x
def keyTD (k : List Key) : D := .tup (k.map keyD)
def keysD : List D → Option (List Key)
  | [] => some []
  | .int i :: r => (keysD r).map (.inl i :: ·)
  | .str x :: r => (keysD r).map (.inr x :: ·)
  | _ => none
def keyT : W → Option (List Key)
  | .d (.tup xs) => keysD xs
  | _ => none
theorem keysD_map : ∀ k : List Key, keysD (k.map keyD) = some k
  | [] => rfl
  | .inl i :: k => by simp [keyD, keysD, keysD_map k]
  | .inr x :: k => by simp [keyD, keysD, keysD_map k]
@[simp] theorem keyT_k (k : List Key) : keyT (.d (keyTD k)) = some k := keysD_map k
section
variable {K : Fg} {R : Rg} {H H₁ : Hp}
theorem keysD_of : ∀ {xs : List D} {vs : List V} {k : List Key}, RelDs K R H xs vs → keysD xs = some k → vs = k.map kV
  | [], vs, k, r, e => by cases r_nil r; cases e; rfl
  | d :: xs, vs, k, r, e => by
    obtain ⟨v, q, rfl, r1, r2⟩ := r_cons r
    cases d <;> first | (simp [keysD] at e; done) | skip
    · simp only [keysD] at e
      obtain ⟨k', e1, rfl⟩ := Option.map_eq_some_iff.mp e
      cases r_int r1
      rw [keysD_of r2 e1]; rfl
    · simp only [keysD] at e
      obtain ⟨k', e1, rfl⟩ := Option.map_eq_some_iff.mp e
      cases r_str r1
      rw [keysD_of r2 e1]; rfl
theorem keyT_of {w : W} {v : V} {k : List Key} (r : RelW K H₁ R H w v) (e : keyT w = some k) : ∃ b, v = .ref b ∧ H b = some (.tup (k.map kV)) := by
  unfold keyT at e
  split at e
  · obtain ⟨a, vs, rfl, q, t⟩ := rw_tup r
    rw [keysD_of t e] at q
    exact ⟨a, rfl, q⟩
  · cases e
theorem key_rel : ∀ {k : List Key}, RelDs K R H (k.map keyD) (k.map kV)
  | [] => m_nil
  | .inl i :: k => m_cons m_int key_rel
  | .inr x :: k => m_cons m_str key_rel
end
section
variable {X : Cx} {C : Cn} {Wx : WX}
def rDin (ng : Bool) : R2 := fun y x H Q => ∃ a o, x = .ref a ∧ DGet H a y o ∧ Q (.bl (xor ng o.isSome)) H
def inP (ng : Bool) : CmpOp := if ng then .NotIn else .In
theorem op_din (ng : Bool) (hu : X.A.units + 1 < cLine) : OpR X (compareOp (inP ng)) (rDin ng) := by
  intro pins s σ H x y v u Q I rx ry h
  obtain ⟨a, o, rfl, g, q⟩ := h
  obtain rfl : u = Value.ref a := ry
  cases ng with
  | false => exact d_in hu I g rx fun s3 I3 => ⟨.bl o.isSome, H, I3, rfl, by simpa using q⟩
  | true => exact d_notIn hu I g rx fun s3 I3 => ⟨.bl (!o.isSome), H, I3, rfl, by simpa using q⟩
def dItZ (ta tb : TDE) : TDI := fun ds h P Z => dCons ta (dCons tb dNil) ds h (fun xs h' => ∃ as bs, xs = [.tup as, .lst bs] ∧ as.length = bs.length ∧ P ((as.zip bs).map fun p => .tup [p.1, p.2]) h') Z
theorem di_zip {elts : List Expr} {kk : Nat} {tp : Pos} {a b : Expr} {ta tb : TDE} {p pos : Pos} (hK : C.K = X.K) (hg : Gl X "zip") (hm : X.mg "zip" = none) (ha : PE X a (lift C Wx ta)) (hb : PE X b (lift C Wx tb)) (hs : starEach [a, b] X.env = (false, eval a X.env) :: starEach [b] X.env) (hs2 : starEach [b] X.env = (false, eval b X.env) :: starEach [] X.env) :
    PI X (.Tuple elts kk tp) (.Call (.Name "zip" p) [a, b] [] pos) (liftI C Wx (dItZ ta tb)) :=
  (pi_zipM hg hm (da_cons ha (da_cons hb da_nil hs2) hs) hs (by rw [hs2]; rfl)).imD fun σ H Q q => by
    obtain ⟨R, ds, h, P, Z, e, p, k, z⟩ := q
    refine ⟨R, ds, h, _, Z, e, p, fun R' H' h' xs vs ⟨as, bs, hx, hl, p'⟩ x e' r => ?_, z⟩
    subst hx
    obtain ⟨v1, q1, rfl, r1, r2⟩ := r_cons r
    obtain ⟨v2, q2, rfl, r3, r4⟩ := r_cons r2
    cases r_nil r4
    obtain ⟨x1, us, rfl, s1, t1⟩ := r_tup r1
    obtain ⟨x2, ws, rfl, s2, t2⟩ := r_lst r3
    refine ⟨x1, x2, us, ws, rfl, s1.sq, hK ▸ s2.sq, k R' H' h' _ _ p' x e' ?_⟩
    rw [← hK]
    have lz : ((as.zip bs).map fun p => D.tup [p.1, p.2]).length = as.length := by simp [hl]
    have l1 := relDs_len t1
    have l2 := relDs_len t2
    refine ⟨fun i R2 H2 m hi => ?_, fun R2 H2 m => ⟨us, ws, (m.tup _ _ s1).sq, (m.lst _ _ s2).sq, by omega, by omega⟩, fun i R2 H2 v H3 d ds σ h m e2 hd y => ?_⟩
    · have h1 : i < us.length := by omega
      have h2 : i < ws.length := by omega
      exact ⟨us, ws, us[i], ws[i], (m.tup _ _ s1).sq, (m.lst _ _ s2).sq, by simp [h1], by simp [h2]⟩
    · obtain ⟨T, y1, y2, rfl, nT, rfl, g1, g2⟩ := y
      have hi : i < as.length := by rw [← lz]; exact (List.getElem?_eq_some_iff.mp hd).1
      have hi2 : i < bs.length := by omega
      have ed : d = .tup [as[i], bs[i]] := by
        rw [List.getElem?_map, List.getElem?_eq_getElem (show i < (as.zip bs).length by rw [List.length_zip]; omega)] at hd
        simp at hd
        exact hd.symm
      subst ed
      obtain ⟨u, hu, ru⟩ := relDs_get t1 (List.getElem?_eq_getElem hi)
      obtain ⟨w, hw, rw_⟩ := relDs_get t2 (List.getElem?_eq_getElem hi2)
      have f1 := g1 us (m.tup _ _ s1).sq
      have f2 := g2 ws (m.lst _ _ s2).sq
      rw [hu] at f1; cases f1
      rw [hw] at f2; cases f2
      exact ⟨Ex.fresh nT, e2.fresh nT, m_tup upd_same (m_cons (relD_ex e2.ok (Ex.fresh nT) (relD_mo m ru)) (m_cons (relD_ex e2.ok (Ex.fresh nT) (relD_mo m rw_)) m_nil))⟩
end
end DL
set_option maxHeartbeats 8000000
namespace DL
open PySem PySem.Spec PyProof.Rows L2
inductive SM where
  | starts | ends
def SM.nm : SM → Str
  | .starts => "startswith" | .ends => "endswith"
def SM.f : SM → Str → Str → Bool
  | .starts => Txt.startswith | .ends => Txt.endswith
section
variable {X : Cx} {C : Cn} {Wx : WX}
end
end DL
set_option maxHeartbeats 8000000
namespace DL
open PySem PySem.Spec PyProof.Rows L2
section
variable {prog : Program} {w : World} {A : Around} {E : Value → Shared → Prop} {s : Shared}
/-- a tuple whose first item is the text y -/
def IsTX (h : Heap) (v : Value) (y : Str) : Prop := ∃ a o us n t r, v = .ref a ∧ h.get? a = some o ∧ o.cls = .type "tuple" ∧ o.data = .seq us n ∧ us.toList = Value.str y t :: r
theorem IsTX.keeps {h h' : Heap} {v : Value} {y : Str} (p : IsTX h v y) (k : ∀ b o, h.get? b = some o → o.cls = .type "tuple" → h'.get? b = some o) : IsTX h' v y := by
  obtain ⟨a, o, us, n, t, r, e, ho, hc, q⟩ := p
  exact ⟨a, o, us, n, t, r, e, k _ _ ho hc, hc, q⟩
end
section
variable {X : Cx} {pins : List (Addr × Obj)} {σ : L2.St} {H : Hp} {s : Shared}
end
end DL
set_option maxHeartbeats 8000000
namespace DL
open PySem PySem.Spec PyProof.Rows L2
section
variable {prog : Program} {w : World} {A : Around} {E : Value → Shared → Prop} {s : Shared} {l : Addr}
end
section
variable {X : Cx} {C : Cn} {Wx : WX}
end
end DL
set_option maxHeartbeats 8000000
namespace DL
open PySem PySem.Spec PyProof.Rows L2
section
variable {prog : Program} {w : World} {A : Around} {E : Value → Shared → Prop} {s : Shared} {h0 : Heap} {a kS : Addr} {vs : List Value} {ks : List Str} {keys : Array Value} {e e1 : Nat} {P : PySem.Fin → Shared → Prop}
end
end DL
set_option maxHeartbeats 8000000
namespace DL
open PySem PySem.Spec PyProof.Rows L2
section
variable {prog : Program} {w : World} {A : Around} {s : Shared}
end
section
variable {X : Cx} {pins : List (Addr × Obj)} {σ : L2.St} {H : Hp} {s : Shared}
end
section
variable {X : Cx} {C : Cn} {Wx : WX}
end
end DL
set_option maxHeartbeats 8000000
namespace L2
open PySem PySem.Spec PyProof.Rows
section
variable {X : Cx} {pins : List (Addr × Obj)} {σ : St} {H : Hp} {s : Shared} {d : Addr} {o : Obj}
end
/-- the thing at d is locked for good -/
def tLockF (t : TS) : TS := fun D σ H => ∃ d u, H d = some u ∧ Mut (some u) ∧ ∀ od, t D σ (upd H d (.frz od u))
theorem ps_lockF {X : Cx} {st : Stmt} {t : TS} (h : PS X st t) : PS X st (tLockF t) := by
  refine ⟨fun pins s σ H D I hw => ?_⟩
  obtain ⟨d, u, hd, mu, hw⟩ := hw
  obtain ⟨od, I1⟩ := I.lock hd mu
  exact h.run pins s σ _ _ I1 (hw od)
end L2
namespace DL
open PySem PySem.Spec PyProof.Rows L2
section
variable {K : Fg} {R : Rg} {H : Hp}
theorem relKd_get {κ : Type} : ∀ {kvs : List (κ × D)} {ks : List (κ × V)} {i : Nat} {k : κ} {v : V}, RelKd K R H kvs ks → ks[i]? = some (k, v) → ∃ d, kvs[i]? = some (k, d) ∧ RelD K R H d v
  | [], ks, i, k, v, r, e => by cases (show ks = [] from r); simp at e
  | (x, y) :: kvs, ks, i, k, v, r, e => by
    obtain ⟨u, q, rfl, r1, r2⟩ := r
    cases i with
    | zero => simp at e; obtain ⟨rfl, rfl⟩ := e; exact ⟨y, rfl, r1⟩
    | succ i => exact relKd_get (i := i) r2 (by simpa using e)
end
section
variable {X : Cx} {C : Cn} {Wx : WX}
theorem src_keysT {R : Rg} {H : Hp} {a : Addr} {o : Obj} {kvs : List (List Key × D)} {ks : List (List Key × V)} (e : H a = some (.frz o (.dT ks))) (t : RelKd C.K R H kvs ks) : Src C R H (kvs.map fun kv => keyTD kv.1) (Itkt a o ks) := by
  refine ⟨fun i R' H' m hi => ⟨m.lk _ _ _ e, by simpa [relKd_len t] using hi⟩, fun R' H' m => ⟨m.lk _ _ _ e, by simp [relKd_len t]⟩, fun i R' H' v H2 d ds σ h m e2 hd y => ?_⟩
  obtain ⟨rfl, k, u, q, hk, rfl, hq⟩ := y
  obtain ⟨d', hd', _⟩ := relKd_get t hk
  rw [List.getElem?_map, hd'] at hd
  cases hd
  refine ⟨Ex.refl _ _, e2, ?_⟩
  show RelD C.K R' _ (.tup (k.map keyD)) (.ref q)
  unfold RelD
  exact ⟨q, _, rfl, hq, key_rel⟩
theorem src_keysK {R : Rg} {H : Hp} {a : Addr} {o : Obj} {kvs : List (Key × D)} {ks : List (Key × V)} (e : H a = some (.frz o (.dK ks))) (t : RelKd C.K R H kvs ks) : Src C R H (kvs.map fun kv => keyD kv.1) (Itk a o ks) := by
  refine ⟨fun i R' H' m hi => ⟨m.lk _ _ _ e, by simpa [relKd_len t] using hi⟩, fun R' H' m => ⟨m.lk _ _ _ e, by simp [relKd_len t]⟩, fun i R' H' v H2 d ds σ h m e2 hd y => ?_⟩
  obtain ⟨rfl, k, u, hk, rfl⟩ := y
  obtain ⟨d', hd', _⟩ := relKd_get t hk
  rw [List.getElem?_map, hd'] at hd
  cases hd
  refine ⟨Ex.refl _ _, e2, ?_⟩
  cases k with
  | inl i => exact m_int
  | inr x => exact m_str
theorem src_itemsK {R : Rg} {H : Hp} {a : Addr} {o : Obj} {kvs : List (Key × D)} {ks : List (Key × V)} (e : H a = some (.frz o (.dK ks))) (t : RelKd C.K R H kvs ks) : Src C R H (kvs.map fun kv => .tup [keyD kv.1, kv.2]) (Iti a o ks) := by
  refine ⟨fun i R' H' m hi => ⟨m.lk _ _ _ e, by simpa [relKd_len t] using hi⟩, fun R' H' m => ⟨m.lk _ _ _ e, by simp [relKd_len t]⟩, fun i R' H' v H2 d ds σ h m e2 hd y => ?_⟩
  obtain ⟨T, k, u, hk, rfl, hT, rfl⟩ := y
  obtain ⟨d', hd', r⟩ := relKd_get t hk
  rw [List.getElem?_map, hd'] at hd
  cases hd
  have x1 : Ex R' H' R' (upd H' T (.tup [kV k, u])) := Ex.fresh hT
  refine ⟨x1, e2.fresh hT, ?_⟩
  unfold RelD
  refine ⟨T, [kV k, u], rfl, upd_same, m_cons ?_ (m_cons (relD_ex e2.ok x1 (relD_mo m r)) m_nil)⟩
  cases k with
  | inl i => exact m_int
  | inr x => exact m_str
/-- for k in d -/
def dItDk (t : TDE) : TDI := fun ds h P Z => dD t ds h (fun d h' => ∃ n, d = .ref n ∧ ((∃ kvs, h'[n]? = some (.fit kvs) ∧ P (kvs.map fun kv => keyTD kv.1) h') ∨ ∃ kvs, h'[n]? = some (.fic kvs) ∧ P (kvs.map fun kv => keyD kv.1) h')) Z
theorem di_dk {tg e : Expr} {t : TDE} (he : PE X e (lift C Wx t)) : PI X tg e (liftI C Wx (dItDk t)) := (pi_keys (pe_D he)).imD fun σ H Q q => by
  obtain ⟨R, ds, h, P, Z, e, p, k, z⟩ := q
  refine ⟨R, ds, h, _, Z, e, p, fun R' H' h' d v ⟨n, hd, p'⟩ x e' r => ?_, z⟩
  subst hd
  obtain ⟨_, rfl⟩ := r_ref r
  rcases p' with ⟨kvs, hn, p'⟩ | ⟨kvs, hn, p'⟩
  · obtain ⟨u, hu, o, ks, rfl, t⟩ := e'.ok.obj n _ hn
    exact ⟨_, o, rfl, .inr ⟨ks, hu, k R' H' h' _ _ p' x e' (src_keysT hu t)⟩⟩
  · obtain ⟨u, hu, o, ks, rfl, t⟩ := e'.ok.obj n _ hn
    exact ⟨_, o, rfl, .inl ⟨ks, hu, k R' H' h' _ _ p' x e' (src_keysK hu t)⟩⟩
def dItCi (t : TDE) : TDI := fun ds h P Z => dD t ds h (fun d h' => ∃ n, d = .ref n ∧ ∃ kvs, h'[n]? = some (.fic kvs) ∧ P (kvs.map fun kv => .tup [keyD kv.1, kv.2]) h') Z
theorem di_ci {elts : List Expr} {kk : Nat} {tpos apos cpos : Pos} {e : Expr} {t : TDE} (he : PE X e (lift C Wx t)) (hbase : attributeBase e "items" X.env (eval e X.env) = eval e X.env) (hline : (apos.endLine == cpos.line) = true) :
    PI X (.Tuple elts kk tpos) (.Call (.Attribute e "items" apos) [] [] cpos) (liftI C Wx (dItCi t)) := (pi_items (pe_D he) hbase hline).imD fun σ H Q q => by
  obtain ⟨R, ds, h, P, Z, e, p, k, z⟩ := q
  refine ⟨R, ds, h, _, Z, e, p, fun R' H' h' d v ⟨n, hd, kvs, hn, p'⟩ x e' r => ?_, z⟩
  subst hd
  obtain ⟨_, rfl⟩ := r_ref r
  obtain ⟨u, hu, o, ks, rfl, t⟩ := e'.ok.obj n _ hn
  exact ⟨_, o, ks, rfl, hu, k R' H' h' _ _ p' x e' (src_itemsK hu t)⟩
def dFzd (i : Nat) (t : TDS) : TDS := fun ds h P => ∃ n, ds[i]? = some (some (.d (.ref n))) ∧ ((∃ kvs, h[n]? = some (.dit kvs) ∧ t ds (h.set n (.fit kvs)) P) ∨ ∃ kvs, h[n]? = some (.dic kvs) ∧ t ds (h.set n (.fic kvs)) P)
theorem ds_fzd {i : Nat} {st : Stmt} {t : TDS} (hs : PS X st (liftS C Wx t)) : PS X st (liftS C Wx (dFzd i t)) := (ps_lockF hs).imD fun D σ H q => by
  obtain ⟨R, ds, h, P, e, ⟨n, hi, p⟩, k⟩ := q
  rcases p with ⟨kvs, hn, p⟩ | ⟨kvs, hn, p⟩
  · obtain ⟨u, hu, ks, rfl, t⟩ := e.ok.obj n _ hn
    refine ⟨R.at_ n, .dT ks, hu, trivial, fun od => ?_⟩
    obtain ⟨e1, m1⟩ := e.hw (o2 := .fit kvs) (u2 := .frz od (.dT ks)) hn ⟨od, ks, rfl, t⟩
    exact ⟨R, ds, _, P, e1, p, k.later m1⟩
  · obtain ⟨u, hu, ks, rfl, t⟩ := e.ok.obj n _ hn
    refine ⟨R.at_ n, .dK ks, hu, trivial, fun od => ?_⟩
    obtain ⟨e1, m1⟩ := e.hw (o2 := .fic kvs) (u2 := .frz od (.dK ks)) hn ⟨od, ks, rfl, t⟩
    exact ⟨R, ds, _, P, e1, p, k.later m1⟩
def dFin (ng : Bool) (ta td : TDE) : TDE := fun ds h P Z => ta ds h (fun y h1 => td ds h1 (fun x h2 => ∃ n kvs k, x = .d (.ref n) ∧ h2[n]? = some (.fit kvs) ∧ keyT y = some k ∧ P (.d (.bl (xor ng (valD kvs k).isSome))) h2) Z) Z
def dFinT (ng : Bool) (ta td : TDE) : TDT := fun ds h P Z => ta ds h (fun y h1 => td ds h1 (fun x h2 => ∃ n kvs k, x = .d (.ref n) ∧ h2[n]? = some (.fit kvs) ∧ keyT y = some k ∧ P (xor ng (valD kvs k).isSome) h2) Z) Z
theorem fin_of {R : Rg} {H H0 : Hp} {ds : DSt} {σ : Sl} {h : Hs} {n : Nat} {kvs : List (List Key × D)} {k : List Key} {y : W} {v u : V} {P : Bool → Prop} {Q : VK} {ng : Bool} (e : Env C R ds σ H h) (ry : RelW C.K H0 R H y v) (rx : RelW C.K H0 R H (.d (.ref n)) u) (hn : h[n]? = some (.fit kvs)) (hk : keyT y = some k)
    (p : P (xor ng (valD kvs k).isSome)) (kk : ∀ b, P b → Q (.bl b) H) : rDin ng v u H Q := by
  have rx : RelD C.K R H (.ref n) u := rx
  obtain ⟨_, rfl⟩ := r_ref rx
  obtain ⟨uo, hu', o, ks, rfl, t⟩ := e.ok.obj n _ hn
  obtain ⟨b, rfl, hb⟩ := keyT_of ry hk
  refine ⟨_, _, rfl, .inr ⟨ks, k, b, .inr ⟨o, hu'⟩, rfl, hb, rfl⟩, kk _ ?_⟩
  have : (valV ks k).isSome = (valD kvs k).isSome := by
    cases g : valD kvs k with
    | none => rw [relKd_no t g]; rfl
    | some d => obtain ⟨v, e3, _⟩ := relKd_val t g; rw [e3]; rfl
  rw [this]; exact p
theorem de_fin {ng : Bool} {a b : Expr} {ta tb : TDE} {pos : Pos} (hu : X.A.units + 1 < cLine) (hm : behindInMarks (inP ng) b = false) (ha : PE X a (lift C Wx ta)) (hb : PE X b (lift C Wx tb)) : PE X (.Compare a [inP ng] [b] pos) (lift C Wx (dFin ng ta tb)) :=
  (pe_cmpR (op_din ng hu) ha hb hm).imD fun σ H Q q => by
    obtain ⟨R, ds, h, P, Z, e, p, k, z⟩ := q
    refine ⟨R, ds, h, _, Z, e, p, fun R1 H1 h1 w1 v1 p1 x1 e1 r1 => ?_, z⟩
    refine ⟨R1, ds, h1, _, Z, e1, p1, fun R2 H2 h2 w2 v2 ⟨n, kvs, ky, hx, hn, hk, p2⟩ x2 e2 r2 => ?_, fun R' H' h' x cls dd a b c d => z R' H' h' x cls dd a (x1.trans b) c d⟩
    subst hx
    exact fin_of (P := fun b => P (.d (.bl b)) h2) e2 (relW_ex e1.ok x2 r1) (relW_start x1.dom r2) hn hk p2 fun b pb => k R2 H2 h2 _ _ pb (x1.trans x2) e2 mw_bl
theorem dt_fin {ng : Bool} {a b : Expr} {ta tb : TDE} {pos : Pos} (hu : X.A.units + 1 < cLine) (hm : behindInMarks (inP ng) b = false) (ha : PE X a (lift C Wx ta)) (hb : PE X b (lift C Wx tb)) : PT X (.Compare a [inP ng] [b] pos) (liftT C Wx (dFinT ng ta tb)) :=
  (pt_cmpR (op_din ng hu) ha hb hm).imD fun σ H Q q => by
    obtain ⟨R, ds, h, P, Z, e, p, k, z⟩ := q
    refine ⟨R, ds, h, _, Z, e, p, fun R1 H1 h1 w1 v1 p1 x1 e1 r1 => ?_, z⟩
    refine ⟨R1, ds, h1, _, Z, e1, p1, fun R2 H2 h2 w2 v2 ⟨n, kvs, ky, hx, hn, hk, p2⟩ x2 e2 r2 => ?_, fun R' H' h' x cls dd a b c d => z R' H' h' x cls dd a (x1.trans b) c d⟩
    subst hx
    exact fin_of (P := fun b => P b h2) e2 (relW_ex e1.ok x2 r1) (relW_start x1.dom r2) hn hk p2 fun b pb => ⟨b, rfl, k R2 H2 h2 b pb (x1.trans x2) e2⟩
/-- a list in flight or at rest -/
def isL : W → Bool
  | .own _ => true
  | .new _ => true
  | .d (.lst _) => true
  | .d (.fro _) => true
  | _ => false
end
end DL
namespace DL
open PySem PySem.Spec PyProof.Rows L2
section
variable {X : Cx} {C : Cn} {Wx : WX}
end
end DL
namespace DL
open PySem PySem.Spec PyProof.Rows L2
section
variable {X : Cx} {C : Cn} {Wx : WX}
end
end DL
set_option maxHeartbeats 8000000
namespace DL
open PySem PySem.Spec PyProof.Rows L2
section
variable {X : Cx} {C : Cn} {Wx : WX}
end
end DL
set_option maxHeartbeats 8000000
namespace DT
open PySem PySem.W PySem.Calls PyProof.Rows PyProof.V PySem.Spec
section
variable {K : Type} [DecidableEq K]
variable {prog : Program} {w : World} {knd : HeapKind prog w K} {A : Around} {E : Value → Shared → Prop} {s : Shared}
end
end DT
namespace L2
open PySem PySem.Spec PyProof.Rows
section
variable {X : Cx} {o e : Expr} {apos cpos : Pos} {td ty : TE}
end
end L2
namespace DL
open PySem PySem.Spec PyProof.Rows L2
section
variable {X : Cx} {C : Cn} {Wx : WX}
end
end DL
set_option maxHeartbeats 8000000
namespace L2
open PySem PySem.Spec PyProof.Rows
section
variable {X : Cx}
end
end L2
namespace DL
open PySem PySem.Spec PyProof.Rows L2
section
variable {X : Cx} {C : Cn} {Wx : WX}
end
end DL
set_option maxHeartbeats 8000000
namespace L2
open PySem PySem.Spec PyProof.Rows
section
variable {X : Cx}
end
end L2
namespace DL
open PySem PySem.Spec PyProof.Rows L2
section
variable {X : Cx} {C : Cn} {Wx : WX}
end
end DL
set_option maxHeartbeats 8000000
namespace PySem
open PySem.W PyProof.Rows PyProof.V PySem.Spec
section
variable {prog : Program} {w : World} {K : Type} [DecidableEq K] {knd : HeapKind prog w K} {A : Around} {E : Value → Shared → Prop} {s : Shared}
end
end PySem
namespace L2
open PySem PySem.Spec PyProof.Rows
section
variable {X : Cx} {pins : List (Addr × Obj)} {σ : St} {H : Hp} {s : Shared} {A : Around} {E : Value → Shared → Prop}
end
end L2
namespace DL
open PySem PySem.Spec PyProof.Rows L2
section
variable {X : Cx} {C : Cn} {Wx : WX}
end
end DL
set_option maxHeartbeats 8000000
namespace DL
open PySem PySem.Spec PyProof.Rows L2
section
variable {X : Cx} {C : Cn} {Wx : WX}
structure SrcO (C : Cn) (R : Rg) (H : Hp) (ds : DSt) (σ : Sl) (xs : List D) (J : It) : Prop where
  go : ∀ i R' H' h', Mo C.K R H R' H' → Env C R' ds σ H' h' → i < xs.length → J.go i H'
  stop : ∀ R' H' h', Mo C.K R H R' H' → Env C R' ds σ H' h' → J.stop xs.length H'
  yld : ∀ i R' H' v H2 d h, Mo C.K R H R' H' → Env C R' ds σ H' h → xs[i]? = some d → J.yld i H' v H2 → Ex R' H' R' H2 ∧ Env C R' ds σ H2 h ∧ RelD C.K R' H2 d v
end
end DL
set_option maxHeartbeats 4000000
namespace DL
open PySem PySem.Spec PyProof.Rows L2
/-- a < b < c as a value -/
def dChainV (op op' : Cop) (ta tb tc : TDE) : TDE := fun ds h P Z => ta ds h (fun x h1 => tb ds h1 (fun y h2 => wCmp op x y fun z => ∃ b, z = .d (.bl b) ∧
  if b = true then tc ds h2 (fun u h3 => wCmp op' y u fun z => P z h3) Z else P (.d (.bl false)) h2) Z) Z
/-- what the module's defs promise, its constants -/
structure Fns where
  f : Nat → FnD
  c : Nat → D
  a : Addr → ActD := noA
  g : Nat → HFn := fun _ _ _ _ _ => False
/-- within a block or a lambda: nothing that was handed in is called -/
def Fns.q (F : Fns) : Fns := { F with a := noA }
@[simp] theorem Fns.q_f (F : Fns) : F.q.f = F.f := rfl
@[simp] theorem Fns.q_c (F : Fns) : F.q.c = F.c := rfl
@[simp] theorem Fns.q_g (F : Fns) : F.q.g = F.g := rfl
@[simp] theorem Fns.q_q (F : Fns) : F.q.q = F.q := rfl
/-- what is known of the module: its defs (name, arity, whether they show), free names, constants -/
structure Gm where
  sh : Bool
  fn : List (Str × Nat × Bool)
  free : List Str
  con : List Str
  hn : List Str := []
  ps : List (List Str) := []
  lm : Bool := false
  ko : List (Option (Nat × List (Str × Kq))) := []
/-- a def with parameters by name alone: how many stand by place, the others with their constants -/
def Gm.koA (G : Gm) (i : Nat) : Option (Nat × List (Str × Kq)) := (G.ko[i]?).join
def Gm.q (G : Gm) : Gm := { G with lm := false }
def visB (sc : Scope) (x : Str) : Bool := match sc.names.lookup x with
  | some .local => true
  | some .cell => true
  | some .free => true
  | _ => false
def locB (sc : Scope) (x : Str) : Bool := match sc.names.lookup x with
  | some .local => true
  | some .cell => true
  | _ => false
def lcB (sc : Scope) (x : Str) : Bool := match sc.names.lookup x with
  | some .local => true
  | _ => false
def glB (sc : Scope) (x : Str) : Bool := match sc.names.lookup x with
  | some .globalImplicit => true
  | _ => false
def okN (x : Str) : Bool := !(x == ("__debug__" : Str)) && !(x == ("__classdict__" : Str)) && !decide (x = "__name__")
def noStar : Expr → Bool
  | .Starred _ _ => false
  | _ => true
def plainT : Expr → Bool
  | .UnaryOp .Not _ _ => false
  | .BoolOp _ _ _ => false
  | .IfExp _ _ _ _ => false
  | .Compare _ _ _ _ => false
  | _ => true
def noSlice : Expr → Bool
  | .Slice _ _ _ _ => false
  | _ => true
def noSet : Expr → Bool
  | .Set _ _ _ => false
  | _ => true
def isNoneC : Expr → Bool
  | .Constant .none _ _ => true
  | _ => false
theorem isNoneC_ok {e : Expr} (h : isNoneC e = true) : ∃ j p, e = .Constant .none j p := by
  unfold isNoneC at h
  split at h
  · exact ⟨_, _, rfl⟩
  · cases h
theorem visB_ok {sc : Scope} {x : Str} (h : visB sc x = true) : Vis sc x := by
  unfold visB at h
  split at h
  · exact .inl (by assumption)
  · exact .inr (.inl (by assumption))
  · exact .inr (.inr (by assumption))
  · cases h
theorem locB_ok {sc : Scope} {x : Str} (h : locB sc x = true) : L2.Loc sc x := by
  unfold locB at h
  split at h
  · exact .inl (by assumption)
  · exact .inr (by assumption)
  · cases h
theorem lcB_ok {sc : Scope} {x : Str} (h : lcB sc x = true) : sc.names.lookup x = some .local := by
  unfold lcB at h
  split at h
  · assumption
  · cases h
theorem glB_ok {sc : Scope} {x : Str} (h : glB sc x = true) : sc.names.lookup x = some .globalImplicit := by
  unfold glB at h
  split at h
  · assumption
  · cases h
theorem okN_ok {x : Str} (h : okN x = true) : (x == ("__debug__" : Str)) = false ∧ (x == ("__classdict__" : Str)) = false ∧ x ≠ "__name__" := by
  unfold okN at h
  simp only [Bool.and_eq_true, Bool.not_eq_true', decide_eq_false_iff_not] at h
  exact ⟨h.1.1, h.1.2, h.2⟩
theorem star_ok {e : Expr} {es : List Expr} {env : PySem.Env} (h : noStar e = true) : starEach (e :: es) env = (false, eval e env) :: starEach es env := by
  cases e <;> first | rfl | cases h
theorem plainT_ok {e : Expr} {env : PySem.Env} (h : plainT e = true) : ∀ whole, isTrue e env whole = (do let v ← whole; standAt e.pos; holding [v] (truthy v)) := by
  intro whole
  cases e with
  | UnaryOp op x p => cases op <;> first | rfl | cases h
  | BoolOp _ _ _ => cases h
  | IfExp _ _ _ _ => cases h
  | Compare _ _ _ _ => cases h
  | _ => rfl
theorem noSlice_ok {e : Expr} (h : noSlice e = true) : PlainIx e := by
  intro o i
  cases e <;> first | rfl | cases h
theorem noSet_ok {e : Expr} {env : PySem.Env} (h : noSet e = true) : ∀ x, foldedSetIterable e env x = pure x := by
  intro x
  cases e <;> first | rfl | cases h
mutual
def Tg.chk (loc : Bool) (N : List Str) (sc : Scope) : Tg → Expr → Bool
  | .nm i, .Name x _ => decide (N[i]? = some x) && (if loc then lcB sc x else locB sc x)
  | .tp ts, .Tuple es _ _ => ts.chk loc N sc es
  | _, _ => false
def Tgs.chk (loc : Bool) (N : List Str) (sc : Scope) : Tgs → List Expr → Bool
  | .nil, [] => true
  | .cons t ts, e :: es => noStar e && t.chk loc N sc e && ts.chk loc N sc es
  | _, _ => false
end
def tupE : Expr → Bool
  | .Tuple _ _ _ => true
  | _ => false
def noPar : Arguments → Bool
  | ⟨[], [], none, [], [], none, []⟩ => true
  | _ => false
def keysB : List Str → List (Option Expr) → Bool
  | [], [] => true
  | k :: ks, some (.Constant (.str x) _ _) :: r => decide (k = x) && keysB ks r
  | _, _ => false
def shB (G : Gm) : B1 → Bool
  | .repr => G.sh
  | _ => true
/-- the module's defs at a level -/
def FnAll (G : Gm) (F : Fns) (C : Cn) (gd : Bool) (k : Nat) (P : Program) (w : World) (K : Fg) (mg : Str → Option Value) (base : Heap) : Prop :=
  ∀ i p, G.fn[i]? = some p → ∃ fa fd ps, mg p.1 = some (.ref fa) ∧ PySem.W.keepIn K (.ref fa) = true ∧ ps.length = p.2.1 ∧ (G.koA i = none → Binds K fd ps []) ∧ FnG P w K mg base p.2.2 k fa fd ps (liftF C.K C.Cl p.2.1 (F.f i)) ∧ (p.2.2 = true → gd = true) ∧ (G.koA i = none → BK fd ps) ∧ (∀ qs, G.ps[i]? = some qs → qs = ps) ∧ (∀ np dfl, G.koA i = some (np, dfl) → KoB K fd ps np dfl)
/-- the defs that call what they are handed -/
def HoAll (G : Gm) (F : Fns) (C : Cn) (gd : Bool) (k : Nat) (P : Program) (w : World) (K : Fg) (mg : Str → Option Value) (base : Heap) : Prop :=
  ∀ i x, G.hn[i]? = some x → ∃ fa fd a, mg x = some (.ref fa) ∧ PySem.W.keepIn K (.ref fa) = true ∧ Binds K fd [a] [] ∧ HoG P w C.K mg base gd k fa fd a C.Cl (F.g i)
/-- what stands around a piece of code -/
structure Stat (G : Gm) (F : Fns) (C : Cn) (gd : Bool) (k : Nat) (X : Cx) : Prop where
  hK : C.K = X.K
  calm : X.calm = true
  nd : X.N.Nodup
  units : X.A.units + 65 < cLine
  room : Room k X.A
  gdA : Gd gd X.A
  sh : G.sh = true → gd = true
  free : ∀ x ∈ G.free, X.mg x = none
  con : ∀ j x, G.con[j]? = some x → ∃ v u, X.mg x = some u ∧ RelV v u ∧ ∀ R H, RelD C.K R H (F.c j) v
  fn : FnAll G F C gd k X.prog X.w X.K X.mg X.base
  act : ∀ (pn : List (Addr × Obj)) (xe : Value → Shared → Prop) (Wx : WX) (i : Nat) (x : Str) (p1 p2 : Pos), Takes (X.tr pn xe) Wx → X.N[i]? = some x → Vis X.env.scope x → okN x = true → PE (X.tr pn xe) (.Call (.Name x p1) [] [] p2) (lift C Wx (dAct i F.a))
  lam : G.lm = true → ∃ k', k' + 2 ≤ k ∧ FnAll G F C gd k' X.prog X.w X.K X.mg X.base ∧ HoAll G F C gd (k' + 1) X.prog X.w X.K X.mg X.base ∧
    ∃ c Pt, LamX.TabB X.base X.mg c Pt ∧ X.env.code = .ref c ∧ (Pt, X.env.qual ++ "<lambda>") ∈ C.Cl.T ∧ ∀ p ∈ C.Cl.T, p.1 = Pt → p.2 = X.env.qual ++ "<lambda>"
theorem Stat.blk {G : Gm} {F : Fns} {C : Cn} {gd : Bool} {k : Nat} {X : Cx} (S : Stat G F C gd k X) (s : Shared) (H : Hp) (scope : Scope) (env : PySem.Env) (fp : List Addr) : Stat G.q F.q C gd k (X.blk s H scope env fp) :=
  ⟨S.hK, S.calm, S.nd, S.units, S.room, S.gdA, S.sh, S.free, S.con, S.fn, fun _ _ _ _ _ _ _ _ _ _ _ => de_noact, fun z => Bool.noConfusion z⟩
theorem takesN {X : Cx} : Takes X noW := fun _ _ x => by
  rcases x with x | x
  · obtain ⟨_, _, _, _, _, _, _, _, _, _, _, _, _, _, _, _, z⟩ := x
    exact z.2.elim
  · obtain ⟨_, _, _, _, _, _, _, _, _, _, _, _, _, _, _, _, z⟩ := x
    exact z.2.elim
theorem pw_of_pt {X : Cx} {op : BoolOp} {vs : List Expr} {pos : Pos} {t : TT} (h : PT X (.BoolOp op vs pos) t) : PW X (.BoolOp op vs pos) t := ⟨fun wh pins s σ H Q I q => h.run pins s σ H Q I q⟩
theorem nomk {op : CmpOp} {b : Expr} (h : noSet b = true) : behindInMarks op b = false := by
  cases b <;> first | rfl | cases h
theorem ba2 {a b : Bool} (h : (a && b) = true) : a = true ∧ b = true := Bool.and_eq_true_iff.mp h
abbrev SndE (c : Gm → List Str → Scope → Expr → Bool) (d : Fns → TDE) : Prop := ∀ {C : Cn} {G : Gm} {F : Fns} {gd : Bool} {k : Nat} (X : Cx) (Wx : WX) (e : Expr), Stat G F C gd k X → Takes X Wx → c G X.N X.env.scope e = true → PE X e (lift C Wx (d F))
abbrev SndT (c : Gm → List Str → Scope → Expr → Bool) (t : Fns → TDT) : Prop := ∀ {C : Cn} {G : Gm} {F : Fns} {gd : Bool} {k : Nat} (X : Cx) (Wx : WX) (e : Expr), Stat G F C gd k X → Takes X Wx → c G X.N X.env.scope e = true → PT X e (liftT C Wx (t F))
abbrev SndI (nt : Bool) (c : Gm → List Str → Scope → Expr → Bool) (d : Fns → TDI) : Prop := ∀ {C : Cn} {G : Gm} {F : Fns} {gd : Bool} {k : Nat} (X : Cx) (Wx : WX) (tg e : Expr), Stat G F C gd k X → Takes X Wx → (!nt || tupE tg) = true → c G X.N X.env.scope e = true → PI X tg e (liftI C Wx (d F))
/-- an expression: how it is held against the text, how it reads as a value and as a test, and that it reads right -/
structure E where
  chk : Gm → List Str → Scope → Expr → Bool
  rd : Fns → TDE
  rt : Fns → TDT
  snd : SndE chk rd
  sndT : SndT chk rt
structure Ic where
  needT : Bool
  chk : Gm → List Str → Scope → Expr → Bool
  rd : Fns → TDI
  snd : SndI needT chk rd
inductive Es where
  | nil | cons (e : E) (es : Es)
inductive Oe where
  | no | some (e : E)
def E.d (F : Fns) (m : E) : TDE := m.rd F
def E.t (F : Fns) (m : E) : TDT := m.rt F
def Ic.d (F : Fns) (m : Ic) : TDI := m.rd F
theorem noT {c : Gm → List Str → Scope → Expr → Bool} : SndT c (fun _ _ _ _ _ => False) := fun _ _ _ _ _ _ => ⟨fun _ _ _ _ _ _ ⟨_, _, _, _, _, _, z, _⟩ => z.elim⟩
def Es.len : Es → Nat
  | .nil => 0
  | .cons _ es => es.len + 1
def Es.w (F : Fns) : Es → TDW
  | .nil => dNilW
  | .cons e es => dConsW (e.d F) (es.w F)
def Es.d (F : Fns) : Es → TDA
  | .nil => dNil
  | .cons e es => dCons (e.d F) (es.d F)
def Oe.d (F : Fns) : Oe → TDO
  | .no => dNo
  | .some e => dPart (e.d F)
def Oe.t (F : Fns) : Oe → TDT
  | .no => dYes
  | .some e => e.t F
def Es.chk (G : Gm) (N : List Str) : Es → Scope → List Expr → Bool
  | .nil, _, [] => true
  | .cons a es, sc, l :: ls => noStar l && a.chk G N sc l && es.chk G N sc ls
  | _, _, _ => false
def Es.chkK (G : Gm) (N : List Str) : Es → Scope → List Keyword → Bool
  | .nil, _, [] => true
  | .cons a es, sc, kw :: r => a.chk G N sc kw.value && es.chkK G N sc r
  | _, _, _ => false
def Oe.chk (G : Gm) (N : List Str) : Oe → Scope → Option Expr → Bool
  | .no, _, none => true
  | .some a, sc, Option.some l => a.chk G N sc l
  | _, _, _ => false
def Oe.chkT (G : Gm) (N : List Str) : Oe → Scope → List Expr → Bool
  | .no, _, [] => true
  | .some a, sc, [l] => a.chk G N sc l
  | _, _, _ => false
theorem any_ok' {G : Gm} {N : List Str} {sc : Scope} {env : PySem.Env} : ∀ {es : Es} {ls : List Expr}, es.chk G N sc ls = true → (starEach ls env).any (·.1) = false
  | .nil, ls, h => by cases ls <;> first | rfl | (simp [Es.chk] at h)
  | .cons a es, ls, h => by
    cases ls with
    | nil => simp [Es.chk] at h
    | cons l ls =>
      unfold Es.chk at h
      simp only [Bool.and_eq_true] at h
      rw [star_ok h.1.1, List.any_cons, any_ok' h.2]; rfl
theorem any_ok {pos : Pos} {env : PySem.Env} {G : Gm} {N : List Str} {sc : Scope} {es : Es} {ls : List Expr} (h : es.chk G N sc ls = true) : (backTo pos (starEach ls env)).any (·.1) = false := by
  have := any_ok' (env := env) h
  unfold backTo
  rw [← this]
  cases starEach ls env with
  | nil => rfl
  | cons a r => simp [List.any_map, Function.comp_def]
theorem es_len : ∀ {es : Es} {G : Gm} {N : List Str} {sc : Scope} {ls : List Expr}, es.chk G N sc ls = true → es.len = ls.length
  | .nil, G, N, sc, ls, h => by
    cases ls with
    | nil => rfl
    | cons a b => simp [Es.chk] at h
  | .cons a es, G, N, sc, ls, h => by
    cases ls with
    | nil => simp [Es.chk] at h
    | cons l ls =>
      unfold Es.chk at h
      simp [Es.len, es_len (ba2 h).2]
section
variable {C : Cn}
theorem asgE_ok {e : Expr} {es : List Expr} {env : PySem.Env} (h : noStar e = true) : assignEach (e :: es) env = (false, assign e env) :: assignEach es env := by
  cases e <;> first | rfl | cases h
mutual
theorem Tg.snd {X : Cx} {loc : Bool} (hK : C.K = X.K) (hc : X.calm = true) (hN : X.N.Nodup) (hf : loc = false → ∀ x, X.fn x = true) : ∀ (g : Tg) (e : Expr), g.chk loc X.N X.env.scope e = true → PG X e (liftG C g)
  | .nm i, e, h => by
    cases e <;> first | (simp [Tg.chk] at h; done) | skip
    unfold Tg.chk at h
    obtain ⟨h1, h2⟩ := ba2 h
    cases loc with
    | true => exact dg_nm hN (of_decide_eq_true h1) (.inl (lcB_ok h2)) (.inr (lcB_ok h2))
    | false => exact dg_nm hN (of_decide_eq_true h1) (locB_ok h2) (.inl (hf rfl _))
  | .tp ts, e, h => by
    cases e <;> first | (simp [Tg.chk] at h; done) | skip
    unfold Tg.chk at h
    obtain ⟨q, l, n⟩ := Tgs.snd hK hc hN hf ts _ h
    exact dg_tp hK hc q l n
theorem Tgs.snd {X : Cx} {loc : Bool} (hK : C.K = X.K) (hc : X.calm = true) (hN : X.N.Nodup) (hf : loc = false → ∀ x, X.fn x = true) : ∀ (g : Tgs) (es : List Expr), g.chk loc X.N X.env.scope es = true → PGs X es (liftGs C g) ∧ (assignEach es X.env).length = g.len ∧ (assignEach es X.env).findIdx? (·.1) = none
  | .nil, es, h => by
    cases es with
    | nil => exact ⟨dgs_nil, rfl, rfl⟩
    | cons e es => simp [Tgs.chk] at h
  | .cons t ts, es, h => by
    cases es with
    | nil => simp [Tgs.chk] at h
    | cons e es =>
      unfold Tgs.chk at h
      obtain ⟨h1, h3⟩ := ba2 h
      obtain ⟨h1, h2⟩ := ba2 h1
      obtain ⟨q, l, n⟩ := Tgs.snd hK hc hN hf ts es h3
      refine ⟨dgs_cons (Tg.snd hK hc hN hf t e h2) q (by rw [asgE_ok h1]; rfl), by rw [asgE_ok h1, List.length_cons, l]; rfl, ?_⟩
      rw [asgE_ok h1]
      simp [List.findIdx?_cons, n]
end
theorem Oe.sndT {G : Gm} {F : Fns} {gd : Bool} {k : Nat} : ∀ (m : Oe) (X : Cx) (es : List Expr), Stat G F C gd k X → Takes X noW → m.chkT G X.N X.env.scope es = true → PTs X es (liftT C noW (m.t F))
  | .no, X, es, S, tk, h => by
    cases es with
    | nil => exact dts_nil
    | cons e es => simp [Oe.chkT] at h
  | .some a, X, es, S, tk, h => by
    rcases es with _ | ⟨e, _ | ⟨e2, es⟩⟩ <;> first | (simp [Oe.chkT] at h; done) | skip
    unfold Oe.chkT at h
    exact pts_one (E.sndT a X noW e S tk h)
theorem Es.snd {G : Gm} {F : Fns} {gd : Bool} {k : Nat} : ∀ (m : Es) (X : Cx) (Wx : WX) (es : List Expr), Stat G F C gd k X → Takes X Wx → m.chk G X.N X.env.scope es = true → PA X es (liftA C Wx (m.d F))
  | .nil, X, Wx, es, S, tk, h => by
    cases es with
    | nil => exact da_nil
    | cons e es => simp [Es.chk] at h
  | .cons a ms, X, Wx, es, S, tk, h => by
    cases es with
    | nil => simp [Es.chk] at h
    | cons e es =>
      unfold Es.chk at h
      obtain ⟨h, g1⟩ := ba2 h
      obtain ⟨h, g2⟩ := ba2 h
      exact da_cons (E.snd a X Wx e S tk g2) (Es.snd ms X Wx es S tk g1) (star_ok h)
theorem Es.sndW {G : Gm} {F : Fns} {gd : Bool} {k : Nat} : ∀ (m : Es) (X : Cx) (Wx : WX) (es : List Expr), Stat G F C gd k X → Takes X Wx → m.chk G X.N X.env.scope es = true → PA X es (liftW C Wx (m.w F))
  | .nil, X, Wx, es, S, tk, h => by
    cases es with
    | nil => exact dw_nil
    | cons e es => simp [Es.chk] at h
  | .cons a ms, X, Wx, es, S, tk, h => by
    cases es with
    | nil => simp [Es.chk] at h
    | cons e es =>
      unfold Es.chk at h
      obtain ⟨h, g1⟩ := ba2 h
      obtain ⟨h, g2⟩ := ba2 h
      exact dw_cons (E.snd a X Wx e S tk g2) (Es.sndW ms X Wx es S tk g1) (star_ok h)
theorem Es.sndK {G : Gm} {F : Fns} {gd : Bool} {k : Nat} : ∀ (m : Es) (X : Cx) (Wx : WX) (kws : List Keyword), Stat G F C gd k X → Takes X Wx → m.chkK G X.N X.env.scope kws = true → PK X kws (liftA C Wx (m.d F))
  | .nil, X, Wx, kws, S, tk, h => by
    cases kws with
    | nil => exact pk_nilD
    | cons e es => simp [Es.chkK] at h
  | .cons a es, X, Wx, kws, S, tk, h => by
    cases kws with
    | nil => simp [Es.chkK] at h
    | cons kw kws =>
      obtain ⟨nm, e, kp⟩ := kw
      unfold Es.chkK at h
      obtain ⟨h1, h2⟩ := ba2 h
      exact pk_consD (E.snd a X Wx e S tk h1) (Es.sndK es X Wx kws S tk h2)
theorem Es.sndP {G : Gm} {F : Fns} {gd : Bool} {k : Nat} : ∀ (m : Es) (X : Cx) (Wx : WX) (ls : List Expr) (ks : List Str) (keys : List (Option Expr)) (pos : Pos), Stat G F C gd k X → Takes X Wx → m.chk G X.N X.env.scope ls = true → keysB ks keys = true → m.len = ks.length →
    ∃ trs, PPs X pos keys ls trs ∧ (∀ σ H Q, liftA C Wx (m.d F) σ H (fun vs H' => Q ((ks.map V.str).zip vs) H') → tPairs trs σ H Q) ∧ (keys.length = ks.length ∧ ks.length = ls.length) ∧ keys.all (·.isSome) = true
  | .nil, X, Wx, ls, ks, keys, pos, S, tk, h, hk, hl => by
    cases ls with
    | cons e es => simp [Es.chk] at h
    | nil =>
      cases ks with
      | cons a b => simp [Es.len] at hl
      | nil =>
        cases keys with
        | cons a b => simp [keysB] at hk
        | nil =>
          refine ⟨[], pps_nil, fun σ H Q q => ?_, ⟨rfl, rfl⟩, rfl⟩
          obtain ⟨R, ds, h, P, Z, e, p, k, z⟩ := q
          exact k R H h [] [] p (Ex.refl _ _) e m_nil
  | .cons a es, X, Wx, ls, ks, keys, pos, S, tk, h, hk, hl => by
    cases ls with
    | nil => simp [Es.chk] at h
    | cons l ls =>
      cases ks with
      | nil => simp [Es.len] at hl
      | cons kk ks =>
        rcases keys with _ | ⟨_ | ky, keys⟩ <;> first | (simp [keysB] at hk; done) | skip
        cases ky <;> first | (simp [keysB] at hk; done) | skip
        rename_i cv cj cp
        cases cv <;> first | (simp [keysB] at hk; done) | skip
        unfold keysB at hk
        obtain ⟨k1, k2⟩ := ba2 hk
        cases of_decide_eq_true k1
        unfold Es.chk at h
        obtain ⟨h, h3⟩ := ba2 h
        obtain ⟨h1, h2⟩ := ba2 h
        obtain ⟨trs, pp, ht, ⟨l1, l2⟩, al⟩ := Es.sndP es X Wx ls ks keys pos S tk h3 k2 (by simpa [Es.len] using hl)
        refine ⟨_, pps_cons pe_str (pe_D (E.snd a X Wx l S tk h2)) pp, fun σ H Q q => ?_, ⟨by simp [l1], by simp [l2]⟩, by simp [al]⟩
        obtain ⟨R, ds, h, P, Z, e, p, k, z⟩ := q
        refine ⟨R, ds, h, _, Z, e, p, fun R1 H1 h1 d v p1 x1 e1 r1 => ?_, z⟩
        refine ht σ H1 _ ⟨R1, ds, h1, _, Z, e1, p1, fun R2 H2 h2 xs vs p2 x2 e2 r2 => ?_, fun R' H' h' x cls dd a b c d => z R' H' h' x cls dd a (x1.trans b) c d⟩
        exact k R2 H2 h2 (d :: xs) (v :: vs) p2 (x1.trans x2) e2 (m_cons (relD_ex e1.ok x2 r1) r2)
theorem Oe.snd {G : Gm} {F : Fns} {gd : Bool} {k : Nat} : ∀ (m : Oe) (X : Cx) (Wx : WX) (e : Option Expr), Stat G F C gd k X → Takes X Wx → m.chk G X.N X.env.scope e = true → PO X e (liftO C Wx (m.d F))
  | .no, X, Wx, e, S, tk, h => by
    cases e with
    | none => exact do_no
    | some e => simp [Oe.chk] at h
  | .some a, X, Wx, e, S, tk, h => by
    cases e with
    | none => simp [Oe.chk] at h
    | some e =>
      unfold Oe.chk at h
      exact do_some (E.snd a X Wx e S tk h)
end
end DL
set_option maxHeartbeats 4000000
namespace DL
open PySem PySem.Spec PyProof.Rows L2
section
variable {C : Cn}
theorem de_chain {X : Cx} {Wx : WX} {a b c : Expr} {ta tb tc : TDE} {pos : Pos} {op op' : Cop} (hK : C.K = X.K) (hu : X.A.units + 65 < cLine) (hm : lastMarks [op.py, op'.py] [b, c] = false)
    (ha : PE X a (lift C Wx ta)) (hb : PE X b (lift C Wx tb)) (hc : PE X c (lift C Wx tc)) : PE X (.Compare a [op.py, op'.py] [b, c] pos) (lift C Wx (dChainV op op' ta tb tc)) :=
  (pe_chain (op_cmp op hu) (op_cmp op' hu) ha hb hc hm).imD fun σ H Q q => by
    obtain ⟨R, ds, h, P, Z, e, p, k, z⟩ := q
    refine ⟨R, ds, h, _, Z, e, p, fun R1 H1 h1 w1 v1 p1 x1 e1 r1 => ?_, z⟩
    refine ⟨R1, ds, h1, _, Z, e1, p1, fun R2 H2 h2 w2 v2 p2 x2 e2 r2 => ?_, fun R' H' h' x cls dd a b c d => z R' H' h' x cls dd a (x1.trans b) c d⟩
    have r2' := relW_start x1.dom r2
    refine hK ▸ s_cmp e2 (x1.trans x2) (relW_ex e1.ok x2 r1) r2' p2 fun R' H' w v ⟨b, hb, pb⟩ x' e' r' => ?_
    subst hb
    refine ⟨b, rw_bl r', ?_⟩
    have xx := (x1.trans x2).trans x'
    cases b with
    | false =>
      rw [if_neg Bool.false_ne_true] at pb ⊢
      exact k R' H' h2 _ _ pb xx e' mw_bl
    | true =>
      rw [if_pos rfl] at pb ⊢
      refine ⟨R', ds, h2, _, Z, e', pb, fun R3 H3 h3 w3 v3 p3 x3 e3 r3 => ?_, fun R' H' h' x cls dd a b c d => z R' H' h' x cls dd a (xx.trans b) c d⟩
      exact s_cmp (C := C) e3 (xx.trans x3) (relW_ex e'.ok x3 (relW_ex e2.ok x' r2')) (relW_start xx.dom r3) p3 fun R4 H4 w v pb x4 e4 r4 => k R4 H4 h3 w v pb ((xx.trans x3).trans x4) e4 r4
end
def cE_var (i : Nat) (G : Gm) (N : List Str) (sc : Scope) (x0 : Expr) : Bool := match x0 with
  | .Name x _ => decide (N[i]? = some x) && visB sc x && okN x
  | _ => false
theorem sE_var (i : Nat) : SndE (cE_var i) (fun F => dVar i) := by
    intro C G F gd k X Wx e S tk h
    cases e <;> first | (exact absurd h Bool.false_ne_true) | skip
    rename_i x p
    simp only [cE_var] at h
    obtain ⟨h1, h2⟩ := ba2 h
    obtain ⟨h1, h3⟩ := ba2 h1
    obtain ⟨o1, o2, _⟩ := okN_ok h2
    exact de_var (of_decide_eq_true h1) (visB_ok h3) o1 o2
theorem uE_var (i : Nat) : SndT (cE_var i) (fun F => dTru (dVar i)) := by
    intro C G F gd k X Wx e S tk h
    have q := sE_var i X Wx e S tk h
    cases e <;> first | (exact absurd h Bool.false_ne_true) | skip
    exact dt_tru S.hK q (plainT_ok rfl)
def E.var (i : Nat) : E := ⟨cE_var i, fun F => dVar i, fun F => dTru (dVar i), sE_var i, uE_var i⟩
@[simp] theorem rdE_var (i : Nat) {F : Fns} : (E.var i).rd F = dVar i := rfl
@[simp] theorem rtE_var (i : Nat) {F : Fns} : (E.var i).rt F = dTru (dVar i) := rfl
def cE_int (i : Int) (G : Gm) (N : List Str) (sc : Scope) (x0 : Expr) : Bool := match x0 with
  | .Constant (.int j) _ _ => decide (i = j)
  | _ => false
theorem sE_int (i : Int) : SndE (cE_int i) (fun F => dC (.int i)) := by
    intro C G F gd k X Wx e S tk h
    cases e <;> first | (exact absurd h Bool.false_ne_true) | skip
    rename_i c j p
    cases c <;> first | (exact absurd h Bool.false_ne_true) | skip
    cases of_decide_eq_true (show decide (i = _) = true from h)
    exact de_int
def E.int (i : Int) : E := ⟨cE_int i, fun F => dC (.int i), fun _ _ _ _ _ => False, sE_int i, noT⟩
@[simp] theorem rdE_int (i : Int) {F : Fns} : (E.int i).rd F = dC (.int i) := rfl
@[simp] theorem rtE_int (i : Int) {F : Fns} : (E.int i).rt F = (fun _ _ _ _ => False) := rfl
def cE_str (i : Str) (G : Gm) (N : List Str) (sc : Scope) (x0 : Expr) : Bool := match x0 with
  | .Constant (.str j) _ _ => decide (i = j)
  | _ => false
theorem sE_str (i : Str) : SndE (cE_str i) (fun F => dC (.str i)) := by
    intro C G F gd k X Wx e S tk h
    cases e <;> first | (exact absurd h Bool.false_ne_true) | skip
    rename_i c j p
    cases c <;> first | (exact absurd h Bool.false_ne_true) | skip
    cases of_decide_eq_true (show decide (i = _) = true from h)
    exact de_str
def E.str (x : Str) : E := ⟨cE_str x, fun F => dC (.str x), fun _ _ _ _ _ => False, sE_str x, noT⟩
@[simp] theorem rdE_str (x : Str) {F : Fns} : (E.str x).rd F = dC (.str x) := rfl
@[simp] theorem rtE_str (x : Str) {F : Fns} : (E.str x).rt F = (fun _ _ _ _ => False) := rfl
def cE_bl (i : Bool) (G : Gm) (N : List Str) (sc : Scope) (x0 : Expr) : Bool := match x0 with
  | .Constant (.bool j) _ _ => decide (i = j)
  | _ => false
theorem sE_bl (i : Bool) : SndE (cE_bl i) (fun F => dC (.bl i)) := by
    intro C G F gd k X Wx e S tk h
    cases e <;> first | (exact absurd h Bool.false_ne_true) | skip
    rename_i c j p
    cases c <;> first | (exact absurd h Bool.false_ne_true) | skip
    cases of_decide_eq_true (show decide (i = _) = true from h)
    exact de_bl
theorem uE_bl (b : Bool) : SndT (cE_bl b) (fun F => dTru (dC (.bl b))) := by
    intro C G F gd k X Wx e S tk h
    have q := sE_bl b X Wx e S tk h
    cases e <;> first | (exact absurd h Bool.false_ne_true) | skip
    exact dt_tru S.hK q (plainT_ok rfl)
def E.bl (b : Bool) : E := ⟨cE_bl b, fun F => dC (.bl b), fun F => dTru (dC (.bl b)), sE_bl b, uE_bl b⟩
@[simp] theorem rdE_bl (b : Bool) {F : Fns} : (E.bl b).rd F = dC (.bl b) := rfl
@[simp] theorem rtE_bl (b : Bool) {F : Fns} : (E.bl b).rt F = dTru (dC (.bl b)) := rfl
def cE_non (G : Gm) (N : List Str) (sc : Scope) (x0 : Expr) : Bool := match x0 with
  | .Constant .none _ _ => true
  | _ => false
theorem sE_non : SndE (cE_non) (fun F => dC .non) := by
    intro C G F gd k X Wx e S tk h
    cases e <;> first | (exact absurd h Bool.false_ne_true) | skip
    rename_i c j p
    cases c <;> first | (exact absurd h Bool.false_ne_true) | skip
    exact de_non
def E.non : E := ⟨cE_non, fun F => dC .non, fun _ _ _ _ _ => False, sE_non, noT⟩
@[simp] theorem rdE_non {F : Fns} : (E.non).rd F = dC .non := rfl
@[simp] theorem rtE_non {F : Fns} : (E.non).rt F = (fun _ _ _ _ => False) := rfl
def cE_glb (j : Nat) (G : Gm) (N : List Str) (sc : Scope) (x0 : Expr) : Bool := match x0 with
  | .Name x _ => decide (G.con[j]? = some x) && glB sc x && okN x
  | _ => false
theorem sE_glb (j : Nat) : SndE (cE_glb j) (fun F => dC (F.c j)) := by
    intro C G F gd k X Wx e S tk h
    cases e <;> first | (exact absurd h Bool.false_ne_true) | skip
    rename_i x p
    simp only [cE_glb] at h
    obtain ⟨h1, h2⟩ := ba2 h
    obtain ⟨h1, h3⟩ := ba2 h1
    obtain ⟨v, u, hm, rv, hr⟩ := S.con j x (of_decide_eq_true h1)
    exact de_c (pe_glob (glB_ok h3) hm rv (okN_ok h2).1) hr
def E.glb (j : Nat) : E := ⟨cE_glb j, fun F => dC (F.c j), fun _ _ _ _ _ => False, sE_glb j, noT⟩
@[simp] theorem rdE_glb (j : Nat) {F : Fns} : (E.glb j).rd F = dC (F.c j) := rfl
@[simp] theorem rtE_glb (j : Nat) {F : Fns} : (E.glb j).rt F = (fun _ _ _ _ => False) := rfl
def cE_bin (op : Bop) (a : E) (b : E) (G : Gm) (N : List Str) (sc : Scope) (x0 : Expr) : Bool := match x0 with
  | .BinOp l o r _ => decide (op.py = o) && a.chk G N sc l && b.chk G N sc r
  | _ => false
theorem sE_bin (op : Bop) (a : E) (b : E) : SndE (cE_bin op a b) (fun F => dOp2 (wBin op) (a.d F) (b.d F)) := by
    intro C G F gd k X Wx e S tk h
    cases e <;> first | (exact absurd h Bool.false_ne_true) | skip
    rename_i l o r p
    simp only [cE_bin] at h
    obtain ⟨h1, h2⟩ := ba2 h
    obtain ⟨h1, h3⟩ := ba2 h1
    cases of_decide_eq_true h1
    exact de_bin S.hK (E.snd a X Wx l S tk h3) (E.snd b X Wx r S tk h2)
theorem uE_bin (op : Bop) (a : E) (i : E) : SndT (cE_bin op a i) (fun F => dTru (dOp2 (wBin op) (a.d F) (i.d F))) := by
    intro C G F gd k X Wx e S tk h
    have q := sE_bin op a i X Wx e S tk h
    cases e <;> first | (exact absurd h Bool.false_ne_true) | skip
    exact dt_tru S.hK q (plainT_ok rfl)
def E.bin (op : Bop) (a : E) (b : E) : E := ⟨cE_bin op a b, fun F => dOp2 (wBin op) (a.d F) (b.d F), fun F => dTru (dOp2 (wBin op) (a.d F) (b.d F)), sE_bin op a b, uE_bin op a b⟩
@[simp] theorem rdE_bin (op : Bop) (a : E) (b : E) {F : Fns} : (E.bin op a b).rd F = dOp2 (wBin op) (a.d F) (b.d F) := rfl
@[simp] theorem rtE_bin (op : Bop) (a : E) (b : E) {F : Fns} : (E.bin op a b).rt F = dTru (dOp2 (wBin op) (a.d F) (b.d F)) := rfl
def cE_neg (a : E) (G : Gm) (N : List Str) (sc : Scope) (x0 : Expr) : Bool := match x0 with
  | .UnaryOp .USub l _ => a.chk G N sc l
  | _ => false
theorem sE_neg (a : E) : SndE (cE_neg a) (fun F => dOp1 wNeg (a.d F)) := by
    intro C G F gd k X Wx e S tk h
    cases e <;> first | (exact absurd h Bool.false_ne_true) | skip
    rename_i o l p
    cases o <;> first | (exact absurd h Bool.false_ne_true) | skip
    simp only [cE_neg] at h
    exact de_neg (E.snd a X Wx l S tk h)
def E.neg (a : E) : E := ⟨cE_neg a, fun F => dOp1 wNeg (a.d F), fun _ _ _ _ _ => False, sE_neg a, noT⟩
@[simp] theorem rdE_neg (a : E) {F : Fns} : (E.neg a).rd F = dOp1 wNeg (a.d F) := rfl
@[simp] theorem rtE_neg (a : E) {F : Fns} : (E.neg a).rt F = (fun _ _ _ _ => False) := rfl
def cE_cmp (op : Cop) (a : E) (b : E) (G : Gm) (N : List Str) (sc : Scope) (x0 : Expr) : Bool := match x0 with
  | .Compare l [o] [r] _ => decide (op.py = o) && noSet r && a.chk G N sc l && b.chk G N sc r
  | _ => false
theorem sE_cmp (op : Cop) (a : E) (b : E) : SndE (cE_cmp op a b) (fun F => dOp2 (wCmp op) (a.d F) (b.d F)) := by
    intro C G F gd k X Wx e S tk h
    cases e <;> first | (exact absurd h Bool.false_ne_true) | skip
    rename_i l os rs p
    rcases os with _ | ⟨o, _ | ⟨o2, os⟩⟩ <;> rcases rs with _ | ⟨r, _ | ⟨r2, rs⟩⟩ <;> first | (exact absurd h Bool.false_ne_true) | skip
    simp only [cE_cmp] at h
    obtain ⟨h1, h2⟩ := ba2 h
    obtain ⟨h1, h3⟩ := ba2 h1
    obtain ⟨h1, h4⟩ := ba2 h1
    cases of_decide_eq_true h1
    exact de_cmp S.hK S.units (nomk h4) (E.snd a X Wx l S tk h3) (E.snd b X Wx r S tk h2)
theorem uE_cmp (op : Cop) (a : E) (b : E) : SndT (cE_cmp op a b) (fun F => dCmpT op (a.d F) (b.d F)) := by
    intro C G F gd k X Wx e S tk h
    cases e <;> first | (exact absurd h Bool.false_ne_true) | skip
    rename_i l os rs p
    rcases os with _ | ⟨o, _ | ⟨o2, os⟩⟩ <;> rcases rs with _ | ⟨r, _ | ⟨r2, rs⟩⟩ <;> first | (exact absurd h Bool.false_ne_true) | skip
    simp only [cE_cmp] at h
    obtain ⟨h1, h2⟩ := ba2 h
    obtain ⟨h1, h3⟩ := ba2 h1
    obtain ⟨h1, h4⟩ := ba2 h1
    cases of_decide_eq_true h1
    exact dt_cmp S.hK S.units (nomk h4) (E.snd a X Wx l S tk h3) (E.snd b X Wx r S tk h2)
def E.cmp (op : Cop) (a : E) (b : E) : E := ⟨cE_cmp op a b, fun F => dOp2 (wCmp op) (a.d F) (b.d F), fun F => dCmpT op (a.d F) (b.d F), sE_cmp op a b, uE_cmp op a b⟩
@[simp] theorem rdE_cmp (op : Cop) (a : E) (b : E) {F : Fns} : (E.cmp op a b).rd F = dOp2 (wCmp op) (a.d F) (b.d F) := rfl
@[simp] theorem rtE_cmp (op : Cop) (a : E) (b : E) {F : Fns} : (E.cmp op a b).rt F = dCmpT op (a.d F) (b.d F) := rfl
def cE_chn (op : Cop) (op' : Cop) (a : E) (b : E) (c : E) (G : Gm) (N : List Str) (sc : Scope) (x0 : Expr) : Bool := match x0 with
  | .Compare l [o, o'] [r, r'] _ => decide (op.py = o) && decide (op'.py = o') && noSet r' && a.chk G N sc l && b.chk G N sc r && c.chk G N sc r'
  | _ => false
theorem sE_chn (op : Cop) (op' : Cop) (a : E) (b : E) (c : E) : SndE (cE_chn op op' a b c) (fun F => dChainV op op' (a.d F) (b.d F) (c.d F)) := by
    intro C G F gd k X Wx e S tk h
    cases e <;> first | (exact absurd h Bool.false_ne_true) | skip
    rename_i l os rs p
    rcases os with _ | ⟨o, _ | ⟨o2, _ | ⟨o3, os⟩⟩⟩ <;> rcases rs with _ | ⟨r, _ | ⟨r2, _ | ⟨r3, rs⟩⟩⟩ <;> first | (exact absurd h Bool.false_ne_true) | skip
    simp only [cE_chn] at h
    obtain ⟨h1, h2⟩ := ba2 h
    obtain ⟨h1, h3⟩ := ba2 h1
    obtain ⟨h1, h4⟩ := ba2 h1
    obtain ⟨h1, h5⟩ := ba2 h1
    obtain ⟨h1, h6⟩ := ba2 h1
    cases of_decide_eq_true h1
    cases of_decide_eq_true h6
    exact de_chain S.hK S.units (nomk (op := op'.py) h5) (E.snd a X Wx l S tk h4) (E.snd b X Wx r S tk h3) (E.snd c X Wx r2 S tk h2)
theorem uE_chn (op : Cop) (op' : Cop) (a : E) (b : E) (c : E) : SndT (cE_chn op op' a b c) (fun F => dChain op op' (a.d F) (b.d F) (c.d F)) := by
    intro C G F gd k X Wx e S tk h
    cases e <;> first | (exact absurd h Bool.false_ne_true) | skip
    rename_i l os rs p
    rcases os with _ | ⟨o, _ | ⟨o2, _ | ⟨o3, os⟩⟩⟩ <;> rcases rs with _ | ⟨r, _ | ⟨r2, _ | ⟨r3, rs⟩⟩⟩ <;> first | (exact absurd h Bool.false_ne_true) | skip
    simp only [cE_chn] at h
    obtain ⟨h1, h2⟩ := ba2 h
    obtain ⟨h1, h3⟩ := ba2 h1
    obtain ⟨h1, h4⟩ := ba2 h1
    obtain ⟨h1, h5⟩ := ba2 h1
    obtain ⟨h1, h6⟩ := ba2 h1
    cases of_decide_eq_true h1
    cases of_decide_eq_true h6
    exact dt_chain S.hK S.units (nomk (op := op'.py) h5) (E.snd a X Wx l S tk h4) (E.snd b X Wx r S tk h3) (E.snd c X Wx r2 S tk h2)
def E.chn (op : Cop) (op' : Cop) (a : E) (b : E) (c : E) : E := ⟨cE_chn op op' a b c, fun F => dChainV op op' (a.d F) (b.d F) (c.d F), fun F => dChain op op' (a.d F) (b.d F) (c.d F), sE_chn op op' a b c, uE_chn op op' a b c⟩
@[simp] theorem rdE_chn (op : Cop) (op' : Cop) (a : E) (b : E) (c : E) {F : Fns} : (E.chn op op' a b c).rd F = dChainV op op' (a.d F) (b.d F) (c.d F) := rfl
@[simp] theorem rtE_chn (op : Cop) (op' : Cop) (a : E) (b : E) (c : E) {F : Fns} : (E.chn op op' a b c).rt F = dChain op op' (a.d F) (b.d F) (c.d F) := rfl
def cE_isN (ng : Bool) (a : E) (G : Gm) (N : List Str) (sc : Scope) (x0 : Expr) : Bool := match x0 with
  | .Compare l [o] [r] _ => decide (o = if ng then .IsNot else .Is) && isNoneC r && a.chk G N sc l
  | _ => false
theorem sE_isN (ng : Bool) (a : E) : SndE (cE_isN ng a) (fun F => dOp1 (wIs ng) (a.d F)) := by
    intro C G F gd k X Wx e S tk h
    cases e <;> first | (exact absurd h Bool.false_ne_true) | skip
    rename_i l os rs p
    rcases os with _ | ⟨o, _ | ⟨o2, os⟩⟩ <;> rcases rs with _ | ⟨r, _ | ⟨r2, rs⟩⟩ <;> first | (exact absurd h Bool.false_ne_true) | skip
    simp only [cE_isN] at h
    obtain ⟨h1, h2⟩ := ba2 h
    obtain ⟨h1, h3⟩ := ba2 h1
    have ho := of_decide_eq_true h1
    obtain ⟨j, p', er⟩ := isNoneC_ok h3
    clear h h1 h3
    subst er
    cases ng with
    | false => cases ho; exact de_isN (E.snd a X Wx _ S tk h2)
    | true => cases ho; exact de_notN (E.snd a X Wx _ S tk h2)
theorem uE_isN (ng : Bool) (a : E) : SndT (cE_isN ng a) (fun F => dIsT ng (a.d F)) := by
    intro C G F gd k X Wx e S tk h
    cases e <;> first | (exact absurd h Bool.false_ne_true) | skip
    rename_i l os rs p
    rcases os with _ | ⟨o, _ | ⟨o2, os⟩⟩ <;> rcases rs with _ | ⟨r, _ | ⟨r2, rs⟩⟩ <;> first | (exact absurd h Bool.false_ne_true) | skip
    simp only [cE_isN] at h
    obtain ⟨h1, h2⟩ := ba2 h
    obtain ⟨h1, h3⟩ := ba2 h1
    have ho := of_decide_eq_true h1
    obtain ⟨j, p', er⟩ := isNoneC_ok h3
    clear h h1 h3
    subst er
    cases ng with
    | false => cases ho; exact dt_isN (E.snd a X Wx _ S tk h2)
    | true => cases ho; exact dt_notN (E.snd a X Wx _ S tk h2)
def E.isN (ng : Bool) (a : E) : E := ⟨cE_isN ng a, fun F => dOp1 (wIs ng) (a.d F), fun F => dIsT ng (a.d F), sE_isN ng a, uE_isN ng a⟩
@[simp] theorem rdE_isN (ng : Bool) (a : E) {F : Fns} : (E.isN ng a).rd F = dOp1 (wIs ng) (a.d F) := rfl
@[simp] theorem rtE_isN (ng : Bool) (a : E) {F : Fns} : (E.isN ng a).rt F = dIsT ng (a.d F) := rfl
def cE_and (a : E) (b : E) (G : Gm) (N : List Str) (sc : Scope) (x0 : Expr) : Bool := match x0 with
  | .BoolOp .And [l, r] _ => a.chk G N sc l && b.chk G N sc r
  | .BoolOp .And (l :: r :: r' :: rs) p => a.chk G N sc l && b.chk G N sc (.BoolOp .And (r :: r' :: rs) p)
  | _ => false
theorem sE_and (a : E) (b : E) : SndE (cE_and a b) (fun F => dAnd (a.d F) (b.d F)) := by
    intro C G F gd k X Wx e S tk h
    cases e <;> first | (exact absurd h Bool.false_ne_true) | skip
    rename_i o vs p
    cases o <;> rcases vs with _ | ⟨l, _ | ⟨r, _ | ⟨r2, rs⟩⟩⟩ <;> first | (exact absurd h Bool.false_ne_true) | skip
    · simp only [cE_and] at h
      obtain ⟨h1, h2⟩ := ba2 h
      exact de_and S.hK (E.snd a X Wx l S tk h1) (de_one (E.snd b X Wx r S tk h2))
    · simp only [cE_and] at h
      obtain ⟨h1, h2⟩ := ba2 h
      exact de_and S.hK (E.snd a X Wx l S tk h1) (E.snd b X Wx _ S tk h2)
theorem uE_and (a : E) (b : E) : SndT (cE_and a b) (fun F => dAndT (a.t F) (b.t F)) := by
    intro C G F gd k X Wx e S tk h
    cases e <;> first | (exact absurd h Bool.false_ne_true) | skip
    rename_i o vs p
    cases o <;> rcases vs with _ | ⟨l, _ | ⟨r, _ | ⟨r2, rs⟩⟩⟩ <;> first | (exact absurd h Bool.false_ne_true) | skip
    · simp only [cE_and] at h
      obtain ⟨h1, h2⟩ := ba2 h
      exact (dw_and (E.sndT a X Wx l S tk h1) (dw_and1 (E.sndT b X Wx r S tk h2))).pt
    · simp only [cE_and] at h
      obtain ⟨h1, h2⟩ := ba2 h
      exact (dw_and (E.sndT a X Wx l S tk h1) (pw_of_pt (E.sndT b X Wx _ S tk h2))).pt
def E.and (a : E) (b : E) : E := ⟨cE_and a b, fun F => dAnd (a.d F) (b.d F), fun F => dAndT (a.t F) (b.t F), sE_and a b, uE_and a b⟩
@[simp] theorem rdE_and (a : E) (b : E) {F : Fns} : (E.and a b).rd F = dAnd (a.d F) (b.d F) := rfl
@[simp] theorem rtE_and (a : E) (b : E) {F : Fns} : (E.and a b).rt F = dAndT (a.t F) (b.t F) := rfl
def cE_or (a : E) (b : E) (G : Gm) (N : List Str) (sc : Scope) (x0 : Expr) : Bool := match x0 with
  | .BoolOp .Or [l, r] _ => a.chk G N sc l && b.chk G N sc r
  | .BoolOp .Or (l :: r :: r' :: rs) p => a.chk G N sc l && b.chk G N sc (.BoolOp .Or (r :: r' :: rs) p)
  | _ => false
theorem sE_or (a : E) (b : E) : SndE (cE_or a b) (fun F => dOr (a.d F) (b.d F)) := by
    intro C G F gd k X Wx e S tk h
    cases e <;> first | (exact absurd h Bool.false_ne_true) | skip
    rename_i o vs p
    cases o <;> rcases vs with _ | ⟨l, _ | ⟨r, _ | ⟨r2, rs⟩⟩⟩ <;> first | (exact absurd h Bool.false_ne_true) | skip
    · simp only [cE_or] at h
      obtain ⟨h1, h2⟩ := ba2 h
      exact de_or S.hK (E.snd a X Wx l S tk h1) (de_one (E.snd b X Wx r S tk h2))
    · simp only [cE_or] at h
      obtain ⟨h1, h2⟩ := ba2 h
      exact de_or S.hK (E.snd a X Wx l S tk h1) (E.snd b X Wx _ S tk h2)
theorem uE_or (a : E) (b : E) : SndT (cE_or a b) (fun F => dOrT (a.t F) (b.t F)) := by
    intro C G F gd k X Wx e S tk h
    cases e <;> first | (exact absurd h Bool.false_ne_true) | skip
    rename_i o vs p
    cases o <;> rcases vs with _ | ⟨l, _ | ⟨r, _ | ⟨r2, rs⟩⟩⟩ <;> first | (exact absurd h Bool.false_ne_true) | skip
    · simp only [cE_or] at h
      obtain ⟨h1, h2⟩ := ba2 h
      exact (dw_or (E.sndT a X Wx l S tk h1) (dw_or1 (E.sndT b X Wx r S tk h2))).pt
    · simp only [cE_or] at h
      obtain ⟨h1, h2⟩ := ba2 h
      exact (dw_or (E.sndT a X Wx l S tk h1) (pw_of_pt (E.sndT b X Wx _ S tk h2))).pt
def E.or (a : E) (b : E) : E := ⟨cE_or a b, fun F => dOr (a.d F) (b.d F), fun F => dOrT (a.t F) (b.t F), sE_or a b, uE_or a b⟩
@[simp] theorem rdE_or (a : E) (b : E) {F : Fns} : (E.or a b).rd F = dOr (a.d F) (b.d F) := rfl
@[simp] theorem rtE_or (a : E) (b : E) {F : Fns} : (E.or a b).rt F = dOrT (a.t F) (b.t F) := rfl
def cE_not (a : E) (G : Gm) (N : List Str) (sc : Scope) (x0 : Expr) : Bool := match x0 with
  | .UnaryOp .Not l _ => a.chk G N sc l
  | _ => false
theorem sE_not (a : E) : SndE (cE_not a) (fun F => dNotV (a.d F)) := by
    intro C G F gd k X Wx e S tk h
    cases e <;> first | (exact absurd h Bool.false_ne_true) | skip
    rename_i o l p
    cases o <;> first | (exact absurd h Bool.false_ne_true) | skip
    simp only [cE_not] at h
    exact de_not S.hK (E.snd a X Wx l S tk h)
theorem uE_not (a : E) : SndT (cE_not a) (fun F => dNotT (a.t F)) := by
    intro C G F gd k X Wx e S tk h
    cases e <;> first | (exact absurd h Bool.false_ne_true) | skip
    rename_i o l p
    cases o <;> first | (exact absurd h Bool.false_ne_true) | skip
    simp only [cE_not] at h
    exact dt_not (E.sndT a X Wx l S tk h)
def E.not (a : E) : E := ⟨cE_not a, fun F => dNotV (a.d F), fun F => dNotT (a.t F), sE_not a, uE_not a⟩
@[simp] theorem rdE_not (a : E) {F : Fns} : (E.not a).rd F = dNotV (a.d F) := rfl
@[simp] theorem rtE_not (a : E) {F : Fns} : (E.not a).rt F = dNotT (a.t F) := rfl
end DL
namespace L2
open PySem PySem.Spec PyProof.Rows
theorem pt_ifT {X : Cx} {c a b : Expr} {tc ta tb : TT} {pos : Pos} (hc : PT X c tc) (ha : PT X a ta) (hb : PT X b tb) : PT X (.IfExp c a b pos) (fun σ H Q => tc σ H fun k H1 => if k = true then ta σ H1 Q else tb σ H1 Q) := by
  refine ⟨fun pins s σ H Q I h => ?_⟩
  rw [arm_isTrue_IfExp]
  refine wpAny_bind (thn (hc.run pins s σ H _ I h) fun k s1 e => ?_)
  obtain ⟨H1, I1, q1⟩ := e
  cases k with
  | true => exact ha.run pins s1 σ H1 Q I1 q1
  | false => exact hb.run pins s1 σ H1 Q I1 q1
end L2
namespace DL
open PySem PySem.Spec PyProof.Rows L2
section
variable {X : Cx} {C : Cn} {Wx : WX}
def dIfT (tc ta tb : TDT) : TDT := fun ds h P Z => tc ds h (fun b h1 => if b = true then ta ds h1 P Z else tb ds h1 P Z) Z
theorem dt_ifT {c a b : Expr} {tc ta tb : TDT} {pos : Pos} (hc : PT X c (liftT C Wx tc)) (ha : PT X a (liftT C Wx ta)) (hb : PT X b (liftT C Wx tb)) : PT X (.IfExp c a b pos) (liftT C Wx (dIfT tc ta tb)) :=
  (pt_ifT hc ha hb).imD fun σ H Q q => by
    obtain ⟨R, ds, h, P, Z, e, p, k, z⟩ := q
    refine ⟨R, ds, h, _, Z, e, p, fun R' H' h' b pb x e' => ?_, z⟩
    cases b with
    | true => exact ⟨R', ds, h', P, Z, e', pb, fun R2 H2 h2 c pc x2 e2 => k R2 H2 h2 c pc (x.trans x2) e2, fun R2 H2 h2 y cls dd a b c d => z R2 H2 h2 y cls dd a (x.trans b) c d⟩
    | false => exact ⟨R', ds, h', P, Z, e', pb, fun R2 H2 h2 c pc x2 e2 => k R2 H2 h2 c pc (x.trans x2) e2, fun R2 H2 h2 y cls dd a b c d => z R2 H2 h2 y cls dd a (x.trans b) c d⟩
end
def cE_ite (c : E) (a : E) (b : E) (G : Gm) (N : List Str) (sc : Scope) (x0 : Expr) : Bool := match x0 with
  | .IfExp t l r _ => c.chk G N sc t && a.chk G N sc l && b.chk G N sc r
  | _ => false
theorem sE_ite (c : E) (a : E) (b : E) : SndE (cE_ite c a b) (fun F => dIf (c.t F) (a.d F) (b.d F)) := by
    intro C G F gd k X Wx e S tk h
    cases e <;> first | (exact absurd h Bool.false_ne_true) | skip
    rename_i t l r p
    simp only [cE_ite] at h
    obtain ⟨h1, h2⟩ := ba2 h
    obtain ⟨h1, h3⟩ := ba2 h1
    exact de_if (E.sndT c X Wx t S tk h1) (E.snd a X Wx l S tk h3) (E.snd b X Wx r S tk h2)
theorem uE_ite (c : E) (a : E) (b : E) : SndT (cE_ite c a b) (fun F => dIfT (c.t F) (a.t F) (b.t F)) := by
    intro C G F gd k X Wx e S tk h
    cases e <;> first | (exact absurd h Bool.false_ne_true) | skip
    rename_i t l r p
    simp only [cE_ite] at h
    obtain ⟨h1, h2⟩ := ba2 h
    obtain ⟨h1, h3⟩ := ba2 h1
    exact dt_ifT (E.sndT c X Wx t S tk h1) (E.sndT a X Wx l S tk h3) (E.sndT b X Wx r S tk h2)
def E.ite (c : E) (a : E) (b : E) : E := ⟨cE_ite c a b, fun F => dIf (c.t F) (a.d F) (b.d F), fun F => dIfT (c.t F) (a.t F) (b.t F), sE_ite c a b, uE_ite c a b⟩
@[simp] theorem rdE_ite (c : E) (a : E) (b : E) {F : Fns} : (E.ite c a b).rd F = dIf (c.t F) (a.d F) (b.d F) := rfl
@[simp] theorem rtE_ite (c : E) (a : E) (b : E) {F : Fns} : (E.ite c a b).rt F = dIfT (c.t F) (a.t F) (b.t F) := rfl
def cE_b1 (b : B1) (a : E) (G : Gm) (N : List Str) (sc : Scope) (x0 : Expr) : Bool := match x0 with
  | .Call (.Name x _) [l] [] _ => decide (b.name = x) && glB sc x && decide (x ∈ G.free) && shB G b && noStar l && a.chk G N sc l
  | _ => false
theorem sE_b1 (b : B1) (a : E) : SndE (cE_b1 b a) (fun F => dOp1 (wB1 b) (a.d F)) := by
    intro C G F gd k X Wx e S tk h
    cases e <;> first | (exact absurd h Bool.false_ne_true) | skip
    rename_i f ls kw p
    cases f <;> rcases ls with _ | ⟨l, _ | ⟨l2, ls⟩⟩ <;> rcases kw with _ | ⟨k1, kw⟩ <;> first | (exact absurd h Bool.false_ne_true) | skip
    simp only [cE_b1] at h
    obtain ⟨h1, h2⟩ := ba2 h
    obtain ⟨h1, h3⟩ := ba2 h1
    obtain ⟨h1, h4⟩ := ba2 h1
    obtain ⟨h1, h5⟩ := ba2 h1
    obtain ⟨h1, h6⟩ := ba2 h1
    cases of_decide_eq_true h1
    have ok : B1Ok X b := ⟨S.free _ (of_decide_eq_true h5), glB_ok h6, S.calm, Nat.lt_of_le_of_lt (by omega) S.units, fun z => S.gdA (S.sh (by subst z; exact h4))⟩
    exact de_b1 S.hK ok (E.snd a X Wx l S tk h2) (star_ok h3)
theorem uE_b1 (b : B1) (a : E) : SndT (cE_b1 b a) (fun F => dTru (dOp1 (wB1 b) (a.d F))) := by
    intro C G F gd k X Wx e S tk h
    have q := sE_b1 b a X Wx e S tk h
    cases e <;> first | (exact absurd h Bool.false_ne_true) | skip
    exact dt_tru S.hK q (plainT_ok rfl)
def E.b1 (b : B1) (a : E) : E := ⟨cE_b1 b a, fun F => dOp1 (wB1 b) (a.d F), fun F => dTru (dOp1 (wB1 b) (a.d F)), sE_b1 b a, uE_b1 b a⟩
@[simp] theorem rdE_b1 (b : B1) (a : E) {F : Fns} : (E.b1 b a).rd F = dOp1 (wB1 b) (a.d F) := rfl
@[simp] theorem rtE_b1 (b : B1) (a : E) {F : Fns} : (E.b1 b a).rt F = dTru (dOp1 (wB1 b) (a.d F)) := rfl
def cE_isi (y : Str) (T : String) (a : E) (G : Gm) (N : List Str) (sc : Scope) (x0 : Expr) : Bool := match x0 with
  | .Call (.Name x _) [l, .Name z _] [] _ => decide (x = "isinstance") && decide (y = z) && glB sc x && decide (x ∈ G.free) && glB sc z && decide (z ∈ G.free) && okN z && decide (bootBuiltins z = some (.type T)) && noStar l && a.chk G N sc l
  | _ => false
theorem sE_isi (y : Str) (T : String) (a : E) : SndE (cE_isi y T a) (fun F => dOp1 (wIsi T) (a.d F)) := by
    intro C G F gd k X Wx e S tk h
    cases e <;> first | (exact absurd h Bool.false_ne_true) | (simp [cE_isi] at h; done) | skip
    rename_i f ls kw p
    cases f <;> rcases ls with _ | ⟨l, _ | ⟨l2, _ | ⟨l3, ls⟩⟩⟩ <;> rcases kw with _ | ⟨k1, kw⟩ <;> first | (exact absurd h Bool.false_ne_true) | (simp [cE_isi] at h; done) | skip
    cases l2 <;> first | (exact absurd h Bool.false_ne_true) | (simp [cE_isi] at h; done) | skip
    simp only [cE_isi] at h
    obtain ⟨h, g1⟩ := ba2 h
    obtain ⟨h, g2⟩ := ba2 h
    obtain ⟨h, g3⟩ := ba2 h
    obtain ⟨h, g4⟩ := ba2 h
    obtain ⟨h, g5⟩ := ba2 h
    obtain ⟨h, g6⟩ := ba2 h
    obtain ⟨h, g7⟩ := ba2 h
    obtain ⟨h, g8⟩ := ba2 h
    obtain ⟨h, g9⟩ := ba2 h
    cases of_decide_eq_true h
    cases of_decide_eq_true g9
    obtain ⟨o1, _, o3⟩ := okN_ok g4
    exact de_isi S.hK (glB_ok g8) (S.free _ (of_decide_eq_true g7)) (glB_ok g6) (S.free _ (of_decide_eq_true g5)) (of_decide_eq_true g3) o3 o1 (E.snd a X Wx l S tk g1) (star_ok g2)
theorem uE_isi (y : Str) (T : String) (a : E) : SndT (cE_isi y T a) (fun F => dTru (dOp1 (wIsi T) (a.d F))) := by
    intro C G F gd k X Wx e S tk h
    have q := sE_isi y T a X Wx e S tk h
    cases e <;> first | (exact absurd h Bool.false_ne_true) | (simp [cE_isi] at h; done) | skip
    exact dt_tru S.hK q (plainT_ok rfl)
def E.isi (x : Str) (T : String) (a : E) : E := ⟨cE_isi x T a, fun F => dOp1 (wIsi T) (a.d F), fun F => dTru (dOp1 (wIsi T) (a.d F)), sE_isi x T a, uE_isi x T a⟩
@[simp] theorem rdE_isi (x : Str) (T : String) (a : E) {F : Fns} : (E.isi x T a).rd F = dOp1 (wIsi T) (a.d F) := rfl
@[simp] theorem rtE_isi (x : Str) (T : String) (a : E) {F : Fns} : (E.isi x T a).rt F = dTru (dOp1 (wIsi T) (a.d F)) := rfl
def cE_ix (a : E) (i : E) (G : Gm) (N : List Str) (sc : Scope) (x0 : Expr) : Bool := match x0 with
  | .Subscript l r _ => noSlice r && a.chk G N sc l && i.chk G N sc r
  | _ => false
theorem sE_ix (a : E) (i : E) : SndE (cE_ix a i) (fun F => dOp2 wIx (a.d F) (i.d F)) := by
    intro C G F gd k X Wx e S tk h
    cases e <;> first | (exact absurd h Bool.false_ne_true) | skip
    rename_i l r p
    simp only [cE_ix] at h
    obtain ⟨h1, h2⟩ := ba2 h
    obtain ⟨h1, h3⟩ := ba2 h1
    exact de_ix S.hK (noSlice_ok h1) (E.snd a X Wx l S tk h3) (E.snd i X Wx r S tk h2)
theorem uE_ix (a : E) (i : E) : SndT (cE_ix a i) (fun F => dTru (dOp2 wIx (a.d F) (i.d F))) := by
    intro C G F gd k X Wx e S tk h
    have q := sE_ix a i X Wx e S tk h
    cases e <;> first | (exact absurd h Bool.false_ne_true) | skip
    exact dt_tru S.hK q (plainT_ok rfl)
def E.ix (a : E) (i : E) : E := ⟨cE_ix a i, fun F => dOp2 wIx (a.d F) (i.d F), fun F => dTru (dOp2 wIx (a.d F) (i.d F)), sE_ix a i, uE_ix a i⟩
@[simp] theorem rdE_ix (a : E) (i : E) {F : Fns} : (E.ix a i).rd F = dOp2 wIx (a.d F) (i.d F) := rfl
@[simp] theorem rtE_ix (a : E) (i : E) {F : Fns} : (E.ix a i).rt F = dTru (dOp2 wIx (a.d F) (i.d F)) := rfl
def cE_hix (a : E) (i : E) (G : Gm) (N : List Str) (sc : Scope) (x0 : Expr) : Bool := match x0 with
  | .Subscript l r _ => noSlice r && a.chk G N sc l && i.chk G N sc r
  | _ => false
theorem sE_hix (a : E) (i : E) : SndE (cE_hix a i) (fun F => dHix (a.d F) (i.d F)) := by
    intro C G F gd k X Wx e S tk h
    cases e <;> first | (exact absurd h Bool.false_ne_true) | skip
    rename_i l r p
    simp only [cE_hix] at h
    obtain ⟨h1, h2⟩ := ba2 h
    obtain ⟨h1, h3⟩ := ba2 h1
    exact de_hix S.hK (noSlice_ok h1) (E.snd a X Wx l S tk h3) (E.snd i X Wx r S tk h2)
def E.hix (a : E) (i : E) : E := ⟨cE_hix a i, fun F => dHix (a.d F) (i.d F), fun _ _ _ _ _ => False, sE_hix a i, noT⟩
@[simp] theorem rdE_hix (a : E) (i : E) {F : Fns} : (E.hix a i).rd F = dHix (a.d F) (i.d F) := rfl
@[simp] theorem rtE_hix (a : E) (i : E) {F : Fns} : (E.hix a i).rt F = (fun _ _ _ _ => False) := rfl
def cE_sl (a : E) (lo : Oe) (hi : Oe) (G : Gm) (N : List Str) (sc : Scope) (x0 : Expr) : Bool := match x0 with
  | .Subscript l (.Slice x y none _) _ => a.chk G N sc l && lo.chk G N sc x && hi.chk G N sc y
  | _ => false
theorem sE_sl (a : E) (lo : Oe) (hi : Oe) : SndE (cE_sl a lo hi) (fun F => dSl (a.d F) (lo.d F) (hi.d F)) := by
    intro C G F gd k X Wx e S tk h
    cases e <;> first | (exact absurd h Bool.false_ne_true) | skip
    rename_i l r p
    cases r <;> first | (exact absurd h Bool.false_ne_true) | skip
    rename_i x y st p2
    cases st <;> first | (exact absurd h Bool.false_ne_true) | skip
    simp only [cE_sl] at h
    obtain ⟨h1, h2⟩ := ba2 h
    obtain ⟨h1, h3⟩ := ba2 h1
    exact de_sl S.hK (E.snd a X Wx l S tk h1) (Oe.snd lo X Wx x S tk h3) (Oe.snd hi X Wx y S tk h2)
def E.sl (a : E) (lo : Oe) (hi : Oe) : E := ⟨cE_sl a lo hi, fun F => dSl (a.d F) (lo.d F) (hi.d F), fun _ _ _ _ _ => False, sE_sl a lo hi, noT⟩
@[simp] theorem rdE_sl (a : E) (lo : Oe) (hi : Oe) {F : Fns} : (E.sl a lo hi).rd F = dSl (a.d F) (lo.d F) (hi.d F) := rfl
@[simp] theorem rtE_sl (a : E) (lo : Oe) (hi : Oe) {F : Fns} : (E.sl a lo hi).rt F = (fun _ _ _ _ => False) := rfl
def cE_tup (es : Es) (G : Gm) (N : List Str) (sc : Scope) (x0 : Expr) : Bool := match x0 with
  | .Tuple ls _ _ => es.chk G N sc ls
  | _ => false
theorem sE_tup (es : Es) : SndE (cE_tup es) (fun F => dTup (es.d F)) := by
    intro C G F gd k X Wx e S tk h
    cases e <;> first | (exact absurd h Bool.false_ne_true) | skip
    simp only [cE_tup] at h
    exact de_tup (Es.snd es X Wx _ S tk h)
def E.tup (es : Es) : E := ⟨cE_tup es, fun F => dTup (es.d F), fun _ _ _ _ _ => False, sE_tup es, noT⟩
@[simp] theorem rdE_tup (es : Es) {F : Fns} : (E.tup es).rd F = dTup (es.d F) := rfl
@[simp] theorem rtE_tup (es : Es) {F : Fns} : (E.tup es).rt F = (fun _ _ _ _ => False) := rfl
def cE_lst (es : Es) (G : Gm) (N : List Str) (sc : Scope) (x0 : Expr) : Bool := match x0 with
  | .List ls _ => es.chk G N sc ls
  | _ => false
theorem sE_lst (es : Es) : SndE (cE_lst es) (fun F => dLst (es.d F)) := by
    intro C G F gd k X Wx e S tk h
    cases e <;> first | (exact absurd h Bool.false_ne_true) | skip
    simp only [cE_lst] at h
    exact de_lst (Es.snd es X Wx _ S tk h)
def E.lst (es : Es) : E := ⟨cE_lst es, fun F => dLst (es.d F), fun _ _ _ _ _ => False, sE_lst es, noT⟩
@[simp] theorem rdE_lst (es : Es) {F : Fns} : (E.lst es).rd F = dLst (es.d F) := rfl
@[simp] theorem rtE_lst (es : Es) {F : Fns} : (E.lst es).rt F = (fun _ _ _ _ => False) := rfl
def cE_newL (es : Es) (G : Gm) (N : List Str) (sc : Scope) (x0 : Expr) : Bool := match x0 with
  | .List ls _ => es.chk G N sc ls
  | _ => false
theorem sE_newL (es : Es) : SndE (cE_newL es) (fun F => dNewL (es.d F)) := by
    intro C G F gd k X Wx e S tk h
    cases e <;> first | (exact absurd h Bool.false_ne_true) | skip
    simp only [cE_newL] at h
    exact de_newL (Es.snd es X Wx _ S tk h)
def E.newL (es : Es) : E := ⟨cE_newL es, fun F => dNewL (es.d F), fun _ _ _ _ _ => False, sE_newL es, noT⟩
@[simp] theorem rdE_newL (es : Es) {F : Fns} : (E.newL es).rd F = dNewL (es.d F) := rfl
@[simp] theorem rtE_newL (es : Es) {F : Fns} : (E.newL es).rt F = (fun _ _ _ _ => False) := rfl
def cE_call (f : Nat) (m1 : Es) (G : Gm) (N : List Str) (sc : Scope) (x0 : Expr) : Bool := match m1, x0 with
  | .cons a es, .Call (.Name x _) (l :: ls) [] _ => (match G.fn[f]? with
    | some (y, n, _) => decide (y = x) && decide (n = es.len + 1) && (G.koA f).isNone
    | none => false) && glB sc x && okN x && noStar l && a.chk G N sc l && es.chk G N sc ls
  | _, _ => false
theorem sE_call (f : Nat) (es : Es) : SndE (cE_call f es) (fun F => dCall es.len (F.f f) (es.d F)) := by
    intro C G F gd k X Wx e S tk h
    cases es with
    | nil => cases e <;> exact absurd h Bool.false_ne_true
    | cons a es =>
      cases e <;> first | (exact absurd h Bool.false_ne_true) | skip
      rename_i f' ls kw p
      cases f' <;> rcases ls with _ | ⟨l, ls⟩ <;> rcases kw with _ | ⟨k1, kw⟩ <;> first | (exact absurd h Bool.false_ne_true) | skip
      rename_i x p1
      simp only [cE_call] at h
      obtain ⟨h, g1⟩ := ba2 h
      obtain ⟨h, g2⟩ := ba2 h
      obtain ⟨h, g3⟩ := ba2 h
      obtain ⟨h, g4⟩ := ba2 h
      obtain ⟨h, g5⟩ := ba2 h
      cases q : G.fn[f]? with
      | none => rw [q] at h; cases h
      | some pq =>
        obtain ⟨y, n, g⟩ := pq
        rw [q] at h
        obtain ⟨h, n3⟩ := ba2 h
        obtain ⟨n1, n2⟩ := ba2 h
        cases of_decide_eq_true n1
        have n2 := of_decide_eq_true n2
        obtain ⟨fa, fd, ps, hm, hk, hl, hb, Fg, hg, _⟩ := S.fn f _ q
        have hb := hb (Option.isNone_iff_eq_none.mp n3)
        have hA : PA X (l :: ls) (liftA C Wx ((Es.cons a es).d F)) := da_cons (E.snd a X Wx l S tk g2) (Es.snd es X Wx ls S tk g1) (star_ok g3)
        have hl' : ps.length = es.len + 1 := hl.trans n2
        show PE X _ (lift C Wx (dCall (es.len + 1) (F.f f) ((Es.cons a es).d F)))
        rw [← hl']
        have Fg' : FnG X.prog X.w X.K X.mg X.base g k fa fd ps (liftF C.K C.Cl ps.length (F.f f)) := by rw [hl]; exact Fg
        exact de_call S.hK Fg' S.room (fun z => S.gdA (hg z)) tk (glB_ok g5) hm hk hb hA (okN_ok g4).1 (star_ok g3) (any_ok g1)
theorem uE_call (f : Nat) (es : Es) : SndT (cE_call f es) (fun F => dTru (dCall es.len (F.f f) (es.d F))) := by
    intro C G F gd k X Wx e S tk h
    have q := sE_call f es X Wx e S tk h
    cases e <;> first | (cases es <;> exact absurd h Bool.false_ne_true; done) | skip
    exact dt_tru S.hK q (plainT_ok rfl)
def E.call (f : Nat) (es : Es) : E := ⟨cE_call f es, fun F => dCall es.len (F.f f) (es.d F), fun F => dTru (dCall es.len (F.f f) (es.d F)), sE_call f es, uE_call f es⟩
@[simp] theorem rdE_call (f : Nat) (es : Es) {F : Fns} : (E.call f es).rd F = dCall es.len (F.f f) (es.d F) := rfl
@[simp] theorem rtE_call (f : Nat) (es : Es) {F : Fns} : (E.call f es).rt F = dTru (dCall es.len (F.f f) (es.d F)) := rfl
def cE_lc (tg : Tg) (src : Ic) (test : Oe) (elt : E) (own : List (Str × Nat)) (G : Gm) (N : List Str) (sc : Scope) (x0 : Expr) : Bool := match x0 with
  | .ListComp l [⟨t, it, ifs, as⟩] scope _ => decide (as = 0) && (!src.needT || tupE t) && src.chk G N sc it && noSet it && blkC N sc scope own && tg.chk true N (relS scope sc) t && test.chkT G.q N (relS scope sc) ifs && elt.chk G.q N (relS scope sc) l && (tg.slots.all fun i => decide (i ∈ own.map (·.2)))
  | _ => false
theorem sE_lc (tg : Tg) (src : Ic) (test : Oe) (elt : E) (own : List (Str × Nat)) : SndE (cE_lc tg src test elt own) (fun F => dLc (src.d F) tg (test.t F.q) (elt.d F.q) (own.map (·.2))) := by
    intro C G F gd k X Wx e S tk h
    cases e <;> first | (exact absurd h Bool.false_ne_true) | skip
    rename_i l gs scope p
    rcases gs with _ | ⟨⟨t, it, ifs, as⟩, _ | ⟨g2, gs⟩⟩ <;> first | (exact absurd h Bool.false_ne_true) | skip
    simp only [cE_lc] at h
    obtain ⟨h, g1⟩ := ba2 h
    obtain ⟨h, g2⟩ := ba2 h
    obtain ⟨h, g3⟩ := ba2 h
    obtain ⟨h, g4⟩ := ba2 h
    obtain ⟨h, g5⟩ := ba2 h
    obtain ⟨h, g6⟩ := ba2 h
    obtain ⟨h, g7⟩ := ba2 h
    obtain ⟨h, g8⟩ := ba2 h
    cases of_decide_eq_true h
    refine de_lc S.calm S.nd (Ic.snd src X Wx t it S tk g8 g7) (blkOk_by g5) (fun s H A cl fp => ?_) (fun s H A cl fp => ?_) (fun s H A cl fp => ?_) (fun i hi => of_decide_eq_true (List.all_eq_true.mp g1 i hi)) (noSet_ok g6)
    · exact Tg.snd (loc := true) (X := X.blk s H scope (compEnvC scope cl A X.env) fp) S.hK S.calm S.nd (fun z => Bool.noConfusion z) tg t g4
    · exact Oe.sndT test _ ifs (S.blk s H scope (compEnvC scope cl A X.env) fp) takesN g3
    · exact E.snd elt _ noW l (S.blk s H scope (compEnvC scope cl A X.env) fp) takesN g2
def E.lc (tg : Tg) (src : Ic) (test : Oe) (elt : E) (own : List (Str × Nat)) : E := ⟨cE_lc tg src test elt own, fun F => dLc (src.d F) tg (test.t F.q) (elt.d F.q) (own.map (·.2)), fun _ _ _ _ _ => False, sE_lc tg src test elt own, noT⟩
@[simp] theorem rdE_lc (tg : Tg) (src : Ic) (test : Oe) (elt : E) (own : List (Str × Nat)) {F : Fns} : (E.lc tg src test elt own).rd F = dLc (src.d F) tg (test.t F.q) (elt.d F.q) (own.map (·.2)) := rfl
@[simp] theorem rtE_lc (tg : Tg) (src : Ic) (test : Oe) (elt : E) (own : List (Str × Nat)) {F : Fns} : (E.lc tg src test elt own).rt F = (fun _ _ _ _ => False) := rfl
def cE_lstS (a : E) (G : Gm) (N : List Str) (sc : Scope) (x0 : Expr) : Bool := match x0 with
  | .Call (.Name x _) [l] [] _ => decide (x = "list") && glB sc x && decide (x ∈ G.free) && noStar l && a.chk G N sc l
  | _ => false
theorem sE_lstS (a : E) : SndE (cE_lstS a) (fun F => dOp1 wListS (a.d F)) := by
    intro C G F gd k X Wx e S tk h
    cases e <;> first | (exact absurd h Bool.false_ne_true) | skip
    rename_i f ls kw p
    cases f <;> rcases ls with _ | ⟨l, _ | ⟨l2, ls⟩⟩ <;> rcases kw with _ | ⟨k1, kw⟩ <;> first | (exact absurd h Bool.false_ne_true) | skip
    simp only [cE_lstS] at h
    obtain ⟨h, g1⟩ := ba2 h
    obtain ⟨h, g2⟩ := ba2 h
    obtain ⟨h, g3⟩ := ba2 h
    obtain ⟨h, g4⟩ := ba2 h
    cases of_decide_eq_true h
    exact de_listS S.calm (glB_ok g4) (S.free _ (of_decide_eq_true g3)) (E.snd a X Wx l S tk g1) (star_ok g2)
def E.lstS (a : E) : E := ⟨cE_lstS a, fun F => dOp1 wListS (a.d F), fun _ _ _ _ _ => False, sE_lstS a, noT⟩
@[simp] theorem rdE_lstS (a : E) {F : Fns} : (E.lstS a).rd F = dOp1 wListS (a.d F) := rfl
@[simp] theorem rtE_lstS (a : E) {F : Fns} : (E.lstS a).rt F = (fun _ _ _ _ => False) := rfl
def cE_callP (f : Nat) (m1 : Es) (G : Gm) (N : List Str) (sc : Scope) (x0 : Expr) : Bool := match m1, x0 with
  | .cons a es, .Call (.Name x _) (l :: ls) [] _ => (match G.fn[f]? with
    | some (y, n, _) => decide (y = x) && decide (n = es.len + 1) && (G.koA f).isNone
    | none => false) && glB sc x && okN x && noStar l && a.chk G N sc l && es.chk G N sc ls
  | _, _ => false
def cE_mm (mx : Bool) (a : E) (b : E) (G : Gm) (N : List Str) (sc : Scope) (x0 : Expr) : Bool := match x0 with
  | .Call (.Name x _) [l, r] [] _ => decide (mmN mx = x) && glB sc x && decide (x ∈ G.free) && noStar l && noStar r && a.chk G N sc l && b.chk G N sc r
  | _ => false
theorem sE_mm (mx : Bool) (a : E) (b : E) : SndE (cE_mm mx a b) (fun F => dMM mx (a.d F) (b.d F)) := by
    intro C G F gd k X Wx e S tk h
    cases e <;> first | (exact absurd h Bool.false_ne_true) | skip
    rename_i f ls kw p
    cases f <;> rcases ls with _ | ⟨l, _ | ⟨r, _ | ⟨l3, ls⟩⟩⟩ <;> rcases kw with _ | ⟨k1, kw⟩ <;> first | (exact absurd h Bool.false_ne_true) | skip
    simp only [cE_mm] at h
    obtain ⟨h, g1⟩ := ba2 h
    obtain ⟨h, g2⟩ := ba2 h
    obtain ⟨h, g3⟩ := ba2 h
    obtain ⟨h, g4⟩ := ba2 h
    obtain ⟨h, g5⟩ := ba2 h
    obtain ⟨g7, g6⟩ := ba2 h
    cases of_decide_eq_true g7
    exact de_mm S.calm (glB_ok g6) (S.free _ (of_decide_eq_true g5)) (E.snd a X Wx l S tk g2) (E.snd b X Wx r S tk g1) (star_ok g4) (star_ok g3)
def E.mm (mx : Bool) (a : E) (b : E) : E := ⟨cE_mm mx a b, fun F => dMM mx (a.d F) (b.d F), fun _ _ _ _ _ => False, sE_mm mx a b, noT⟩
@[simp] theorem rdE_mm (mx : Bool) (a : E) (b : E) {F : Fns} : (E.mm mx a b).rd F = dMM mx (a.d F) (b.d F) := rfl
@[simp] theorem rtE_mm (mx : Bool) (a : E) (b : E) {F : Fns} : (E.mm mx a b).rt F = (fun _ _ _ _ => False) := rfl
def cE_mxs (mx : Bool) (a : E) (G : Gm) (N : List Str) (sc : Scope) (x0 : Expr) : Bool := match x0 with
  | .Call (.Name x _) [l] [] _ => decide (mmN mx = x) && glB sc x && decide (x ∈ G.free) && noStar l && a.chk G N sc l
  | _ => false
theorem sE_mxs (mx : Bool) (a : E) : SndE (cE_mxs mx a) (fun F => dOp1 (wMx mx) (a.d F)) := by
    intro C G F gd k X Wx e S tk h
    cases e <;> first | (exact absurd h Bool.false_ne_true) | skip
    rename_i f ls kw p
    cases f <;> rcases ls with _ | ⟨l, _ | ⟨r, ls⟩⟩ <;> rcases kw with _ | ⟨k1, kw⟩ <;> first | (exact absurd h Bool.false_ne_true) | skip
    simp only [cE_mxs] at h
    obtain ⟨h, g1⟩ := ba2 h
    obtain ⟨h, g2⟩ := ba2 h
    obtain ⟨h, g3⟩ := ba2 h
    obtain ⟨g5, g4⟩ := ba2 h
    cases of_decide_eq_true g5
    exact de_mx S.hK S.calm (glB_ok g4) (S.free _ (of_decide_eq_true g3)) (E.snd a X Wx l S tk g1) (star_ok g2)
def E.mxs (mx : Bool) (a : E) : E := ⟨cE_mxs mx a, fun F => dOp1 (wMx mx) (a.d F), fun _ _ _ _ _ => False, sE_mxs mx a, noT⟩
@[simp] theorem rdE_mxs (mx : Bool) (a : E) {F : Fns} : (E.mxs mx a).rd F = dOp1 (wMx mx) (a.d F) := rfl
@[simp] theorem rtE_mxs (mx : Bool) (a : E) {F : Fns} : (E.mxs mx a).rt F = (fun _ _ _ _ => False) := rfl
def cE_join (a : E) (b : E) (G : Gm) (N : List Str) (sc : Scope) (x0 : Expr) : Bool := match x0 with
  | .Call (.Attribute l m ap) [r] [] cp => decide (m = "join") && (ap.endLine == cp.line) && noC0 l && noStar r && a.chk G N sc l && b.chk G N sc r
  | _ => false
theorem sE_join (a : E) (b : E) : SndE (cE_join a b) (fun F => dJoin (a.d F) (b.d F)) := by
    intro C G F gd k X Wx e S tk h
    cases e <;> first | (exact absurd h Bool.false_ne_true) | skip
    rename_i f ls kw p
    cases f <;> rcases ls with _ | ⟨r, _ | ⟨r2, ls⟩⟩ <;> rcases kw with _ | ⟨k1, kw⟩ <;> first | (exact absurd h Bool.false_ne_true) | skip
    simp only [cE_join] at h
    obtain ⟨h, g1⟩ := ba2 h
    obtain ⟨h, g2⟩ := ba2 h
    obtain ⟨h, g3⟩ := ba2 h
    obtain ⟨h, g4⟩ := ba2 h
    obtain ⟨g6, g5⟩ := ba2 h
    cases of_decide_eq_true g6
    exact de_join S.hK (E.snd a X Wx _ S tk g2) (E.snd b X Wx r S tk g1) (star_ok g3) (base_ok g4) g5
def E.join (a : E) (b : E) : E := ⟨cE_join a b, fun F => dJoin (a.d F) (b.d F), fun _ _ _ _ _ => False, sE_join a b, noT⟩
@[simp] theorem rdE_join (a : E) (b : E) {F : Fns} : (E.join a b).rd F = dJoin (a.d F) (b.d F) := rfl
@[simp] theorem rtE_join (a : E) (b : E) {F : Fns} : (E.join a b).rt F = (fun _ _ _ _ => False) := rfl
def cE_repS (a : E) (b : E) (G : Gm) (N : List Str) (sc : Scope) (x0 : Expr) : Bool := match x0 with
  | .BinOp l o r _ => decide (o = .Mult) && a.chk G N sc l && b.chk G N sc r
  | _ => false
theorem sE_repS (a : E) (b : E) : SndE (cE_repS a b) (fun F => dOp2 wRepS (a.d F) (b.d F)) := by
    intro C G F gd k X Wx e S tk h
    cases e <;> first | (exact absurd h Bool.false_ne_true) | skip
    simp only [cE_repS] at h
    obtain ⟨h, g1⟩ := ba2 h
    obtain ⟨g3, g2⟩ := ba2 h
    cases of_decide_eq_true g3
    exact de_repS (E.snd a X Wx _ S tk g2) (E.snd b X Wx _ S tk g1)
def E.repS (a : E) (b : E) : E := ⟨cE_repS a b, fun F => dOp2 wRepS (a.d F) (b.d F), fun _ _ _ _ _ => False, sE_repS a b, noT⟩
@[simp] theorem rdE_repS (a : E) (b : E) {F : Fns} : (E.repS a b).rd F = dOp2 wRepS (a.d F) (b.d F) := rfl
@[simp] theorem rtE_repS (a : E) (b : E) {F : Fns} : (E.repS a b).rt F = (fun _ _ _ _ => False) := rfl
def cE_act (i : Nat) (G : Gm) (N : List Str) (sc : Scope) (x0 : Expr) : Bool := match x0 with
  | .Call (.Name x _) [] [] _ => decide (N[i]? = some x) && visB sc x && okN x
  | _ => false
theorem sE_act (i : Nat) : SndE (cE_act i) (fun F => dAct i F.a) := by
    intro C G F gd k X Wx e S tk h
    cases e <;> first | (exact absurd h Bool.false_ne_true) | skip
    rename_i f ls kw p
    cases f <;> rcases ls with _ | ⟨l, ls⟩ <;> rcases kw with _ | ⟨k1, kw⟩ <;> first | (exact absurd h Bool.false_ne_true) | skip
    simp only [cE_act] at h
    obtain ⟨h, g1⟩ := ba2 h
    obtain ⟨h, g2⟩ := ba2 h
    exact S.act X.pn X.xe Wx i _ _ _ tk (of_decide_eq_true h) (visB_ok g2) g1
def E.act (i : Nat) : E := ⟨cE_act i, fun F => dAct i F.a, fun _ _ _ _ _ => False, sE_act i, noT⟩
@[simp] theorem rdE_act (i : Nat) {F : Fns} : (E.act i).rd F = dAct i F.a := rfl
@[simp] theorem rtE_act (i : Nat) {F : Fns} : (E.act i).rt F = (fun _ _ _ _ => False) := rfl
def cE_lam (f : Nat) (b : E) (G : Gm) (N : List Str) (sc : Scope) (x0 : Expr) : Bool := match x0 with
  | .Call (.Name x _) [.Lambda params body scope _] [] _ => G.lm && decide (G.hn[f]? = some x) && glB sc x && okN x && noPar params && LamX.lamSB sc scope && b.chk G.q N scope body
  | _ => false
theorem sE_lam (f : Nat) (b : E) : SndE (cE_lam f b) (fun F => dLam (F.g f) (b.d F.q)) := by
    intro C G F gd k X Wx e S tk h
    cases e <;> first | (exact absurd h Bool.false_ne_true) | (simp [cE_lam] at h; done) | skip
    rename_i f' ls kw p
    cases f' <;> rcases ls with _ | ⟨l, _ | ⟨l2, ls⟩⟩ <;> rcases kw with _ | ⟨k1, kw⟩ <;> first | (exact absurd h Bool.false_ne_true) | (simp [cE_lam] at h; done) | skip
    cases l <;> first | (exact absurd h Bool.false_ne_true) | (simp [cE_lam] at h; done) | skip
    rename_i x p1 params body scope lpos
    simp only [cE_lam] at h
    obtain ⟨h, g1⟩ := ba2 h
    obtain ⟨h, g2⟩ := ba2 h
    obtain ⟨h, g3⟩ := ba2 h
    obtain ⟨h, g4⟩ := ba2 h
    obtain ⟨h, g5⟩ := ba2 h
    obtain ⟨g7, g6⟩ := ba2 h
    obtain ⟨k', hk2, fns, hos, c, Pt, TB, hcode, hT, hu⟩ := S.lam g7
    obtain ⟨fa, fd, a, hm, hk, hb, Ho⟩ := hos f x (of_decide_eq_true g6)
    have hpar : params = ⟨[], [], none, [], [], none, []⟩ := by
      unfold noPar at g3
      split at g3
      · rfl
      · cases g3
    subst hpar
    refine de_lam (k := k') S.hK (S.hK ▸ Ho) (S.room.mono hk2) S.gdA tk (glB_ok g5) hm hk hb TB hcode hT hu (LamX.lamS_by g2) rfl (fun q cl pm cv ctv => bind_kw (ps := []) (ks := []) (pi := []) (us := []) (ws := []) rfl rfl rfl rfl) (fun A outer t Gp E f' c' hr hg => ?_) (okN_ok g4).1
    exact DL.E.snd (G := G.q) (F := F.q) b (lamCxh X A outer t Gp E scope f' c') _ body ⟨S.hK, rfl, S.nd, (room65 hr), hr, hg, S.sh, S.free, S.con, fns, fun _ _ _ _ _ _ _ _ _ _ _ => de_noact, fun z => Bool.noConfusion z⟩ (takes_of rfl rfl rfl rfl) g1
def E.lam (f : Nat) (b : E) : E := ⟨cE_lam f b, fun F => dLam (F.g f) (b.d F.q), fun _ _ _ _ _ => False, sE_lam f b, noT⟩
@[simp] theorem rdE_lam (f : Nat) (b : E) {F : Fns} : (E.lam f b).rd F = dLam (F.g f) (b.d F.q) := rfl
@[simp] theorem rtE_lam (f : Nat) (b : E) {F : Fns} : (E.lam f b).rt F = (fun _ _ _ _ => False) := rfl
def cE_dic (ks : List Str) (es : Es) (G : Gm) (N : List Str) (sc : Scope) (x0 : Expr) : Bool := match x0 with
  | .Dict keys ls _ => keysB ks keys && decide ks.Nodup && decide (ks.length ≤ 15) && decide (ks ≠ []) && decide (es.len = ks.length) && es.chk G N sc ls
  | _ => false
theorem sE_dic (ks : List Str) (es : Es) : SndE (cE_dic ks es) (fun F => dDic ks (es.d F)) := by
    intro C G F gd k X Wx e S tk h
    cases e <;> first | (exact absurd h Bool.false_ne_true) | skip
    rename_i keys ls p
    simp only [cE_dic] at h
    obtain ⟨h, g1⟩ := ba2 h
    obtain ⟨h, g2⟩ := ba2 h
    obtain ⟨h, g3⟩ := ba2 h
    obtain ⟨h, g4⟩ := ba2 h
    obtain ⟨g6, g5⟩ := ba2 h
    have g2 := of_decide_eq_true g2
    obtain ⟨trs, pp, ht, kl, kall⟩ := Es.sndP es X Wx ls ks keys p S tk g1 g6 g2
    exact de_dic pp ht kall (kl.1.trans kl.2) (fun z => (of_decide_eq_true g3) (by
      have : keys.length = ks.length := kl.1.trans (kl.2.trans (es_len g1 |>.symm.trans g2))
      rw [z] at this
      exact List.eq_nil_of_length_eq_zero this.symm)) (by
      have : keys.length = ks.length := kl.1.trans (kl.2.trans (es_len g1 |>.symm.trans g2))
      rw [this]; exact of_decide_eq_true g4) (of_decide_eq_true g4) (of_decide_eq_true g5)
def E.dic (ks : List Str) (es : Es) : E := ⟨cE_dic ks es, fun F => dDic ks (es.d F), fun _ _ _ _ _ => False, sE_dic ks es, noT⟩
@[simp] theorem rdE_dic (ks : List Str) (es : Es) {F : Fns} : (E.dic ks es).rd F = dDic ks (es.d F) := rfl
@[simp] theorem rtE_dic (ks : List Str) (es : Es) {F : Fns} : (E.dic ks es).rt F = (fun _ _ _ _ => False) := rfl
def cE_callO (f : Nat) (n : Nat) (ks : List Str) (pi : List Nat) (dfs : List Kq) (es : Es) (us : Es) (G : Gm) (N : List Str) (sc : Scope) (x0 : Expr) : Bool := match x0 with
  | .Call (.Name x _) ls kws _ => (match G.fn[f]?, G.koA f, G.ps[f]? with
    | some (y, m, _), some (np, dfl), some ps => decide (y = x) && decide (m = n) && decide (es.len = np) && koB ps es.len ks ((dfl.filter fun p => !ks.contains p.1).map (·.1)) pi && (decide (dfs.length = (dfl.filter fun p => !ks.contains p.1).length) && (dfs.zip ((dfl.filter fun p => !ks.contains p.1).map (·.2))).all fun p => p.1.same p.2)
    | _, _, _ => false) && glB sc x && okN x && decide (kws.map (·.arg) = ks.map some) && decide (us.len = ks.length) && es.chk G N sc ls && us.chkK G N sc kws
  | _ => false
theorem kq_all : ∀ {as bs : List Kq}, as.length = bs.length → ((as.zip bs).all fun p => p.1.same p.2) = true → as = bs
  | [], [], _, _ => rfl
  | [], _ :: _, h, _ => by simp at h
  | _ :: _, [], h, _ => by simp at h
  | a :: as, b :: bs, h, q => by
    simp only [List.zip_cons_cons, List.all_cons, Bool.and_eq_true] at q
    rw [Kq.same_eq q.1, kq_all (by simpa using h) q.2]
theorem sE_callO (f : Nat) (n : Nat) (ks : List Str) (pi : List Nat) (dfs : List Kq) (es : Es) (us : Es) : SndE (cE_callO f n ks pi dfs es us) (fun F => dCallO n es.len us.len pi (dfs.map Kq.d) (F.f f) (es.d F) (us.d F)) := by
    intro C G F gd k X Wx e S tk h
    cases e <;> first | (exact absurd h Bool.false_ne_true) | skip
    rename_i f' ls kws p
    cases f' <;> first | (exact absurd h Bool.false_ne_true) | skip
    rename_i x p1
    simp only [cE_callO] at h
    obtain ⟨h, g1⟩ := ba2 h
    obtain ⟨h, g2⟩ := ba2 h
    obtain ⟨h, g3⟩ := ba2 h
    obtain ⟨h, g4⟩ := ba2 h
    obtain ⟨h, g5⟩ := ba2 h
    obtain ⟨h, g6⟩ := ba2 h
    cases q : G.fn[f]? with
    | none => rw [q] at h; cases h
    | some pq =>
      obtain ⟨y, m, g⟩ := pq
      cases q1 : G.koA f with
      | none => rw [q, q1] at h; cases h
      | some kp =>
        obtain ⟨np, dfl⟩ := kp
        cases q2 : G.ps[f]? with
        | none => rw [q, q1, q2] at h; cases h
        | some qs =>
          rw [q, q1, q2] at h
          obtain ⟨h, n5⟩ := ba2 h
          obtain ⟨h, n4⟩ := ba2 h
          obtain ⟨h, n3⟩ := ba2 h
          obtain ⟨n1, n2⟩ := ba2 h
          cases of_decide_eq_true n1
          have n2 := of_decide_eq_true n2
          subst n2
          have n3 := of_decide_eq_true n3
          obtain ⟨n5, n6⟩ := ba2 n5
          have n7 : dfs = (dfl.filter fun p => !ks.contains p.1).map (·.2) := kq_all (by rw [List.length_map]; exact of_decide_eq_true n5) n6
          obtain ⟨fa, fd, ps, hm, hk, hl, hb, Fg, hg, bk, hps, hko⟩ := S.fn f _ q
          cases hps qs q2
          have hus := of_decide_eq_true g3
          have hel := es_len g2
          have e7 : dfs.map Kq.d = (dfl.filter fun p => !ks.contains p.1).map fun p => p.2.d := by rw [n7, List.map_map] <;> rfl
          show PE X _ (lift C Wx (dCallO m es.len us.len pi (dfs.map Kq.d) (F.f f) (es.d F) (us.d F)))
          have hl2 : qs.length = m := hl
          rw [e7, ← hl2, hel, hus]
          have Fg' : FnG X.prog X.w X.K X.mg X.base g k fa fd qs (liftF C.K C.Cl qs.length (F.f f)) := by rw [hl]; exact Fg
          refine de_callO S.hK Fg' S.room (fun z => S.gdA (hg z)) tk (glB_ok g6) hm hk (by rw [← hel, n3]; exact hko np dfl q1) (Es.snd es X Wx ls S tk g2) (Es.sndK us X Wx kws S tk g1) (hel ▸ n4) (of_decide_eq_true g4) (okN_ok g5).1 ?_ (any_ok g2) (fun z ds h Z P t => ?_)
          · cases ls with
            | nil => exact .inl rfl
            | cons l ls =>
              cases es with
              | nil => simp [Es.chk] at g2
              | cons a es =>
                unfold Es.chk at g2
                exact .inr ⟨l, ls, rfl, star_ok (ba2 (ba2 g2).1).1⟩
          · subst z
            cases es with
            | nil => exact t
            | cons a es => simp [Es.chk] at g2
def E.callO (f : Nat) (n : Nat) (ks : List Str) (pi : List Nat) (dfs : List Kq) (es : Es) (us : Es) : E := ⟨cE_callO f n ks pi dfs es us, fun F => dCallO n es.len us.len pi (dfs.map Kq.d) (F.f f) (es.d F) (us.d F), fun _ _ _ _ _ => False, sE_callO f n ks pi dfs es us, noT⟩
@[simp] theorem rdE_callO (f : Nat) (n : Nat) (ks : List Str) (pi : List Nat) (dfs : List Kq) (es : Es) (us : Es) {F : Fns} : (E.callO f n ks pi dfs es us).rd F = dCallO n es.len us.len pi (dfs.map Kq.d) (F.f f) (es.d F) (us.d F) := rfl
@[simp] theorem rtE_callO (f : Nat) (n : Nat) (ks : List Str) (pi : List Nat) (dfs : List Kq) (es : Es) (us : Es) {F : Fns} : (E.callO f n ks pi dfs es us).rt F = (fun _ _ _ _ => False) := rfl
def cE_fin (ng : Bool) (a : E) (b : E) (G : Gm) (N : List Str) (sc : Scope) (x0 : Expr) : Bool := match x0 with
  | .Compare l [o] [r] _ => decide (inP ng = o) && noSet r && a.chk G N sc l && b.chk G N sc r
  | _ => false
theorem sE_fin (ng : Bool) (a : E) (b : E) : SndE (cE_fin ng a b) (fun F => dFin ng (a.d F) (b.d F)) := by
    intro C G F gd k X Wx e S tk h
    cases e <;> first | (exact absurd h Bool.false_ne_true) | skip
    rename_i l os rs p
    rcases os with _ | ⟨o, _ | ⟨o2, os⟩⟩ <;> rcases rs with _ | ⟨r, _ | ⟨r2, rs⟩⟩ <;> first | (exact absurd h Bool.false_ne_true) | skip
    simp only [cE_fin] at h
    obtain ⟨h1, h2⟩ := ba2 h
    obtain ⟨h1, h3⟩ := ba2 h1
    obtain ⟨h1, h4⟩ := ba2 h1
    cases of_decide_eq_true h1
    exact de_fin (Nat.lt_of_le_of_lt (by omega) S.units) (nomk h4) (E.snd a X Wx l S tk h3) (E.snd b X Wx r S tk h2)
theorem uE_fin (ng : Bool) (a : E) (b : E) : SndT (cE_fin ng a b) (fun F => dFinT ng (a.d F) (b.d F)) := by
    intro C G F gd k X Wx e S tk h
    cases e <;> first | (exact absurd h Bool.false_ne_true) | skip
    rename_i l os rs p
    rcases os with _ | ⟨o, _ | ⟨o2, os⟩⟩ <;> rcases rs with _ | ⟨r, _ | ⟨r2, rs⟩⟩ <;> first | (exact absurd h Bool.false_ne_true) | skip
    simp only [cE_fin] at h
    obtain ⟨h1, h2⟩ := ba2 h
    obtain ⟨h1, h3⟩ := ba2 h1
    obtain ⟨h1, h4⟩ := ba2 h1
    cases of_decide_eq_true h1
    exact dt_fin (Nat.lt_of_le_of_lt (by omega) S.units) (nomk h4) (E.snd a X Wx l S tk h3) (E.snd b X Wx r S tk h2)
def E.fin (ng : Bool) (k : E) (a : E) : E := ⟨cE_fin ng k a, fun F => dFin ng (k.d F) (a.d F), fun F => dFinT ng (k.d F) (a.d F), sE_fin ng k a, uE_fin ng k a⟩
@[simp] theorem rdE_fin (ng : Bool) (k : E) (a : E) {F : Fns} : (E.fin ng k a).rd F = dFin ng (k.d F) (a.d F) := rfl
@[simp] theorem rtE_fin (ng : Bool) (k : E) (a : E) {F : Fns} : (E.fin ng k a).rt F = dFinT ng (k.d F) (a.d F) := rfl
def cIc_l (a : E) (G : Gm) (N : List Str) (sc : Scope) (x0 : Expr) : Bool := match x0 with
  | l => a.chk G N sc l
theorem sIc_l (a : E) : SndI false (cIc_l a) (fun F => dItL (a.d F)) := by
    intro C G F gd k X Wx tg e S tk ht h
    simp only [cIc_l] at h
    exact di_lst S.hK (E.snd a X Wx e S tk h)
def Ic.l (e : E) : Ic := ⟨false, cIc_l e, fun F => dItL (e.d F), sIc_l e⟩
@[simp] theorem rdIc_l (e : E) {F : Fns} : (Ic.l e).rd F = dItL (e.d F) := rfl
def cIc_t (a : E) (G : Gm) (N : List Str) (sc : Scope) (x0 : Expr) : Bool := match x0 with
  | l => a.chk G N sc l
theorem sIc_t (a : E) : SndI false (cIc_t a) (fun F => dItT (a.d F)) := by
    intro C G F gd k X Wx tg e S tk ht h
    simp only [cIc_t] at h
    exact di_tup S.hK (E.snd a X Wx e S tk h)
def Ic.t (e : E) : Ic := ⟨false, cIc_t e, fun F => dItT (e.d F), sIc_t e⟩
@[simp] theorem rdIc_t (e : E) {F : Fns} : (Ic.t e).rd F = dItT (e.d F) := rfl
def cIc_s (a : E) (G : Gm) (N : List Str) (sc : Scope) (x0 : Expr) : Bool := match x0 with
  | l => a.chk G N sc l
theorem sIc_s (a : E) : SndI false (cIc_s a) (fun F => dItS (a.d F)) := by
    intro C G F gd k X Wx tg e S tk ht h
    simp only [cIc_s] at h
    exact di_str (E.snd a X Wx e S tk h)
def Ic.s (e : E) : Ic := ⟨false, cIc_s e, fun F => dItS (e.d F), sIc_s e⟩
@[simp] theorem rdIc_s (e : E) {F : Fns} : (Ic.s e).rd F = dItS (e.d F) := rfl
def cIc_r1 (a : E) (G : Gm) (N : List Str) (sc : Scope) (x0 : Expr) : Bool := match x0 with
  | .Call (.Name x _) [l] [] _ => decide (x = "range") && glB sc x && decide (x ∈ G.free) && noStar l && a.chk G N sc l
  | _ => false
theorem sIc_r1 (a : E) : SndI false (cIc_r1 a) (fun F => dItR1 (a.d F)) := by
    intro C G F gd k X Wx tg e S tk ht h
    cases e <;> first | (exact absurd h Bool.false_ne_true) | skip
    rename_i f ls kw p
    cases f <;> rcases ls with _ | ⟨l, _ | ⟨l2, ls⟩⟩ <;> rcases kw with _ | ⟨k1, kw⟩ <;> first | (exact absurd h Bool.false_ne_true) | skip
    simp only [cIc_r1] at h
    obtain ⟨h, g1⟩ := ba2 h
    obtain ⟨h, g2⟩ := ba2 h
    obtain ⟨h, g3⟩ := ba2 h
    obtain ⟨h, g4⟩ := ba2 h
    cases of_decide_eq_true h
    exact di_r1 (glB_ok g4) (S.free _ (of_decide_eq_true g3)) (E.snd a X Wx l S tk g1) (star_ok g2)
def Ic.r1 (e : E) : Ic := ⟨false, cIc_r1 e, fun F => dItR1 (e.d F), sIc_r1 e⟩
@[simp] theorem rdIc_r1 (e : E) {F : Fns} : (Ic.r1 e).rd F = dItR1 (e.d F) := rfl
def cIc_r2 (a : E) (b : E) (G : Gm) (N : List Str) (sc : Scope) (x0 : Expr) : Bool := match x0 with
  | .Call (.Name x _) [l, r] [] _ => decide (x = "range") && glB sc x && decide (x ∈ G.free) && noStar l && noStar r && a.chk G N sc l && b.chk G N sc r
  | _ => false
theorem sIc_r2 (a : E) (b : E) : SndI false (cIc_r2 a b) (fun F => dItR2 (a.d F) (b.d F)) := by
    intro C G F gd k X Wx tg e S tk ht h
    cases e <;> first | (exact absurd h Bool.false_ne_true) | (simp [cIc_r2] at h; done) | skip
    rename_i f ls kw p
    cases f <;> rcases ls with _ | ⟨l, _ | ⟨l2, _ | ⟨l3, ls⟩⟩⟩ <;> rcases kw with _ | ⟨k1, kw⟩ <;> first | (exact absurd h Bool.false_ne_true) | (simp [cIc_r2] at h; done) | skip
    simp only [cIc_r2] at h
    obtain ⟨h, g1⟩ := ba2 h
    obtain ⟨h, g2⟩ := ba2 h
    obtain ⟨h, g3⟩ := ba2 h
    obtain ⟨h, g4⟩ := ba2 h
    obtain ⟨h, g5⟩ := ba2 h
    obtain ⟨h, g6⟩ := ba2 h
    cases of_decide_eq_true h
    exact di_r2 (glB_ok g6) (S.free _ (of_decide_eq_true g5)) (E.snd a X Wx l S tk g2) (E.snd b X Wx l2 S tk g1) (by rw [star_ok g4, star_ok g3]; rfl) (star_ok g3)
def Ic.r2 (a : E) (b : E) : Ic := ⟨false, cIc_r2 a b, fun F => dItR2 (a.d F) (b.d F), sIc_r2 a b⟩
@[simp] theorem rdIc_r2 (a : E) (b : E) {F : Fns} : (Ic.r2 a b).rd F = dItR2 (a.d F) (b.d F) := rfl
def cIc_en (a : E) (G : Gm) (N : List Str) (sc : Scope) (x0 : Expr) : Bool := match x0 with
  | .Call (.Name x _) [l] [] _ => decide (x = "enumerate") && glB sc x && decide (x ∈ G.free) && noStar l && a.chk G N sc l
  | _ => false
theorem sIc_en (a : E) : SndI true (cIc_en a) (fun F => dItE (a.d F)) := by
    intro C G F gd k X Wx tg e S tk ht h
    cases tg <;> first | (exact absurd ht Bool.false_ne_true) | skip
    cases e <;> first | (exact absurd h Bool.false_ne_true) | skip
    rename_i f ls kw p
    cases f <;> rcases ls with _ | ⟨l, _ | ⟨l2, ls⟩⟩ <;> rcases kw with _ | ⟨k1, kw⟩ <;> first | (exact absurd h Bool.false_ne_true) | skip
    simp only [cIc_en] at h
    obtain ⟨h, g1⟩ := ba2 h
    obtain ⟨h, g2⟩ := ba2 h
    obtain ⟨h, g3⟩ := ba2 h
    obtain ⟨h, g4⟩ := ba2 h
    cases of_decide_eq_true h
    exact di_en S.hK (glB_ok g4) (S.free _ (of_decide_eq_true g3)) (E.snd a X Wx l S tk g1) (star_ok g2)
def Ic.en (e : E) : Ic := ⟨true, cIc_en e, fun F => dItE (e.d F), sIc_en e⟩
@[simp] theorem rdIc_en (e : E) {F : Fns} : (Ic.en e).rd F = dItE (e.d F) := rfl
def cIc_r3 (a : E) (b : E) (c : E) (G : Gm) (N : List Str) (sc : Scope) (x0 : Expr) : Bool := match x0 with
  | .Call (.Name x _) [l, r, q] [] _ => decide (x = "range") && glB sc x && decide (x ∈ G.free) && noStar l && noStar r && noStar q && a.chk G N sc l && b.chk G N sc r && c.chk G N sc q
  | _ => false
theorem sIc_r3 (a : E) (b : E) (c : E) : SndI false (cIc_r3 a b c) (fun F => dItR3 (a.d F) (b.d F) (c.d F)) := by
    intro C G F gd k X Wx tg e S tk ht h
    cases e <;> first | (exact absurd h Bool.false_ne_true) | (simp [cIc_r3] at h; done) | skip
    rename_i f ls kw p
    cases f <;> rcases ls with _ | ⟨l, _ | ⟨l2, _ | ⟨l3, _ | ⟨l4, ls⟩⟩⟩⟩ <;> rcases kw with _ | ⟨k1, kw⟩ <;> first | (exact absurd h Bool.false_ne_true) | (simp [cIc_r3] at h; done) | skip
    simp only [cIc_r3] at h
    obtain ⟨h, g1⟩ := ba2 h
    obtain ⟨h, g2⟩ := ba2 h
    obtain ⟨h, g3⟩ := ba2 h
    obtain ⟨h, g4⟩ := ba2 h
    obtain ⟨h, g5⟩ := ba2 h
    obtain ⟨h, g6⟩ := ba2 h
    obtain ⟨h, g7⟩ := ba2 h
    obtain ⟨h, g8⟩ := ba2 h
    cases of_decide_eq_true h
    exact di_r3 (glB_ok g8) (S.free _ (of_decide_eq_true g7)) (E.snd a X Wx l S tk g3) (E.snd b X Wx l2 S tk g2) (E.snd c X Wx l3 S tk g1) (star_ok g6) (star_ok g5) (star_ok g4)
def Ic.r3 (a : E) (b : E) (c : E) : Ic := ⟨false, cIc_r3 a b c, fun F => dItR3 (a.d F) (b.d F) (c.d F), sIc_r3 a b c⟩
@[simp] theorem rdIc_r3 (a : E) (b : E) (c : E) {F : Fns} : (Ic.r3 a b c).rd F = dItR3 (a.d F) (b.d F) (c.d F) := rfl
def cIc_r4 (a : E) (b : E) (c : E) (G : Gm) (N : List Str) (sc : Scope) (x0 : Expr) : Bool := match x0 with
  | .Call (.Name x _) [l, r, q] [] _ => decide (x = "range") && glB sc x && decide (x ∈ G.free) && noStar l && noStar r && noStar q && a.chk G N sc l && b.chk G N sc r && c.chk G N sc q
  | _ => false
theorem sIc_r4 (a : E) (b : E) (c : E) : SndI false (cIc_r4 a b c) (fun F => dItR4 (a.d F) (b.d F) (c.d F)) := by
    intro C G F gd k X Wx tg e S tk ht h
    cases e <;> first | (exact absurd h Bool.false_ne_true) | (simp [cIc_r4] at h; done) | skip
    rename_i f ls kw p
    cases f <;> rcases ls with _ | ⟨l, _ | ⟨l2, _ | ⟨l3, _ | ⟨l4, ls⟩⟩⟩⟩ <;> rcases kw with _ | ⟨k1, kw⟩ <;> first | (exact absurd h Bool.false_ne_true) | (simp [cIc_r4] at h; done) | skip
    simp only [cIc_r4] at h
    obtain ⟨h, g1⟩ := ba2 h
    obtain ⟨h, g2⟩ := ba2 h
    obtain ⟨h, g3⟩ := ba2 h
    obtain ⟨h, g4⟩ := ba2 h
    obtain ⟨h, g5⟩ := ba2 h
    obtain ⟨h, g6⟩ := ba2 h
    obtain ⟨h, g7⟩ := ba2 h
    obtain ⟨h, g8⟩ := ba2 h
    cases of_decide_eq_true h
    exact di_r4 (glB_ok g8) (S.free _ (of_decide_eq_true g7)) (E.snd a X Wx l S tk g3) (E.snd b X Wx l2 S tk g2) (E.snd c X Wx l3 S tk g1) (star_ok g6) (star_ok g5) (star_ok g4)
def Ic.r4 (a : E) (b : E) (c : E) : Ic := ⟨false, cIc_r4 a b c, fun F => dItR4 (a.d F) (b.d F) (c.d F), sIc_r4 a b c⟩
@[simp] theorem rdIc_r4 (a : E) (b : E) (c : E) {F : Fns} : (Ic.r4 a b c).rd F = dItR4 (a.d F) (b.d F) (c.d F) := rfl
def cIc_zip (a : E) (b : E) (G : Gm) (N : List Str) (sc : Scope) (x0 : Expr) : Bool := match x0 with
  | .Call (.Name x _) [l, r] [] _ => decide (x = "zip") && glB sc x && decide (x ∈ G.free) && noStar l && noStar r && a.chk G N sc l && b.chk G N sc r
  | _ => false
theorem sIc_zip (a : E) (b : E) : SndI true (cIc_zip a b) (fun F => dItZ (a.d F) (b.d F)) := by
    intro C G F gd k X Wx tg e S tk ht h
    cases tg <;> first | (exact absurd ht Bool.false_ne_true) | skip
    cases e <;> first | (exact absurd h Bool.false_ne_true) | (simp [cIc_zip] at h; done) | skip
    rename_i f ls kw p
    cases f <;> rcases ls with _ | ⟨l, _ | ⟨l2, _ | ⟨l3, ls⟩⟩⟩ <;> rcases kw with _ | ⟨k1, kw⟩ <;> first | (exact absurd h Bool.false_ne_true) | (simp [cIc_zip] at h; done) | skip
    simp only [cIc_zip] at h
    obtain ⟨h, g1⟩ := ba2 h
    obtain ⟨h, g2⟩ := ba2 h
    obtain ⟨h, g3⟩ := ba2 h
    obtain ⟨h, g4⟩ := ba2 h
    obtain ⟨h, g5⟩ := ba2 h
    obtain ⟨h, g6⟩ := ba2 h
    cases of_decide_eq_true h
    exact di_zip S.hK (glB_ok g6) (S.free _ (of_decide_eq_true g5)) (E.snd a X Wx l S tk g2) (E.snd b X Wx l2 S tk g1) (star_ok g4) (star_ok g3)
def Ic.zip (a : E) (b : E) : Ic := ⟨true, cIc_zip a b, fun F => dItZ (a.d F) (b.d F), sIc_zip a b⟩
@[simp] theorem rdIc_zip (a : E) (b : E) {F : Fns} : (Ic.zip a b).rd F = dItZ (a.d F) (b.d F) := rfl
def cIc_dk (a : E) (G : Gm) (N : List Str) (sc : Scope) (x0 : Expr) : Bool := match x0 with
  | l => a.chk G N sc l
theorem sIc_dk (a : E) : SndI false (cIc_dk a) (fun F => dItDk (a.d F)) := by
    intro C G F gd k X Wx tg e S tk ht h
    simp only [cIc_dk] at h
    exact di_dk (E.snd a X Wx e S tk h)
def Ic.dk (e : E) : Ic := ⟨false, cIc_dk e, fun F => dItDk (e.d F), sIc_dk e⟩
@[simp] theorem rdIc_dk (e : E) {F : Fns} : (Ic.dk e).rd F = dItDk (e.d F) := rfl
def cIc_ci (a : E) (G : Gm) (N : List Str) (sc : Scope) (x0 : Expr) : Bool := match x0 with
  | .Call (.Attribute l m ap) [] [] cp => decide (m = "items") && (ap.endLine == cp.line) && noC0 l && a.chk G N sc l
  | _ => false
theorem sIc_ci (a : E) : SndI true (cIc_ci a) (fun F => dItCi (a.d F)) := by
    intro C G F gd k X Wx tg e S tk ht h
    cases tg <;> first | (exact absurd ht Bool.false_ne_true) | skip
    cases e <;> first | (exact absurd h Bool.false_ne_true) | skip
    rename_i f ls kw p
    cases f <;> rcases ls with _ | ⟨r, ls⟩ <;> rcases kw with _ | ⟨k1, kw⟩ <;> first | (exact absurd h Bool.false_ne_true) | skip
    simp only [cIc_ci] at h
    obtain ⟨h, g1⟩ := ba2 h
    obtain ⟨h, g2⟩ := ba2 h
    obtain ⟨g4, g3⟩ := ba2 h
    cases of_decide_eq_true g4
    exact di_ci (E.snd a X Wx _ S tk g1) (base_ok g2) g3
def Ic.ci (e : E) : Ic := ⟨true, cIc_ci e, fun F => dItCi (e.d F), sIc_ci e⟩
@[simp] theorem rdIc_ci (e : E) {F : Fns} : (Ic.ci e).rd F = dItCi (e.d F) := rfl
end DL
set_option maxHeartbeats 8000000
namespace DL
open PySem PySem.Spec PyProof.Rows L2
section
variable {X : Cx} {C : Cn} {Wx : WX}
/-- how a value goes into a slot: as an own list, as a tree -/
def stW (o : Bool) (w : W) (k : W → Prop) : Prop := match o with
  | true => ∃ xs, w = .new xs ∧ k (.own xs)
  | false => ∃ d, toD w = some d ∧ k (.d d)
/-- a new list's place is no slot's own -/
def NewOk (C : Cn) (ds : DSt) (σ : Sl) (w : W) (v : V) : Prop := ∀ xs a, w = .new xs → v = .ref a → C.H₀ a = none ∧ ∀ (j : Nat) ys, ds[j]? = some (some (.own ys)) → σ[j]? ≠ some (some (.ref a))
theorem newOk_of {R R' : Rg} {H H' : Hp} {ds : DSt} {σ : Sl} {h : Hs} {w : W} {v : V} (e : Env C R ds σ H h) (r : RelW C.K H R' H' w v) : NewOk C ds σ w v := fun xs a hw hv => by
  subst hw hv
  obtain ⟨a', vs, ea, n1, _⟩ := r
  cases ea
  refine ⟨e.ex.dom a n1, fun j ys hj hs => ?_⟩
  obtain ⟨v0, s0, a0, vs0, ev0, q0, _⟩ := e.slot j _ hj
  rw [hs] at s0; cases s0; cases ev0; rw [n1] at q0; cases q0
def Apart (w w' : W) (v v' : V) : Prop := ∀ xs xs', w = .new xs → w' = .new xs' → v ≠ v'
theorem Env.put {R : Rg} {H H₁ : Hp} {ds : DSt} {σ : Sl} {h : Hs} {w : W} {v : V} {o : Bool} {k : W → Prop} (i : Nat) (e : Env C R ds σ H h) (r : RelW C.K H₁ R H w v) (n : NewOk C ds σ w v) (q : stW o w k) :
    ∃ R' s, k s ∧ Env C R' (ds.set i (some s)) (σ.set i (some v)) H h ∧ Mo C.K R H R' H ∧ (∀ w' v', RelW C.K H₁ R H w' v' → Apart w w' v v' → (∀ zs, w' ≠ .own zs) → RelW C.K H₁ R' H w' v') ∧
      (∀ w' v', NewOk C ds σ w' v' → Apart w w' v v' → NewOk C (ds.set i (some s)) (σ.set i (some v)) w' v') := by
  have keepN : ∀ (s : W), (∀ xs, s = .own xs → ∃ ys, w = .new ys) → ∀ w' v', NewOk C ds σ w' v' → Apart w w' v v' → NewOk C (ds.set i (some s)) (σ.set i (some v)) w' v' := by
    intro s hs w' v' nw ap xs a hw hv
    refine ⟨(nw xs a hw hv).1, fun j ys hj hsj => ?_⟩
    by_cases ji : j = i
    · subst ji
      by_cases hl : j < ds.length
      · rw [List.getElem?_set_self hl] at hj
        rw [List.getElem?_set_self (by rw [← e.len]; exact hl)] at hsj
        cases hj
        cases hsj
        obtain ⟨zs, hz⟩ := hs ys rfl
        exact ap zs xs hz hw hv.symm
      · rw [List.getElem?_eq_none (by simp; omega)] at hj; cases hj
    · rw [List.getElem?_set_ne (Ne.symm ji)] at hj hsj
      exact (nw xs a hw hv).2 j ys hj hsj
  cases o with
  | true =>
    obtain ⟨xs, rfl, q⟩ := q
    obtain ⟨a, vs, rfl, n1, hq, nf, oo, t⟩ := id r
    obtain ⟨h0, hn⟩ := n xs a rfl rfl
    exact ⟨R, .own xs, q, e.setO i hq nf oo t h0 hn, Mo.refl _ _ _, fun _ _ z _ _ => z, keepN _ fun _ _ => ⟨xs, rfl⟩⟩
  | false =>
    obtain ⟨d, hd, q⟩ := q
    cases w with
    | own xs => cases hd
    | fn _ => cases hd
    | d y =>
      cases hd
      exact ⟨R, .d _, q, e.set i r, Mo.refl _ _ _, fun _ _ z _ _ => z, keepN _ fun _ z => nomatch z⟩
    | new xs =>
      cases hd
      obtain ⟨a, vs, rfl, n1, hq, nf, oo, t⟩ := id r
      obtain ⟨h0, hn⟩ := n xs a rfl rfl
      have e' : Env C (R.frz a) ds σ H h := by
        refine ⟨e.ok.frz hq oo, e.ex.frz h0, e.len, fun j w hj => ?_, e.nnew, e.own, e.own0⟩
        obtain ⟨v2, s2, r2⟩ := e.slot j w hj
        refine ⟨v2, s2, ?_⟩
        cases w with
        | d y => exact relD_mo Mo.frz r2
        | new zs => exact absurd hj (e.nnew j zs)
        | fn _ => exact r2
        | own zs =>
          obtain ⟨b, ws, ev2, q2, nf2, o2, t2⟩ := r2
          refine ⟨b, ws, ev2, q2, fun z => ?_, o2, relDs_mo Mo.frz t2⟩
          rcases z with z | z
          · exact nf2 z
          · subst z; rw [ev2] at s2; exact hn j zs hj s2
      have rd : RelD C.K (R.frz a) H (.lst xs) (.ref a) := by
        unfold RelD
        exact ⟨a, vs, rfl, ⟨.inr rfl, hq⟩, relDs_mo Mo.frz t⟩
      refine ⟨R.frz a, .d (.lst xs), q, e'.set i rd, Mo.frz, fun w' v' z ap no => ?_, keepN _ fun _ z => nomatch z⟩
      cases w' with
      | d y => exact relD_mo Mo.frz z
      | new zs =>
        obtain ⟨b, ws, ev2, m1, q2, nf2, o2, t2⟩ := z
        refine ⟨b, ws, ev2, m1, q2, fun y => ?_, o2, relDs_mo Mo.frz t2⟩
        rcases y with y | y
        · exact nf2 y
        · subst y; exact ap xs zs rfl rfl ev2.symm
      | own zs => exact absurd rfl (no zs)
      | fn _ => exact z
theorem stW_own {o : Bool} {w : W} {k : W → Prop} (q : stW o w k) : ∀ zs, w ≠ .own zs := fun zs z => by
  subst z
  cases o with
  | true => obtain ⟨_, h, _⟩ := q; cases h
  | false => obtain ⟨_, h, _⟩ := q; cases h
def dPar2 (o1 : Bool) (i : Nat) (t1 : TDE) (o2 : Bool) (j : Nat) (t2 : TDE) : TDS := fun ds h P => t1 ds h (fun w1 h1 => t2 ds h1 (fun w2 h2 => stW o1 w1 fun s1 => stW o2 w2 fun s2 => P.nx ((ds.set i (some s1)).set j (some s2)) h2) (fun x h' => P.ex x ds h')) (fun x h' => P.ex x ds h')
def dPar3 (o1 : Bool) (i : Nat) (t1 : TDE) (o2 : Bool) (j : Nat) (t2 : TDE) (o3 : Bool) (l : Nat) (t3 : TDE) : TDS := fun ds h P => t1 ds h (fun w1 h1 => t2 ds h1 (fun w2 h2 => t3 ds h2 (fun w3 h3 => stW o1 w1 fun s1 => stW o2 w2 fun s2 => stW o3 w3 fun s3 =>
  P.nx (((ds.set i (some s1)).set j (some s2)).set l (some s3)) h3) (fun x h' => P.ex x ds h')) (fun x h' => P.ex x ds h')) (fun x h' => P.ex x ds h')
theorem apart_of {R R' : Rg} {H0 H1 H2 : Hp} {w w' : W} {v v' : V} (r : RelW C.K H0 R H1 w v) (r' : RelW C.K H1 R' H2 w' v') : Apart w w' v v' := fun xs xs' hw hw' hv => by
  subst hw hw' hv
  obtain ⟨a, vs, ea, _, q, _⟩ := r
  obtain ⟨a', vs', ea', n1, _⟩ := r'
  rw [ea] at ea'
  cases ea'
  rw [q] at n1
  cases n1
theorem ds_par2 {o1 o2 : Bool} {i j : Nat} {x y : Str} {a b : Expr} {t1 t2 : TDE} {px py pt pos : Pos} {kt k2 pt2} (hc : X.calm = true) (hN : X.N.Nodup) (hi : X.N[i]? = some x) (hj : X.N[j]? = some y) (hij : i ≠ j)
    (hx : X.env.scope.names.lookup x = some .local) (hy : X.env.scope.names.lookup y = some .local) (ha : PE X a (lift C Wx t1)) (hb : PE X b (lift C Wx t2)) (sa : noStar a = true) (sb : noStar b = true)
    (hw : swappedStores [.Tuple [.Name x px, .Name y py] kt pt] (.Tuple [a, b] k2 pt2) X.env = pure (some [x, y])) :
    PS X (.Assign [.Tuple [.Name x px, .Name y py] kt pt] (.Tuple [a, b] k2 pt2) pos) (liftS C Wx (dPar2 o1 i t1 o2 j t2)) :=
  (ps_par hc hN hi hj hij hx hy (pa_cons ha (pa_cons hb pa_nil (star_ok sb)) (star_ok sa)) hw).imD fun D σ H q => by
    obtain ⟨R, ds, h, P, e, p, k⟩ := q
    refine ⟨R, ds, h, _, _, e, p, fun R1 H1 h1 w1 v1 p1 x1 e1 r1 => ?_, k.exE e⟩
    refine ⟨R1, ds, h1, _, _, e1, p1, fun R2 H2 h2 w2 v2 p2 x2 e2 r2 => ?_, (k.later (x1.mo e.ok)).exE e1⟩
    have n1 := newOk_of e r1
    have r2' := relW_start x1.dom r2
    have n2 := newOk_of e1 r2
    have ap := apart_of r1 r2
    obtain ⟨R3, s1, p3, e3, m3, kr, kn⟩ := e2.put i (relW_ex e1.ok x2 r1) n1 p2
    obtain ⟨R4, s2, p4, e4, m4, _⟩ := e3.put j (kr _ _ r2' ap (stW_own p3)) (kn _ _ n2 ap) p3
    exact ⟨v1, v2, rfl, k.nx R4 _ _ H2 h2 e4 (((x1.trans x2).mo e.ok).trans (m3.trans m4)) p4⟩
theorem ds_par3 {o1 o2 o3 : Bool} {i j l : Nat} {x y z : Str} {a b c : Expr} {t1 t2 t3 : TDE} {px py pz pt pos : Pos} {kt k2 pt2} (hc : X.calm = true) (hN : X.N.Nodup) (hi : X.N[i]? = some x) (hj : X.N[j]? = some y) (hl : X.N[l]? = some z) (hij : i ≠ j) (hil : i ≠ l) (hjl : j ≠ l)
    (hx : X.env.scope.names.lookup x = some .local) (hy : X.env.scope.names.lookup y = some .local) (hz : X.env.scope.names.lookup z = some .local) (ha : PE X a (lift C Wx t1)) (hb : PE X b (lift C Wx t2)) (hcc : PE X c (lift C Wx t3)) (sa : noStar a = true) (sb : noStar b = true) (sc : noStar c = true)
    (hw : swappedStores [.Tuple [.Name x px, .Name y py, .Name z pz] kt pt] (.Tuple [a, b, c] k2 pt2) X.env = pure (some [x, y, z])) :
    PS X (.Assign [.Tuple [.Name x px, .Name y py, .Name z pz] kt pt] (.Tuple [a, b, c] k2 pt2) pos) (liftS C Wx (dPar3 o1 i t1 o2 j t2 o3 l t3)) :=
  (ps_par3 hc hN hi hj hl hij hil hjl hx hy hz (pa_cons ha (pa_cons hb (pa_cons hcc pa_nil (star_ok sc)) (star_ok sb)) (star_ok sa)) hw).imD fun D σ H q => by
    obtain ⟨R, ds, h, P, e, p, k⟩ := q
    refine ⟨R, ds, h, _, _, e, p, fun R1 H1 h1 w1 v1 p1 x1 e1 r1 => ?_, k.exE e⟩
    refine ⟨R1, ds, h1, _, _, e1, p1, fun R2 H2 h2 w2 v2 p2 x2 e2 r2 => ?_, (k.later (x1.mo e.ok)).exE e1⟩
    refine ⟨R2, ds, h2, _, _, e2, p2, fun R3 H3 h3 w3 v3 p3 x3 e3 r3 => ?_, (k.later ((x1.trans x2).mo e.ok)).exE e2⟩
    have x12 := x1.trans x2
    have r1' := relW_ex e1.ok (x2.trans x3) r1
    have r2' := relW_ex e2.ok x3 (relW_start x1.dom r2)
    have r3' := relW_start x12.dom r3
    have a12 := apart_of r1 r2
    have a13 := apart_of (relW_ex e1.ok x2 r1) r3
    have a23 := apart_of r2 r3
    obtain ⟨R4, s1, p4, e4, m4, kr4, kn4⟩ := e3.put i r1' (newOk_of e r1) p3
    obtain ⟨R5, s2, p5, e5, m5, kr5, kn5⟩ := e4.put j (kr4 _ _ r2' a12 (stW_own p4)) (kn4 _ _ (newOk_of e1 r2) a12) p4
    obtain ⟨R6, s3, p6, e6, m6, _⟩ := e5.put l (kr5 _ _ (kr4 _ _ r3' a13 (stW_own p5)) a23 (stW_own p5)) (kn5 _ _ (kn4 _ _ (newOk_of e2 r3) a13) a23) p5
    exact ⟨v1, v2, v3, rfl, k.nx R6 _ _ H3 h3 e6 (((x12.trans x3).mo e.ok).trans ((m4.trans m5).trans m6)) p6⟩
end
end DL
set_option maxHeartbeats 8000000
namespace DL
open PySem PySem.Spec PyProof.Rows L2
/-- the state without an exception, where a name went -/
theorem inv_gone {X : Cx} {pins : List (Addr × Obj)} {σ : Sl} {H : Hp} {s : Shared} {G : Heap} {m : Str → Option Value} {v : Option Value} {i : Nat} {n : Str} {tk : Nat} (I : Inv X pins σ H s) (hN : X.N.Nodup) (hi : X.N[i]? = some n) (hm : s.heap.Ns X.env.locals m)
    (hn' : G.Ns X.env.locals (fun x => if x = n then v else m x)) (hs : Heap.SameBut X.env.locals s.heap G) : Inv X pins (σ.set i none) H { s with heap := G, toks := tk } := by
  obtain ⟨m2, hn, hlk⟩ := id I.loc
  obtain ⟨oL, es1, ep1, hoL, hdL, hr1⟩ := id hn
  have neL : ∀ b o, X.s_0.heap.get? b = some o → b ≠ X.env.locals := fun b o e => Nat.ne_of_lt (Nat.lt_of_lt_of_le (Heap.lt_size e) I.ok.above)
  have em : ∀ y, m y = m2 y := fun y => by
    obtain ⟨o1, e1, p1, a1, a2, a3⟩ := hm
    rw [hoL] at a1
    cases a1
    rw [hdL] at a2
    cases a2
    exact (a3.2 y).symm.trans (hr1.2 y)
  refine ⟨I.ok, I.os, I.bare, ⟨fun b o e n hb hx => ?_, fun b o e n hb hx => ?_, I.base.free, fun b o e hx => ?_, I.base.tups, I.base.frzs, I.base.tbls⟩, ⟨_, hn', fun j y v' e1 e2 e3 => ?_⟩, fun y c e => ?_, I.free, I.freeC, fun p hp => ?_, fun b ob e => ?_, by simpa using I.len⟩
  · exact (hs.2 b (neL b o e)).trans (I.base.keep b o e n hb hx)
  · obtain ⟨sl, e1⟩ := I.base.slot b o e n hb hx
    exact ⟨sl, (hs.2 b (neL b o e)).trans e1⟩
  · obtain ⟨o', e1⟩ := I.base.there b o e hx
    exact ⟨o', (hs.2 b (neL b o e)).trans e1⟩
  · by_cases hj : j = i
    · subst hj
      by_cases hlt : j < σ.length
      · rw [List.getElem?_set_self hlt] at e2; cases e2
      · rw [List.getElem?_eq_none (by simpa using hlt)] at e2; cases e2
    · rw [List.getElem?_set_ne (Ne.symm hj)] at e2
      obtain ⟨u', r', q⟩ := hlk j y v' e1 e2 e3
      refine ⟨u', r', ?_⟩
      rcases q with ⟨k, e⟩ | ⟨k, c, e, z⟩
      · have ny : y ≠ n := fun e => hj (nodup_ix hN e1 (e ▸ hi))
        exact .inl ⟨k, (if_neg ny).trans ((em y).trans e)⟩
      · exact .inr ⟨k, c, e, z.sameBut hs (I.cne y c e)⟩
  · obtain ⟨w', z⟩ := I.cell y c e
    exact ⟨w', z.sameBut hs (I.cne y c e)⟩
  · obtain ⟨e, n, ne, nf, d⟩ := I.pin p hp
    exact ⟨(hs.2 p.1 ne).trans e, n, ne, nf, d⟩
  · refine (I.hok b ob e).stay (fun c w' hc q => (hs.2 c ?_).trans q) (fun _ q => q) fun _ _ q => q
    intro z
    subst z
    rcases hc with hc | hc
    · rw [← hc, I.free] at e; cases e
    · rw [I.free] at hc; cases hc
/-- an exception comes out of a suite whose clause has a name: the name goes, it flies on -/
theorem hot_tail {X : Cx} {pins : List (Addr × Obj)} {σ : Sl} {H : Hp} {sI s' : Shared} {B : Heap} {a : Addr} {Z : Obj → Prop} {A' : Around} {E E₂ E₃ : Value → Shared → Prop} {i : Nat} {n : Str} {pos : Pos} (hs : X.stack = X.env :: X.outer) (hf : X.env.frame = some X.env.locals) (hA : A'.frames = some (X.env :: X.outer))
    (hN : X.N.Nodup) (hi : X.N[i]? = some n) (hln : X.env.kindOf n = some .local) (hZ : PXN.Steady1 Z) (I : Inv X pins σ H sI) (nb : ∀ b o, sI.heap.get? b = some o → b ∉ frs X.stack → B.get? b = some o) (up : sI.heap.UpToSlots s'.heap) (sky : Sky B (X.env :: X.outer) a Z X.env.locals s'.heap) (os : s'.os = sI.os) (ag : AllBare s'.gens)
    (fin : ∀ sJ s2, Inv X pins (σ.set i none) H sJ → (∀ b o, sJ.heap.get? b = some o → b ∉ frs X.stack → B.get? b = some o) → sJ.heap.UpToSlots s2.heap → HandSPX.HeldZ B (X.env :: X.outer) a Z X.env.locals s2.heap → s2.os = sJ.os → AllBare s2.gens → E (.ref a) s2) :
    wpAny (model X.prog X.w) A' (noteFrame (.ref a) X.env) (fun _ s3 => wpAny (model X.prog X.w) A' (do bindName X.env n .none; unbindBehindTheSuite X.env n pos)
      (fun _ s4 => wpAny (model X.prog X.w) A' (passOn "try.except-as" (.ref a) X.env : Sem Flow) (fun _ _ => False) (notedBy (model X.prog X.w) A' X.env fun x s' => cameBackBy (model X.prog X.w) X.A X.env E x s') s4) E₂ s3) E₃ s' := by
  have step : ∀ h1, HandSPX.HeldZ B (X.env :: X.outer) a Z X.env.locals h1 → s'.heap.UpToSlots h1 → wpAny (model X.prog X.w) A' (do bindName X.env n .none; unbindBehindTheSuite X.env n pos)
      (fun _ s4 => wpAny (model X.prog X.w) A' (passOn "try.except-as" (.ref a) X.env : Sem Flow) (fun _ _ => False) (notedBy (model X.prog X.w) A' X.env fun x s' => cameBackBy (model X.prog X.w) X.A X.env E x s') s4) E₂ { s' with heap := h1 } := by
    intro h1 hh up1
    obtain ⟨m, hn, hlk⟩ := id I.loc
    have hn1 : h1.Ns X.env.locals m := (up.trans up1).ns hn
    have hcls : (X.env.scope.kind == .class || (X.env.scope.kind == .module && X.env.locals != X.env.globals)) = false := by rw [I.ok.kind]; rfl
    obtain ⟨b1, b0, f1, t1⟩ := hh
    have hbL : B.get? X.env.locals = none := by
      obtain ⟨_, ⟨L', _, hf', hb', _⟩, _⟩ := f1
      rw [hf] at hf'
      rw [Option.some.inj hf']
      exact hb'
    refine wpAny_nameGoes_keeps hln hn1 hcls fun h2 v hn2 hs2 => ?_
    have b2 : B.StaysIn h2 := fun b o hb => (hs2.2 b fun q => by rw [q, hbL] at hb; cases hb).trans (b1 b o hb)
    have f2 : h2.FunFrames B (X.env :: X.outer) := Heap.FunFrames.sameBut hs2 hn2 f1
    obtain ⟨o1, es1, ep1, ho1, hd1', _⟩ := id hn1
    have nfL : ∀ b o vs, h1.get? b = some o → o.data = .fields vs → b ≠ X.env.locals := fun b o vs e d q => by
      rw [q, ho1] at e
      cases e
      rw [hd1'] at d
      cases d
    have t2 : HandSPX.TracedZ h2 B a Z (rawInt X.env.locals) := by
      obtain ⟨oe, vs, T, oT, ts, he, hz, hd, h1', hnT, hTe, hT, hdT, h3⟩ := t1
      exact ⟨oe, vs, T, oT, ts, (hs2.2 a (nfL _ _ _ he hd)).trans he, hz, hd, h1', hnT, hTe, (hs2.2 T (nfL _ _ _ hT hdT)).trans hT, hdT, h3⟩
    obtain ⟨o2, es2, ep2, ho2, hd2, hr2⟩ := id hn2
    obtain ⟨oL, es, ep, hoL, hdL, _⟩ := id hn
    have gL : (sI.heap.update X.env.locals (fun _ => o2)).get? X.env.locals = some o2 := Heap.get?_update_self (fun _ => o2) hoL (Obj.isFreed_of_dict hd2)
    have gO : ∀ b, b ≠ X.env.locals → (sI.heap.update X.env.locals (fun _ => o2)).get? b = sI.heap.get? b := fun b hb => Heap.get?_update_other _ _ (Ne.symm hb)
    have sb : Heap.SameBut X.env.locals sI.heap (sI.heap.update X.env.locals (fun _ => o2)) := Heap.SameBut.update _ _ _
    have J : Inv X pins (σ.set i none) H { sI with heap := sI.heap.update X.env.locals (fun _ => o2), toks := sI.toks } := inv_gone I hN hi hn ⟨o2, es2, ep2, gL, hd2, hr2⟩ sb
    have hh2 : HandSPX.HeldZ B (X.env :: X.outer) a Z X.env.locals h2 := ⟨b2, b0, f2, t2⟩
    have upG : (sI.heap.update X.env.locals (fun _ => o2)).UpToSlots h2 := fun b o e hnf => by
      by_cases hb : b = X.env.locals
      · subst hb
        rw [gL] at e
        cases e
        exact ⟨o2.slots, ho2⟩
      · rw [gO b hb] at e
        obtain ⟨sl, q⟩ := (up.trans up1) b o e hnf
        exact ⟨sl, (hs2.2 b hb).trans q⟩
    obtain ⟨oe, vs, T, oT, ts, he, hz, hd, h1', hnT, hTe, hT, hdT, h3⟩ := id t2
    have cont : ∀ h3, HandSPX.HeldZ B (X.env :: X.outer) a Z X.env.locals h3 → h2.UpToSlots h3 → wpAny (model X.prog X.w) A' (throw (.ref a) : Sem Flow) (fun _ _ => False) (notedBy (model X.prog X.w) A' X.env fun x s' => cameBackBy (model X.prog X.w) X.A X.env E x s') { s' with heap := h3, toks := s'.toks + 1 } := fun h3 hh3 up3 => by
      refine wpAny_throw ?_
      show wpAny (model X.prog X.w) A' (noteFrame (.ref a) X.env) _ _ _
      refine HandSPX.againZ hf hh3.2.2.2 ?_
      obtain ⟨oe', vs', T', oT', ts', he', hz', hd', h1'', r'⟩ := id hh3.2.2.2
      show wpAny (model X.prog X.w) X.A (do
        if (← field (.ref a) 1) == .none then unsupported "frame.own-activation:exception-without-traceback"
        setFlight (.ref a) X.env.frame) _ _ _
      refine wpAny_bind (wpAny_field he' hd' h1'' ?_)
      rw [if_neg (show ¬ ((Value.ref T' == Value.none) = true) from by simp)]
      rw [hf]
      have out : wpAny (model X.prog X.w) X.A (setFlight (.ref a) (some X.env.locals)) (fun _ s'' => E (.ref a) s'') E { s' with heap := h3, toks := s'.toks + 1 } :=
        HandSPX.setFlight_onZ hh3 fun h4 hh4 up4 => by
          refine fin { sI with heap := sI.heap.update X.env.locals (fun _ => o2), toks := sI.toks } _ J (fun b o e hb => ?_) ((upG.trans up3).trans up4) hh4 os ag
          have hbn : b ≠ X.env.locals := fun z => hb (List.mem_filterMap.mpr ⟨X.env, by rw [hs]; exact List.mem_cons_self, by rw [hf, z]⟩)
          exact nb b o ((gO b hbn).symm.trans e) hb
      first
        | exact out
        | exact wpAny_pure (wpAny_bind out)
        | exact wpAny_bind (wpAny_pure out)
        | exact wpAny_bind out
    unfold PySem.passOn
    refine wpAny_bind (wpAny_field he hd h1' ?_)
    rw [if_neg (show ¬ ((Value.ref T == Value.none) = true) from by simp)]
    rw [hf]
    have go : wpAny (model X.prog X.w) A' (setFlight (.ref a) (some X.env.locals)) (fun _ s4 => wpAny (model X.prog X.w) A' (throw (.ref a) : Sem Flow) (fun _ _ => False) (notedBy (model X.prog X.w) A' X.env fun x s' => cameBackBy (model X.prog X.w) X.A X.env E x s') s4) (notedBy (model X.prog X.w) A' X.env fun x s' => cameBackBy (model X.prog X.w) X.A X.env E x s') { s' with heap := h2, toks := s'.toks + 1 } :=
      HandSPX.setFlight_onZ hh2 fun h3 hh3 up3 => cont h3 hh3 up3
    first
      | exact wpAny_bind (wpAny_pure (wpAny_bind go))
      | exact wpAny_bind go
  rcases sky with ⟨hB, hn, hl, oe, vs, he, hz, hd, h1⟩ | fl | hh
  · exact PXN.look_newZ hZ hA hl hf he hB hn hd h1 hz step
  · exact PXN.looks_onZ hZ hA hf fl step
  · exact HandSPX.againZ hf hh.2.2.2 (step s'.heap hh (Heap.UpToSlots.refl _))
/-- a clause: with a name, without one, or with a name and a suite that raises -/
inductive Hx where
  | nm (c : Value) (i : Nat) (ts : Addr → Value → Option Addr → TS)
  | no (c : Value) (ts : Addr → Value → Option Addr → TS)
  | hot (c : Value) (i : Nat) (ts : Addr → Value → Option Addr → WX → TS)
def wHot (K : Fg) (c : Value) (i : Nat) (ts : Addr → Value → Option Addr → WX → TS) (Wn Wout : WX) (D : Ends) : WX := fun cls d σ H =>
  ∃ b, PySem.W.exmOne K cls c = some b ∧ (b = true → cold K cls = true ∧ ∀ a, H a = none → ts a cls d (fun c' d' σ' H' => cold K c' = false ∧ Wn c' d' (σ'.set i none) H') { nx := fun σ' H' => D.nx (σ'.set i none) H', rt := D.rt, bk := fun σ' H' => D.bk (σ'.set i none) H', ct := fun σ' H' => D.ct (σ'.set i none) H' } (σ.set i (some (.ref a))) H) ∧
    (b = false → Wout cls d σ H)
def wHx (K : Fg) (Wout : WX) (Dn : Ends) : List Hx → WX
  | [] => Wout
  | .nm c i ts :: r => wAs K c i ts (wHx K Wout Dn r) Dn
  | .no c ts :: r => wOnly K c ts (wHx K Wout Dn r) Dn
  | .hot c i ts :: r => wHot K c i ts Wout (wHx K Wout Dn r) Dn
inductive HxOk (X : Cx) : List ExceptHandler → List Hx → Prop
  | nil : HxOk X [] []
  | nm {x n : Str} {np pos' : Pos} {b₀ : Stmt} {suite : List Stmt} {c : Value} {i : Nat} {ts : Addr → Value → Option Addr → TS} {hs : List ExceptHandler} {l : List Hx} (hi : X.N[i]? = some n) (hln : X.env.kindOf n = some .local) (hc : Names X x c)
      (hsu : ∀ (a : Addr) (oe : Obj) (cls : Value) (d : Option Addr) (pn : List (Addr × Obj)), Zc cls d oe → (∃ vs, oe.data = .fields vs) → PSs (X.suite a ((a, oe) :: pn)) (b₀ :: suite) (ts a cls d)) (r : HxOk X hs l) :
      HxOk X (.ExceptHandler (some (.Name x np)) (some n) (b₀ :: suite) pos' :: hs) (.nm c i ts :: l)
  | no {x : Str} {np pos' : Pos} {b₀ : Stmt} {suite : List Stmt} {c : Value} {ts : Addr → Value → Option Addr → TS} {hs : List ExceptHandler} {l : List Hx} (hc : Names X x c)
      (hsu : ∀ (a : Addr) (oe : Obj) (cls : Value) (d : Option Addr) (pn : List (Addr × Obj)), Zc cls d oe → (∃ vs, oe.data = .fields vs) → PSs (X.suite a ((a, oe) :: pn)) (b₀ :: suite) (ts a cls d)) (r : HxOk X hs l) :
      HxOk X (.ExceptHandler (some (.Name x np)) none (b₀ :: suite) pos' :: hs) (.no c ts :: l)
  | hot {x n : Str} {np pos' : Pos} {b₀ : Stmt} {suite : List Stmt} {c : Value} {i : Nat} {ts : Addr → Value → Option Addr → WX → TS} {hs : List ExceptHandler} {l : List Hx} (hi : X.N[i]? = some n) (hln : X.env.kindOf n = some .local) (hc : Names X x c)
      (hsu : ∀ (a : Addr) (oe : Obj) (cls : Value) (d : Option Addr) (pn : List (Addr × Obj)) (E0 : Value → Shared → Prop) (W : WX), L2N.Zn cls d oe → (∃ vs, oe.data = .fields vs) → L2.Takes ((X.suite a ((a, oe) :: pn)).wish E0) W → L2H.HotC ((X.suite a ((a, oe) :: pn)).wish E0) →
        PSs ((X.suite a ((a, oe) :: pn)).wish E0) (b₀ :: suite) (ts a cls d W)) (r : HxOk X hs l) :
      HxOk X (.ExceptHandler (some (.Name x np)) (some n) (b₀ :: suite) pos' :: hs) (.hot c i ts :: l)
theorem wpAny_E {M : Model} {A : Around} {α : Type} {c : Sem α} {Q : α → Shared → Prop} {E : Value → Shared → Prop} {s : Shared} (h : ∀ E0, E0 = E → wpAny M A c Q E0 s) : wpAny M A c Q E s := h E rfl
/-- an exception meets the clauses -/
theorem catch_go {X : Cx} {pins : List (Addr × Obj)} {σ : Sl} {H : Hp} {sI s' : Shared} {B : Heap} {a : Addr} {cls : Value} {d : Option Addr} {Z : Obj → Prop} {Wout : WX} {Dn : Ends} (ok : X.Ok) (hs : X.stack = X.env :: X.outer) (hf : X.env.frame = some X.env.locals) (hN : X.N.Nodup) (tk : Takes X Wout) (hZ : PXN.Steady1 Z)
    (hzc : ∀ o, Z o → Zc cls d o) (hzn : cold X.K cls = true → ∀ o, Z o → L2N.Zn cls d o)
    (J : Inv X pins σ H sI) (nb : ∀ b o, sI.heap.get? b = some o → b ∉ frs X.stack → B.get? b = some o) (up : sI.heap.UpToSlots s'.heap) (sky : Sky B X.stack a Z X.env.locals s'.heap) (na : H a = none) (os : s'.os = sI.os) (ag : AllBare s'.gens) {hds : List ExceptHandler} {l : List Hx} (hx : HxOk X hds l) (want : wHx X.K Wout Dn l cls d σ H) :
    wpAny (model X.prog X.w) X.A (noteFrame (.ref a) X.env) (fun _ s₂ => wpAny (model X.prog X.w) X.A (setFlight (.ref a) none) (fun _ s₃ =>
      wpAny (model X.prog X.w) X.A (handleBy (.ref a) X.env hds) (SP X pins Dn) X.xe s₃) X.xe s₂) X.xe s' := by
  have frm : X.A.frames = some (X.env :: X.outer) := by rw [ok.frames, hs]
  rw [hs] at sky
  refine L2N.Sky.land hZ frm hf sky fun g3 fl3 up3 => ?_
  have J3 : Inv X pins σ H { s' with heap := g3 } := J.landed nb fl3.1 (up.trans up3) os ag
  obtain ⟨oe3, vs3, e31, e32, e33⟩ := fl3.there
  have nst : a ∉ frs (X.env :: X.outer) := fun hm => by
    obtain ⟨_, o, o1, o2⟩ := fl3.2.2.1.mem hm
    rw [e31] at o1; cases o1
    exact o2 _ e33
  have nl : a ≠ X.env.locals := fun y => nst (List.mem_filterMap.mpr ⟨X.env, List.mem_cons_self, by rw [hf, y]⟩)
  have nf : a ∉ X.fs := fun hm => by
    obtain ⟨en, m1, m2⟩ := List.mem_filterMap.mp hm
    exact nst (List.mem_filterMap.mpr ⟨en, List.mem_cons_of_mem _ m1, m2⟩)
  have S3 := J3.suite e31 e33 na nl nf
  have lk : PySem.W.Looks (model X.prog X.w) g3 (typeOf (.ref a)) cls := fun A Q E s k q => wpAny_typeOf_ref (k _ _ e31) (by rw [(hzc _ e32).1]; exact q)
  have name : ∀ {x : Str} {np : Pos} {c : Value} {Q E : Value → Shared → Prop}, Names X x c → Q c { s' with heap := g3 } → wpAny (model X.prog X.w) (X.A.mark (some (.ref a))) (eval (.Name x np) X.env) Q E { s' with heap := g3 } := fun {x np c Q E} hc z => by
    obtain ⟨c1, c2, c3 | ⟨c3, c4, c5⟩⟩ := hc
    · exact ld_glob (X := X.suite a ((a, oe3) :: (X.pn ++ pins))) S3 c1 c3 z c2
    · exact ld_blt (X := X.suite a ((a, oe3) :: (X.pn ++ pins))) S3 c1 c3 c4 z c5 c2
  have pass : Wout cls d σ H → ∀ s4 : Shared, g3.UpToSlots s4.heap → HandSPX.HeldZ B (X.env :: X.outer) a Z X.env.locals s4.heap → s4.os = s'.os → s4.gens = s'.gens → X.xe (.ref a) s4 := fun w s4 up4 m4 o4 g4 => by
    have ag4 : AllBare s4.gens := by rw [g4]; exact ag
    refine tk _ _ ?_
    cases hC : cold X.K cls with
    | false =>
      refine .inl ⟨a, B, sI, pins, σ, H, cls, d, rfl, J, nb, (up.trans up3).trans up4, .inr (.inr ?_), na, o4.trans os, ag4, hC, w⟩
      rw [hs]
      exact ⟨m4.1, m4.2.1, m4.2.2.1, L2H.tracedZ_imp hzc m4.2.2.2⟩
    | true =>
      refine .inr ⟨a, B, sI, pins, σ, H, cls, d, rfl, J, nb, (up.trans up3).trans up4, .inr (.inr ?_), na, o4.trans os, ag4, hC, w⟩
      rw [hs]
      exact ⟨m4.1, m4.2.1, m4.2.2.1, L2H.tracedZ_imp (hzn hC) m4.2.2.2⟩
  induction hx with
  | nil =>
    refine wpAny_handleBy_nil ?_
    obtain ⟨k1, k2, k3, oe, vs, Tb, oT, ts', g1, gz, gd, gf, gr⟩ := id fl3
    unfold PySem.passOn
    refine wpAny_bind (wpAny_field g1 gd gf ?_)
    rw [if_neg (show ¬ ((Value.ref Tb == Value.none) = true) by simp)]
    have out : wpAny (model X.prog X.w) X.A (setFlight (.ref a) X.env.frame) (fun _ t4 => wpAny (model X.prog X.w) X.A (throw (.ref a) : Sem Flow) (SP X pins Dn) X.xe t4) X.xe { s' with heap := g3 } := by
      rw [hf]
      exact HandSPX.setFlight_upZ fl3 fun g4 m4 up4 => wpAny_throw (pass want _ up4 m4 rfl rfl)
    first
      | exact wpAny_bind (wpAny_pure (wpAny_bind out))
      | exact wpAny_bind out
  | @nm x n np pos' b₀ suite c i ts hl l hi hln hc hsu r ih =>
    obtain ⟨b, hb1, yes, no⟩ := want
    refine wpAny_handleBy_cons (codeAny_handlers_test ?_) (by intro z; cases z)
    have lm := PySem.W.exm_one (M := model X.prog X.w) J3.kIn lk hb1
    refine name hc (lm.here ?_)
    cases b with
    | false => exact ih (no rfl)
    | true =>
      refine codeAny_handlers_suite_as (HandSPX.lands_againZ fl3 fun g4 fl4 up4 => ?_)
      have J4 : Inv X pins σ H { s' with heap := g4 } := J.landed nb fl4.1 ((up.trans up3).trans up4) os ag
      obtain ⟨oe4, vs4, e41, e42, e43⟩ := fl4.there
      refine store_ok (X := X.suite a ((a, oe4) :: (X.pn ++ pins))) (v := .ref a) (J4.suite e41 e43 na nl nf) hN hi (.inl hln) rfl (fun t5 S5 => ?_) (.inr hln)
      refine wpAny_mono ((hsu a oe4 cls d (X.pn ++ pins) (hzc _ e42) ⟨_, e43⟩).run [] t5 _ H _ S5 (yes rfl a na)) (fun fl t6 z => ?_) (fun _ _ z => False.elim z)
      have bye : ∀ {ρ6 : L2.St} {G6 : Hp} {Q : Shared → Prop}, Inv (X.suite a ((a, oe4) :: (X.pn ++ pins))) [] ρ6 G6 t6 → (∀ t7, Inv X pins (ρ6.set i none) G6 t7 → Q t7) →
          wpAny (model X.prog X.w) X.A (do bindName X.env n .none; unbindBehindTheSuite X.env n pos') (fun _ t7 => Q t7) X.xe t6 := fun {ρ6 G6 Q} S6 zq => gone_ok (S6.unsuite ok) hN hi hln zq
      cases fl with
      | ret u => obtain ⟨v6, ρ6, G6, S6, r6, q6⟩ := z; exact bye S6 fun t7 J7 => ⟨_, _, _, J7, r6, q6⟩
      | next => obtain ⟨ρ6, G6, S6, q6⟩ := z; exact bye S6 fun t7 J7 => ⟨_, _, J7, q6⟩
      | brk => obtain ⟨ρ6, G6, S6, q6⟩ := z; exact bye S6 fun t7 J7 => ⟨_, _, J7, q6⟩
      | cont => obtain ⟨ρ6, G6, S6, q6⟩ := z; exact bye S6 fun t7 J7 => ⟨_, _, J7, q6⟩
  | @no x np pos' b₀ suite c ts hl l hc hsu r ih =>
    obtain ⟨b, hb1, yes, no⟩ := want
    refine wpAny_handleBy_cons (codeAny_handlers_test ?_) (by intro z; cases z)
    have lm := PySem.W.exm_one (M := model X.prog X.w) J3.kIn lk hb1
    refine name hc (lm.here ?_)
    cases b with
    | false => exact ih (no rfl)
    | true =>
      refine codeAny_handlers_suite (HandSPX.lands_againZ fl3 fun g4 fl4 up4 => ?_)
      have J4 : Inv X pins σ H { s' with heap := g4 } := J.landed nb fl4.1 ((up.trans up3).trans up4) os ag
      obtain ⟨oe4, vs4, e41, e42, e43⟩ := fl4.there
      refine wpAny_mono ((hsu a oe4 cls d (X.pn ++ pins) (hzc _ e42) ⟨_, e43⟩).run [] _ _ H _ (J4.suite e41 e43 na nl nf) (yes rfl a na)) (fun fl t6 z => ?_) (fun _ _ z => False.elim z)
      cases fl with
      | ret u => obtain ⟨v6, ρ6, G6, S6, r6, q6⟩ := z; exact ⟨_, _, _, S6.unsuite ok, r6, q6⟩
      | next => obtain ⟨ρ6, G6, S6, q6⟩ := z; exact ⟨_, _, S6.unsuite ok, q6⟩
      | brk => obtain ⟨ρ6, G6, S6, q6⟩ := z; exact ⟨_, _, S6.unsuite ok, q6⟩
      | cont => obtain ⟨ρ6, G6, S6, q6⟩ := z; exact ⟨_, _, S6.unsuite ok, q6⟩
  | @hot x n np pos' b₀ suite c i ts hl l hi hln hc hsu r ih =>
    obtain ⟨b, hb1, yes, no⟩ := want
    refine wpAny_handleBy_cons (codeAny_handlers_test ?_) (by intro z; cases z)
    have lm := PySem.W.exm_one (M := model X.prog X.w) J3.kIn lk hb1
    refine name hc (lm.here ?_)
    cases b with
    | false => exact ih (no rfl)
    | true =>
      obtain ⟨hC, yes⟩ := yes rfl
      refine codeAny_handlers_suite_as (HandSPX.lands_againZ fl3 fun g4 fl4 up4 => ?_)
      have J4 : Inv X pins σ H { s' with heap := g4 } := J.landed nb fl4.1 ((up.trans up3).trans up4) os ag
      obtain ⟨oe4, vs4, e41, e42, e43⟩ := fl4.there
      have z4 := hzn hC _ e42
      refine store_ok (X := X.suite a ((a, oe4) :: (X.pn ++ pins))) (v := .ref a) (J4.suite e41 e43 na nl nf) hN hi (.inl hln) rfl (fun t5 S5 => ?_) (.inr hln)
      refine wpAny_E fun E0 hE => ?_
      have tkS : L2.Takes ((X.suite a ((a, oe4) :: (X.pn ++ pins))).wish E0) (fun c' d' σ' H' => cold X.K c' = false ∧ Wout c' d' (σ'.set i none) H') := fun u2 s2 x2 => by
        obtain ⟨a2, B2, sI2, pn2, σ2, H2, cls2, d2, e2, I2, nb2, up2, sky2, na2, os2, ag2, hC2, w2⟩ := x2
        subst e2
        show E0 _ _
        rw [hE]
        have I2' : Inv X pins σ2 H2 sI2 := (show Inv (X.suite a ((a, oe4) :: (X.pn ++ pins))) pn2 σ2 H2 sI2 from I2.unwish).unsuite ok
        have sky2' : Sky B2 (X.env :: X.outer) a2 (Zc cls2 d2) X.env.locals s2.heap := by rw [← hs]; exact sky2
        refine hot_tail hs hf frm hN hi hln (fun o v z => ⟨PXN.steady_cls o v z.1, PXN.steady_dict o v z.2⟩) I2' nb2 up2 sky2' os2 ag2 fun sJ s3 JJ nb3 up3' held3 os3 ag3 => ?_
        refine tk _ _ (.inl ⟨a2, B2, sJ, pins, _, H2, cls2, d2, rfl, JJ, nb3, up3', .inr (.inr ?_), na2, os3, ag3, hC2, w2⟩)
        rw [hs]
        exact held3
      have hotC : L2H.HotC ((X.suite a ((a, oe4) :: (X.pn ++ pins))).wish E0) := ⟨(a, oe4), ⟨rfl, vs4, e43, z4.2.2 vs4 e43⟩, List.mem_cons_self⟩
      refine wpAny_mono ((hsu a oe4 cls d (X.pn ++ pins) E0 _ z4 ⟨_, e43⟩ tkS hotC).run [] t5 _ H _ (S5.wish E0) (yes a na)) (fun fl t6 z => ?_) (fun _ _ z => z)
      have bye : ∀ {ρ6 : L2.St} {G6 : Hp} {Q : Shared → Prop}, Inv ((X.suite a ((a, oe4) :: (X.pn ++ pins))).wish E0) [] ρ6 G6 t6 → (∀ t7, Inv X pins (ρ6.set i none) G6 t7 → Q t7) →
          wpAny (model X.prog X.w) X.A (do bindName X.env n .none; unbindBehindTheSuite X.env n pos') (fun _ t7 => Q t7) X.xe t6 := fun {ρ6 G6 Q} S6 zq => gone_ok ((show Inv (X.suite a ((a, oe4) :: (X.pn ++ pins))) [] ρ6 G6 t6 from S6.unwish).unsuite ok) hN hi hln zq
      cases fl with
      | ret u => obtain ⟨v6, ρ6, G6, S6, r6, q6⟩ := z; exact bye S6 fun t7 J7 => ⟨_, _, _, J7, r6, q6⟩
      | next => obtain ⟨ρ6, G6, S6, q6⟩ := z; exact bye S6 fun t7 J7 => ⟨_, _, J7, q6⟩
      | brk => obtain ⟨ρ6, G6, S6, q6⟩ := z; exact bye S6 fun t7 J7 => ⟨_, _, J7, q6⟩
      | cont => obtain ⟨ρ6, G6, S6, q6⟩ := z; exact bye S6 fun t7 J7 => ⟨_, _, J7, q6⟩
section
variable {X : Cx} {body : List Stmt} {pos : Pos} {tb : WX → TS} {Wout : WX}
theorem ps_try_hx {h₀ : ExceptHandler} {hds : List ExceptHandler} {l : List Hx} (hs : X.stack = X.env :: X.outer) (hf : X.env.frame = some X.env.locals) (hN : X.N.Nodup) (tk : Takes X Wout) (hh : HxOk X (h₀ :: hds) l)
    (hb : ∀ (W : WX) (pn : List (Addr × Obj)) (xe : Value → Shared → Prop), Takes (X.tr pn xe) W → PassesOwn (model X.prog X.w) X.A X.env xe → PSs (X.tr pn xe) body (tb W)) :
    PS X (.Try body (h₀ :: hds) [] [] pos) (fun Dn σ H => tb (wHx X.K Wout Dn l) Dn σ H) := by
  refine ⟨fun pins s σ H Dn I q => wpAny_Try_except ?_⟩
  have ok := I.ok
  refine wpAny_mono ((hb (wHx X.K Wout Dn l) (X.pn ++ pins) (fun er t1 => wpAny (model X.prog X.w) X.A (noteFrame er X.env) (fun _ t2 => wpAny (model X.prog X.w) X.A (setFlight er none) (fun _ t3 =>
    wpAny (model X.prog X.w) X.A (handleBy er X.env (h₀ :: hds)) (SP X pins Dn) X.xe t3) X.xe t2) X.xe t1) (fun u t xx => ?_) PassesOwn.looking).run [] s σ H Dn (I.toTry _) q) (fun fl t z => ?_) (fun _ _ z => z)
  · rcases xx with xx | xx
    · obtain ⟨a, B, sI, pins', ρ, G, cls, dd, rfl, J0, nb, up, sky, na, os, ag, hC, want⟩ := xx
      exact catch_go ok hs hf hN tk (fun o v z => ⟨PXN.steady_cls o v z.1, PXN.steady_dict o v z.2⟩) (fun _ z => z) (fun z => by
        have hC' : cold X.K cls = false := hC
        rw [hC'] at z
        cases z) (J0.ofTry ok) nb up sky na os ag hh want
    · obtain ⟨a, B, sI, pins', ρ, G, cls, dd, rfl, J0, nb, up, sky, na, os, ag, hC, want⟩ := xx
      exact catch_go ok hs hf hN tk L2N.Zn.steady (fun _ z => z.zc) (fun _ _ z => z) (J0.ofTry ok) nb up sky na os ag hh want
  · cases fl with
    | ret u => obtain ⟨v, ρ, G, J, r, z⟩ := z; exact ⟨v, ρ, G, J.ofTry ok, r, z⟩
    | next => obtain ⟨ρ, G, J, z⟩ := z; exact wpAny_execs_nil ⟨ρ, G, J.ofTry ok, z⟩
    | brk => obtain ⟨ρ, G, J, z⟩ := z; exact ⟨ρ, G, J.ofTry ok, z⟩
    | cont => obtain ⟨ρ, G, J, z⟩ := z; exact ⟨ρ, G, J.ofTry ok, z⟩
end
end DL
set_option maxHeartbeats 8000000
namespace DL
open PySem PySem.Spec PyProof.Rows L2
/-- the exceptions of the module: how many classes, their fields' names, which is under which -/
structure Xm where
  n : Nat
  names : List Str
  flds : Nat → List Str
  sub : Nat → Nat → Bool
  rs : Nat → Bool
/-- what isinstance asks of an exception's class, beyond XfC -/
def excB (K : Fg) (D : Addr) : Bool := decide (PySem.W.findIn K (.ref D) "__class__" = some (some (.builtin "object.__class__"))) && (decide (PySem.W.specialIn K (.builtin "object.__class__") "__get__" = some (some (.builtin "getset_descriptor.__get__"))) && (decide (PySem.W.takesIn K (.builtin "object.__class__") = some true) && decide (PySem.W.mroIn K D (.type "object") = some true)))
theorem excB_ok {K : Fg} {D : Addr} (f : XfC K D) (h : excB K D = true) : ExcC K D := by
  obtain ⟨h1, h⟩ := Bool.and_eq_true_iff.mp h
  obtain ⟨h2, h⟩ := Bool.and_eq_true_iff.mp h
  obtain ⟨h3, h4⟩ := Bool.and_eq_true_iff.mp h
  exact ⟨f.ga, f.gg, f.exC, f.hdC, of_decide_eq_true h1, of_decide_eq_true h2, of_decide_eq_true h3, of_decide_eq_true h4⟩
structure XmOk (M : Xm) (K : Fg) (Cl : Cm) : Prop where
  xf : ∀ c, c < M.n → XfC K (Cl c)
  no : ∀ c c' f, c < M.n → c' < M.n → f ∈ M.flds c' → PySem.W.findIn K (.ref (Cl c)) f = some none
  sb : ∀ c c', c < M.n → c' < M.n → PySem.W.exmOne K (.ref (Cl c)) (.ref (Cl c')) = some (M.sub c c')
  inj : ∀ c c', c < M.n → c' < M.n → Cl c = Cl c' → c = c'
  cold : ∀ c, c < M.n → DL.cold K (.ref (Cl c)) = !hotN.contains (M.names.getD c "")
  isx : ∀ c, c < M.n → ExcC K (Cl c)
/-- classes that are raised in except suites -/
def Xm.hot (M : Xm) (c : Nat) : Bool := hotN.contains (M.names.getD c "")
/-- the reading of C(e, ..): a new dict with the fields -/
def tMkX (C : Addr) (fs : List Str) (ta : TA) : Sl → Hp → XK → Prop := fun σ H Q => ta σ H fun vs H1 => vs.length = fs.length ∧ ∀ d, H1 d = none → Q (.ref C) (some d) (upd H1 d (.xd (fs.zip vs).reverse))
/-- C(e, ..) makes such an exception -/
def MkX (X : Cx) (x : Str) (C : Addr) (fs : List Str) : Prop := ∀ (e : Expr) (es : List Expr) (ta : TA) (p pos : Pos), PA X (e :: es) ta → starEach (e :: es) X.env = (false, eval e X.env) :: starEach es X.env → (backTo pos (starEach es X.env)).any (·.1) = false →
  PMk X (.Call (.Name x p) (e :: es) [] pos) (tMkX C fs ta)
section
variable {X : Cx} {C : Cn} {Wx : WX}
theorem relF_append {K : Fg} {R : Rg} {H : Hp} : ∀ {a b : List (Str × D)} {va vb : List (Str × V)}, RelF K R H a va → RelF K R H b vb → RelF K R H (a ++ b) (va ++ vb)
  | [], b, va, vb, r, s => by cases (show va = [] from r); exact s
  | (x, d) :: a, b, va, vb, r, s => by
    obtain ⟨v, q, rfl, r1, r2⟩ := r
    exact ⟨v, q ++ vb, rfl, r1, relF_append r2 s⟩
theorem relF_zip {K : Fg} {R : Rg} {H : Hp} : ∀ {fs : List Str} {xs : List D} {vs : List V}, RelDs K R H xs vs → RelF K R H (fs.zip xs).reverse (fs.zip vs).reverse
  | [], xs, vs, r => by simp; rfl
  | f :: fs, [], vs, r => by cases r_nil r; simp; rfl
  | f :: fs, x :: xs, vs, r => by
    obtain ⟨v, q, rfl, r1, r2⟩ := r_cons r
    rw [List.zip_cons_cons, List.zip_cons_cons, List.reverse_cons, List.reverse_cons]
    exact relF_append (relF_zip r2) ⟨v, [], rfl, r1, rfl⟩
theorem relF_look {K : Fg} {R : Rg} {H : Hp} {f : Str} {d : D} : ∀ {a : List (Str × D)} {va : List (Str × V)}, RelF K R H a va → a.lookup f = some d → ∃ v, va.lookup f = some v ∧ RelD K R H d v
  | [], va, r, e => by cases e
  | (x, d') :: a, va, r, e => by
    obtain ⟨v, q, rfl, r1, r2⟩ := r
    rw [List.lookup_cons] at e ⊢
    cases hx : (f == x) with
    | true => rw [hx] at e; cases e; exact ⟨v, rfl, r1⟩
    | false => rw [hx] at e; exact relF_look r2 e
def dRaise (c : Nat) (fs : List Str) (t : TDA) : TDS := fun ds h P => t ds h (fun xs h1 => xs.length = fs.length ∧ P.ex ⟨c, (fs.zip xs).reverse⟩ ds h1) (fun x h' => P.ex x ds h')
theorem ds_raise {x : Str} {c : Nat} {fs : List Str} {e : Expr} {es : List Expr} {t : TDA} {p cp pos : Pos} (hc : X.calm = true) (tk : Takes X Wx) (mk : MkX X x (C.Cl c) fs) (ha : PA X (e :: es) (liftA C Wx t))
    (hs : starEach (e :: es) X.env = (false, eval e X.env) :: starEach es X.env) (hp : (backTo cp (starEach es X.env)).any (·.1) = false) : PS X (.Raise (some (.Call (.Name x p) (e :: es) [] cp)) none pos) (liftS C Wx (dRaise c fs t)) :=
  (ps_raiseC (.ref (C.Cl c)) hc tk (mk e es _ p cp ha hs hp)).imD fun D σ H q => by
    obtain ⟨R, ds, h, P, e, p, k⟩ := q
    refine ⟨R, ds, h, _, _, e, p, fun R1 H1 h1 xs vs ⟨hl, p1⟩ x1 e1 r1 => ⟨by rw [← relDs_len r1]; exact hl, fun d nd => ?_⟩, k.exE e⟩
    refine ⟨rfl, ?_⟩
    refine k.ex R1 ds σ _ h1 _ _ _ (e1.fresh nd) ((x1.trans (Ex.fresh nd)).mo e.ok) ⟨rfl, d, _, rfl, upd_same, ?_⟩ p1
    exact relF_ex e1.ok (Ex.fresh nd) (relF_zip r1)
/-- what a suite's tuple is made of -/
inductive XI where
  | s (x : Str) | f (x : Str)
def XI.val (fs : List (Str × D)) : XI → Option D
  | .s x => some (.str x)
  | .f x => fs.lookup x
def xvals (fs : List (Str × D)) : List XI → Option (List D)
  | [] => some []
  | i :: r => match i.val fs, xvals fs r with
    | some d, some ds => some (d :: ds)
    | _, _ => none
/-- the text's items, n the exception's name -/
def XI.chk (n : Str) (fl : List Str) : XI → Expr → Bool
  | .s x, .Constant (.str y) _ _ => decide (x = y)
  | .f x, .Attribute (.Name m _) y _ => decide (m = n) && decide (x = y) && decide (x ∈ fl)
  | _, _ => false
def xchk (n : Str) (fl : List Str) : List XI → List Expr → Bool
  | [], [] => true
  | i :: r, e :: es => i.chk n fl e && xchk n fl r es
  | _, _ => false
def tIt (a : Addr) (cls : Value) (d : Option Addr) (A : Addr) (i : Nat) : XI → TE
  | .s x => tC (.str x)
  | .f x => tXf a cls d A x (tVar i)
def tIts (a : Addr) (cls : Value) (d : Option Addr) (A : Addr) (i : Nat) : List XI → TA
  | [] => tNil
  | x :: r => tCons (tIt a cls d A i x) (tIts a cls d A i r)
theorem pa_its {a A : Addr} {oe : Obj} {cls : Value} {d : Option Addr} {pn : List (Addr × Obj)} {i : Nat} {n : Str} {fl : List Str} (T : XfC X.K A) (hno : ∀ f ∈ fl, PySem.W.findIn X.K (.ref A) f = some none) (hz : Zc cls d oe) (hf : ∃ vs, oe.data = .fields vs)
    (hN : X.N[i]? = some n) (hv : Vis X.env.scope n) (hd : (n == ("__debug__" : Str)) = false) (hcd : (n == ("__classdict__" : Str)) = false) : ∀ (l : List XI) (es : List Expr), xchk n fl l es = true → PA (X.suite a ((a, oe) :: pn)) es (tIts a cls d A i l)
  | [], [], h => pa_nil
  | [], _ :: _, h => by cases h
  | _ :: _, [], h => by cases h
  | x :: r, e :: es, h => by
    obtain ⟨h1, h2⟩ := ba2 (show (x.chk n fl e && xchk n fl r es) = true from h)
    have ih := pa_its (a := a) (pn := pn) T hno hz hf hN hv hd hcd r es h2
    cases x with
    | s x =>
      cases e <;> first | (simp [XI.chk] at h1; done) | skip
      rename_i c j p
      cases c <;> first | (simp [XI.chk] at h1; done) | skip
      cases of_decide_eq_true (show decide (x = _) = true from h1)
      exact pa_cons pe_str ih (by rfl)
    | f x =>
      cases e <;> first | (simp [XI.chk] at h1; done) | skip
      rename_i o y p
      cases o <;> first | (simp [XI.chk] at h1; done) | skip
      rename_i m p2
      obtain ⟨h1, h5⟩ := ba2 (show (decide (m = n) && decide (x = y) && decide (x ∈ fl)) = true from h1)
      obtain ⟨h3, h4⟩ := ba2 h1
      cases of_decide_eq_true h3
      cases of_decide_eq_true h4
      have pv' : PE (X.suite a ((a, oe) :: pn)) (.Name _ p2) (tVar i) := pe_var hN hv hd hcd
      exact pa_cons (pe_xf T (hno x (of_decide_eq_true h5)) hz hf pv') ih (by rfl)
/-- what comes of the items -/
theorem its_go {a A dd : Addr} {cls : Value} {i : Nat} {σ : Sl} {H : Hp} {R : Rg} {fs : List (Str × D)} {ks : List (Str × V)} (hc : cls = .ref A) (hd : H dd = some (.xd ks)) (r : RelF C.K R H fs ks) (hs : σ[i]? = some (some (.ref a))) :
    ∀ (l : List XI) (xs : List D) (Q : List V → Hp → Prop), xvals fs l = some xs → (∀ vs, RelDs C.K R H xs vs → Q vs H) → tIts a cls (some dd) A i l σ H Q
  | [], xs, Q, e, k => by cases e; exact k [] m_nil
  | x :: l, xs, Q, e, k => by
    unfold xvals at e
    split at e
    · rename_i d ds e1 e2
      cases e
      cases x with
      | s x => cases e1; exact its_go hc hd r hs l ds _ e2 fun vs rv => k _ (m_cons m_str rv)
      | f x =>
        obtain ⟨v, hv, rv⟩ := relF_look r e1
        exact ⟨.ref a, hs, rfl, hc, dd, ks, v, rfl, hd, hv, its_go hc hd r hs l ds _ e2 fun vs rs => k _ (m_cons rv rs)⟩
    · cases e
/-- a suite: return the tuple, or keep it in a slot -/
inductive Sk where
  | ret | set (j : Nat)
def Sk.go (k : Sk) (i : Nat) (xs : List D) (ds : DSt) (h : Hs) (P : DEnds) : Prop := match k with
  | .ret => P.rt (.tup xs) h
  | .set j => P.nx (((ds.set i none).set j (some (.d (.tup xs)))).set i none) h
def dTryAs (M : Xm) (c : Nat) (i : Nat) (k : Sk) (l : List XI) (tb : TDS) : TDS := fun ds h P => tb ds h { P with ex := fun x ds' h' => x.c < M.n ∧ i < ds'.length ∧ if M.sub x.c c = true then l.length ≤ 1000 ∧ ∃ xs, xvals x.fs l = some xs ∧ k.go i xs ds' h' P else P.ex x ds' h' }
theorem Env.drop {R : Rg} {ds : DSt} {σ : Sl} {H : Hp} {h : Hs} (e : Env C R ds σ H h) (i : Nat) (v : Option V) : Env C R (ds.set i none) (σ.set i v) H h := by
  have hs : ∀ (j : Nat) w, (ds.set i none)[j]? = some (some w) → j ≠ i ∧ ds[j]? = some (some w) := fun j w q => by
    by_cases hj : j = i
    · subst hj
      by_cases hl : j < ds.length
      · rw [List.getElem?_set_self hl] at q; cases q
      · rw [List.getElem?_eq_none (by simp; omega)] at q; cases q
    · rw [List.getElem?_set_ne (Ne.symm hj)] at q; exact ⟨hj, q⟩
  refine ⟨e.ok, e.ex, by simp [e.len], fun j w q => ?_, fun j xs q => e.nnew j xs (hs j _ q).2, fun j k xs ys a q1 s1 q2 s2 => ?_, fun j xs a q s => ?_⟩
  · obtain ⟨hj, q⟩ := hs j w q
    rw [List.getElem?_set_ne (Ne.symm hj)]; exact e.slot j w q
  · obtain ⟨hj, q1⟩ := hs j _ q1
    obtain ⟨hk, q2⟩ := hs k _ q2
    rw [List.getElem?_set_ne (Ne.symm hj)] at s1
    rw [List.getElem?_set_ne (Ne.symm hk)] at s2
    exact e.own j k xs ys a q1 s1 q2 s2
  · obtain ⟨hj, q⟩ := hs j _ q
    rw [List.getElem?_set_ne (Ne.symm hj)] at s
    exact e.own0 j xs a q s
/-- the suite's statement -/
def Sk.stmt (N : List Str) (sc : Scope) : Sk → Stmt → Option (List Expr)
  | .ret, .Return (some (.Tuple es _ _)) _ => some es
  | .set j, .Assign [.Name y _] (.Tuple es _ _) _ => if decide (N[j]? = some y) && lcB sc y then some es else none
  | _, _ => none
def adr : Value → Addr
  | .ref A => A
  | _ => 0
def skT (i : Nat) (kd : Sk) (t : TE) : TS := match kd with
  | .ret => tRet t
  | .set j => tAsg t (gName j)
open Classical in
def tSk (n : Nat) (Cl : Cm) (i : Nat) (kd : Sk) (l : List XI) (a : Addr) (cls : Value) (d : Option Addr) : TS :=
  if (∃ c', c' < n ∧ cls = .ref (Cl c')) then skT i kd (tTup (tIts a cls d (adr cls) i l)) else tNever
theorem ds_tryAs {M : Xm} {c i : Nat} {kd : Sk} {l : List XI} {tb : TDS} {x n : Str} {body : List Stmt} {st : Stmt} {es : List Expr} {np pos pos' : Pos} (mo : XmOk M C.K C.Cl) (hK : C.K = X.K) (hs : X.stack = X.env :: X.outer) (hf : X.env.frame = some X.env.locals) (hN : X.N.Nodup)
    (hi : X.N[i]? = some n) (hln : X.env.kindOf n = some .local) (hd : (n == ("__debug__" : Str)) = false) (hcd : (n == ("__classdict__" : Str)) = false) (hg : Gl X x) (hm : X.mg x = some (.ref (C.Cl c))) (hx : (x == ("__debug__" : Str)) = false) (hcn : c < M.n) (tk : Takes X Wx)
    (hb : ∀ (W : WX) (pn : List (Addr × Obj)) (xe : Value → Shared → Prop), Takes (X.tr pn xe) W → PassesOwn (model X.prog X.w) X.A X.env xe → PSs (X.tr pn xe) body (liftS C W tb))
    (hst : kd.stmt X.N X.env.scope st = some es) (hck : xchk n (M.flds c) l es = true) (hsub : ∀ c', c' < M.n → M.sub c' c = true → True) :
    PS X (.Try body [.ExceptHandler (some (.Name x np)) (some n) [st] pos'] [] [] pos) (liftS C Wx (dTryAs M c i kd l tb)) := by
  refine (ps_try_hx (tb := fun W => liftS C W tb) (l := [.nm (.ref (C.Cl c)) i (tSk M.n C.Cl i kd l)]) hs hf hN tk (.nm hi hln ⟨hg, hx, .inl hm⟩ (fun a oe cls d pn hz hfl => ?_) .nil) hb).imD fun Dn σ H q => ?_
  · by_cases hc : ∃ c', c' < M.n ∧ cls = .ref (C.Cl c')
    · rw [show tSk M.n C.Cl i kd l a cls d = skT i kd (tTup (tIts a cls d (adr cls) i l)) from if_pos hc]
      obtain ⟨c', hc', rfl⟩ := hc
      have T := hK ▸ mo.xf c' hc'
      have pa := pa_its (X := X) (a := a) (oe := oe) (cls := .ref (C.Cl c')) (d := d) (pn := pn) (i := i) T (fun f hff => hK ▸ mo.no c' c f hc' hcn hff) hz hfl hi (.inl hln) hd hcd l es hck
      cases kd with
      | ret =>
        cases st <;> first | (simp [Sk.stmt] at hst; done) | skip
        rename_i o p
        rcases o with _ | e <;> first | (simp [Sk.stmt] at hst; done) | skip
        cases e <;> first | (simp [Sk.stmt] at hst; done) | skip
        simp only [Sk.stmt, Option.some.injEq] at hst
        subst hst
        exact pss_one (ps_ret (pe_tup pa))
      | set j =>
        cases st <;> first | (simp [Sk.stmt] at hst; done) | skip
        rename_i tgs v p
        rcases tgs with _ | ⟨t, _ | ⟨t2, tgs⟩⟩ <;> first | (simp [Sk.stmt] at hst; done) | skip
        cases t <;> first | (simp [Sk.stmt] at hst; done) | skip
        cases v <;> first | (simp [Sk.stmt] at hst; done) | skip
        simp only [Sk.stmt] at hst
        split at hst
        · rename_i hh
          obtain ⟨h1, h2⟩ := ba2 hh
          cases hst
          exact pss_one (ps_set (i := j) hN (of_decide_eq_true h1) (.inl (lcB_ok h2)) (pe_tup pa) (by rfl) (.inr (lcB_ok h2)))
        · cases hst
    · rw [show tSk M.n C.Cl i kd l a cls d = tNever from if_neg hc]
      exact pss_never
  · obtain ⟨R, ds, h, P, e, p, k⟩ := q
    refine ⟨R, ds, h, _, e, p, ⟨k.nx, k.bk, k.ct, k.rt, fun R' ds' σ' H' h' x cls dd e' m r p' => ?_⟩⟩
    obtain ⟨hxn, hi', p'⟩ := p'
    obtain ⟨rfl, b, ks, rfl, hb', rf⟩ := r
    refine ⟨M.sub x.c c, hK ▸ mo.sb x.c c hxn hcn, fun hsb a na => ?_, fun hsb => ?_⟩
    · rw [hsb, if_pos rfl] at p'
      obtain ⟨ll, xs, hxs, p'⟩ := p'
      rw [show tSk M.n C.Cl i kd l a (.ref (C.Cl x.c)) (some b) = skT i kd (tTup (tIts a (.ref (C.Cl x.c)) (some b) (adr (.ref (C.Cl x.c))) i l)) from if_pos ⟨x.c, hxn, rfl⟩]
      have hil : i < σ'.length := by
        rw [← e'.len]
        exact hi'
      have hsi : (σ'.set i (some (.ref a)))[i]? = some (some (.ref a)) := List.getElem?_set_self hil
      have lenx : ∀ {l : List XI} {xs : List D}, xvals x.fs l = some xs → xs.length = l.length := by
        intro l
        induction l with
        | nil => intro xs z; cases z; rfl
        | cons y l ih =>
          intro xs z
          unfold xvals at z
          split at z
          · rename_i e1 e2; cases z; simp [ih e2]
          · cases z
      have fin : ∀ (Q : VK), (∀ vs pp, H' pp = none → RelDs C.K R' H' xs vs → Q (.ref pp) (upd H' pp (.tup vs))) → tTup (tIts a (.ref (C.Cl x.c)) (some b) (C.Cl x.c) i l) (σ'.set i (some (.ref a))) H' Q := fun Q kk =>
        its_go rfl hb' rf hsi l xs _ hxs fun vs rv => ⟨by rw [← relDs_len rv, lenx hxs]; exact Nat.le_trans ll (by decide), fun pp np => kk vs pp np rv⟩
      cases kd with
      | ret =>
        refine fin _ fun vs pp np rv => k.rt R' _ h' _ _ (e'.ok.fresh np) (e'.ex.trans (Ex.fresh np)) (m_tup upd_same (relDs_ex e'.ok (Ex.fresh np) rv)) p'
      | set j =>
        unfold skT
        refine fin _ fun vs pp np rv => ?_
        have e2 := ((e'.fresh (o := .tup vs) np).drop i (some (.ref a))).set j (m_tup upd_same (relDs_ex e'.ok (Ex.fresh np) rv))
        exact k.nx R' _ _ _ h' (e2.drop i none) (m.trans ((Ex.fresh np).mo e'.ok)) p'
    · rw [hsb, if_neg Bool.false_ne_true] at p'
      exact k.ex R' ds' σ' H' h' x _ _ e' m ⟨rfl, b, ks, rfl, hb', rf⟩ p'
end
end DL
set_option maxHeartbeats 8000000
namespace DL
open PySem PySem.Spec PyProof.Rows L2
section
variable {X : Cx} {C : Cn} {Wx : WX} {M : Xm}
/-- one clause: its class, its name's slot, what its suite does with which items -/
abbrev Hd1 := Nat × Nat × Sk × List XI
end
end DL
set_option maxHeartbeats 8000000
namespace DL
open PySem PySem.Spec PySem.W PySem.Calls PyProof.Rows L2
/-- the text of such an __init__ -/
def argB : List Str → List Expr → Bool
  | [], [] => true
  | p :: ps, .Name q _ :: es => decide (p = q) && argB ps es
  | _, _ => false
def stoB (sl : Str) : List (Str × Str) → List Stmt → Bool
  | [], [] => true
  | (f, p) :: r, .Assign [.Attribute (.Name s _) g _] (.Name q _) _ :: ss => decide (s = sl) && decide (f = g) && decide (p = q) && stoB sl r ss
  | _, _ => false
def iniB (sl : Str) (ps fs : List Str) : List Stmt → Bool
  | .Expr (.Call (.Attribute (.Call (.Name s _) [] [] _) i ap) args [] cp) _ :: ss => decide (s = "super") && decide (i = "__init__") && (ap.endLine == cp.line) && decide (args.length < 29) && argB ps args && stoB sl (fs.zip ps) ss
  | _ => false
structure XiC (prog : Program) (K : Fg) (mg : Str → Option Value) (C fI : Addr) (fs : List Str) : Prop where
  T : OexC K C
  iC : findIn K (.ref C) "__init__" = some (some (.ref fI))
  tI : typeIn K (.ref fI) = some (.type "function")
  fn : ∃ (name qual : Str) (params : Arguments) (body : List Stmt) (scope : Scope) (dV kV doc pm ct oc : Value) (an od : Option Addr) (osl : Array (Option Value)) (cda cc : Addr) (sl : Str) (ps : List Str) (ar : Arg),
    K.lookup fI = some ⟨oc, od, .func (ksFn name qual params body scope dV kV doc pm an (.ref cda) ct cc), osl⟩ ∧ codeIn K (.ref cda) qual = true ∧
    (∃ ccl cdd vs ccs file tf, K.lookup cda = some ⟨ccl, cdd, .fields vs, ccs⟩ ∧ vs[2]? = some (.str file tf) ∧ ((prog.main.file : Str) == file) = true) ∧
    (∃ cl cld csl, K.lookup cc = some ⟨cl, cld, .cell (some (.ref C)), csl⟩) ∧
    (params.posonlyargs ++ params.args).head? = some ar ∧ ar.arg = sl ∧ ps.length = fs.length ∧ ps ≠ [] ∧ fs.Nodup ∧
    (∀ us : List Value, us.length = ps.length + 1 → bindArgs (ksFn name qual params body scope dV kV doc pm an (.ref cda) ct cc) ⟨us, []⟩ = pure ((sl :: ps).zip us)) ∧
    iniB sl ps fs body = true ∧ (sl :: ps).Nodup ∧ (∀ x ∈ sl :: ps, scope.names.lookup x = some .local) ∧ (∀ x ∈ sl :: ps, okN x = true) ∧ (∀ x ∈ scope.names, x.2 ≠ .cell) ∧ scope.isCoroutine = false ∧ scope.isGenerator = false ∧ scope.kind = .function ∧
    scope.names.lookup ("super" : Str) = some .globalImplicit ∧ scope.names.lookup ("__class__" : Str) = some .free
  sup : mg "super" = none
  top : (prog.main.scope.names.lookup ("super" : Str)).isSome = false
  opq : nsIn K cStatics "thirdparty.any" = some none
  alg : ks_superIn K C C "__init__" = some (some (.builtin "ValueError.__init__"))
  sub : subIn K (.ref C) (.type "ValueError") = some true
  fld : ∀ f ∈ fs, findIn K (.ref C) f = some none
theorem stoB_inv {sl f p : Str} {r : List (Str × Str)} {st : Stmt} {ss : List Stmt} (h : stoB sl ((f, p) :: r) (st :: ss) = true) : ∃ a b c z, st = .Assign [.Attribute (.Name sl a) f b] (.Name p c) z ∧ stoB sl r ss = true := by
  cases st <;> first | (simp [stoB] at h; done) | skip
  rename_i tgs v z
  rcases tgs with _ | ⟨t, _ | ⟨t2, tgs⟩⟩ <;> first | (simp [stoB] at h; done) | skip
  cases t <;> first | (simp [stoB] at h; done) | skip
  rename_i o y b
  cases o <;> first | (simp [stoB] at h; done) | skip
  cases v <;> first | (simp [stoB] at h; done) | skip
  simp only [stoB, Bool.and_eq_true, decide_eq_true_eq] at h
  obtain ⟨⟨⟨rfl, rfl⟩, rfl⟩, hb⟩ := h
  exact ⟨_, _, _, _, rfl, hb⟩
section
variable {prog : Program} {w : World} {A : Around} {E : Value → Shared → Prop} {K : Fg} {g : Array GenState} {d : Drawn} {os : OsState}
theorem boot_super : bootBuiltins "super" = some (.type "super") := by kernel_rfl
/-- a parameter is read -/
theorem rd {M : Model} {env : PySem.Env} {h : Heap} {t : Nat} {m : Str → Option Value} {x : Str} {pos : Pos} {v : Value} {Q : Value → Shared → Prop} (hk : env.scope.kind = .function) (hl : env.kindOf x = some .local) (hn : h.Ns env.locals m) (hv : m x = some v) (hx : okN x = true) (q : Q v ⟨h, g, d, t, os⟩) :
    wpAny M A (eval (.Name x pos) env) Q E ⟨h, g, d, t, os⟩ := wpAny_Name (wpAny_loadName_local hk hl hn hv q) (okN_ok hx).1
theorem args_go {M : Model} {env : PySem.Env} {h : Heap} {t : Nat} {m : Str → Option Value} {cp : Pos} (hk : env.scope.kind = .function) (hn : h.Ns env.locals m) : ∀ (ps : List Str) (us : List Value) (es : List Expr) (Q : List Value → Shared → Prop), argB ps es = true → us.length = ps.length →
    (∀ (i : Nat) (x : Str) (u : Value), ps[i]? = some x → us[i]? = some u → m x = some u ∧ env.kindOf x = some .local ∧ okN x = true) → Q us ⟨h, g, d, t, os⟩ → wpAny M A (spliced (backTo cp (starEach es env))) Q E ⟨h, g, d, t, os⟩
  | [], us, [], Q, _, hl, _, q => by
    cases us with
    | nil => exact spliced_nil q
    | cons _ _ => simp at hl
  | [], _, _ :: _, _, hb, _, _, _ => by simp [argB] at hb
  | p :: ps, us, [], _, hb, _, _, _ => by simp [argB] at hb
  | p :: ps, us, e :: es, Q, hb, hl, hv, q => by
    cases e <;> first | (simp [argB] at hb; done) | skip
    rename_i x px
    obtain ⟨h1, h2⟩ := ba2 (show (decide (p = x) && argB ps es) = true from hb)
    cases of_decide_eq_true h1
    cases us with
    | nil => simp at hl
    | cons u us =>
      show wpAny M A (spliced ((false, eval (.Name _ px) env) :: backTo cp (starEach es env))) Q E _
      obtain ⟨a, b, c⟩ := hv 0 _ u rfl rfl
      exact spliced_cons (rd hk b hn a c (args_go hk hn ps us es (fun vs s => Q (u :: vs) s) h2 (by simpa using hl) (fun i y v hy hu => hv (i + 1) y v (by simpa using hy) (by simpa using hu)) q))
/-- further fields -/
theorem sto_old {env : PySem.Env} {C e dx L : Addr} {sl : Str} {m : Str → Option Value} (T : OexC K C) (hk : env.scope.kind = .function) (hL : env.locals = L) (hsl : m sl = some (.ref e)) (hks : env.kindOf sl = some .local) (hos : okN sl = true) :
    ∀ (r : List (Str × Str)) (us : List Value) (ss : List Stmt) (h : Heap) (t : Nat) (t1 : Addr) (nl : List Str) (m0 : Str → Option Value) (Q : Flow → Shared → Prop), stoB sl r ss = true → us.length = r.length → K.In h → h.Ns L m → L ≠ dx → K.lookup dx = none →
    h.get? e = some { cls := .ref C, dict := some dx, data := .fields #[.ref t1, .none, .none, .none, .bool false, .none] } → h.Ns1 dx m0 → Within m0 nl → nl.length + r.length ≤ 1000 → e ≠ dx →
    (∀ (i : Nat) (p : Str × Str) (u : Value), r[i]? = some p → us[i]? = some u → m p.2 = some u ∧ env.kindOf p.2 = some .local ∧ okN p.2 = true ∧ findIn K (.ref C) p.1 = some none) →
    (∀ h' t', (∀ b o, b ≠ dx → h.get? b = some o → h'.get? b = some o) → h'.Ns1 dx (fun y => match ((r.map (·.1)).zip us).reverse.lookup y with | some v => some v | none => m0 y) → Q .next ⟨h', g, d, t', os⟩) →
    wpAny (model prog w) A (execs ss env) Q E ⟨h, g, d, t, os⟩
  | [], us, [], h, t, t1, nl, m0, Q, _, hl, _, _, _, _, _, hn, _, _, _, _, q => wpAny_execs_nil (q h t (fun _ _ _ z => z) (by
      cases us with
      | nil => exact hn
      | cons _ _ => simp at hl))
  | [], _, _ :: _, _, _, _, _, _, _, hb, _, _, _, _, _, _, _, _, _, _, _, _ => by simp [stoB] at hb
  | (f, p) :: r, us, [], _, _, _, _, _, _, hb, _, _, _, _, _, _, _, _, _, _, _, _ => by simp [stoB] at hb
  | (f, p) :: r, us, st :: ss, h, t, t1, nl, m0, Q, hb, hl, kin, hns, hLd, hKd, he, hn, hw, hz, hed, hv, q => by
    cases us with
    | nil => simp at hl
    | cons u us =>
    obtain ⟨_, _, _, _, rfl, hb2⟩ := stoB_inv hb
    obtain ⟨a1, a2, a3, a4⟩ := hv 0 _ u rfl rfl
    obtain ⟨nm, qn, N, bs, bm, sn, sub, ab, col, dd, k0, k1, k2, k3, k5, hC, hbm⟩ := T.cls
    have hcl : clsIn K C = some { name := nm, bases := bs, mro := .ref C :: bm, ns := N, qualname := qn, hasDict := true, slotNames := sn, subclasses := sub, abstract := ab, collection := col, hasDel := false } := by unfold clsIn; rw [hC] <;> rfl
    obtain ⟨oD, _, _, hoD, _, _⟩ := hn.count hw
    subst hL
    refine wpAny_execs_cons (plainObj_wpAny_Assign_Attribute (rd hk a2 hns a1 a3 (rd hk hks hns hsl hos ?_)))
    refine set_plain kin (ox := { cls := .ref C, dict := some dx, data := .fields #[.ref t1, .none, .none, .none, .bool false, .none] }) (od := some oD) ⟨he, rfl, rfl, hoD⟩ T.sa ?_
    refine PySem.OEX.osa_old kin he hn hw (by simp at hz; omega) hcl (show PySem.HandSPX.refsVE (.ref C :: bm) = true from hbm) rfl a4 (fun h' tk' k hn' => ?_)
    refine sto_old T hk rfl hsl hks hos r us ss h' tk' t1 (f :: nl) _ Q hb2 (by simpa using hl) (fun b o z => k b o (fun y => by rw [y, hKd] at z; cases z) (kin b o z)) ?_ hLd hKd (k e _ hed he) hn' (Within.cons f u hw) (by simp at hz ⊢; omega) hed (fun i y v hy hu => hv (i + 1) y v (by simpa using hy) (by simpa using hu)) fun h2 t2 k2 n2 => ?_
    · obtain ⟨o, es, ep, ho, hr⟩ := hns
      exact ⟨o, es, ep, k _ _ hLd ho, hr⟩
    · refine q h2 t2 (fun b o hb z => k2 b o hb (k b o hb z)) ?_
      have : (fun y => match ((((f, p) :: r).map (·.1)).zip (u :: us)).reverse.lookup y with | some v => some v | none => m0 y) = (fun y => match ((r.map (·.1)).zip us).reverse.lookup y with | some v => some v | none => if y = f then some u else m0 y) := by
        funext y
        rw [List.map_cons, List.zip_cons_cons, List.reverse_cons, List.lookup_append]
        cases ((r.map (·.1)).zip us).reverse.lookup y with
        | some v => rfl
        | none =>
          by_cases hy : y = f
          · subst hy; simp [List.lookup]
          · have e : (y == f) = false := by simpa using hy
            simp [List.lookup, e, hy]
      rw [this]
      exact n2
theorem argB_plain {env : PySem.Env} {cp : Pos} : ∀ {ps : List Str} {es : List Expr}, argB ps es = true → (backTo cp (starEach es env)).all (fun x => !x.1) = true
  | [], [], _ => rfl
  | [], _ :: _, h => by simp [argB] at h
  | p :: ps, [], h => by simp [argB] at h
  | p :: ps, e :: es, h => by
    cases e <;> first | (simp [argB] at h; done) | skip
    rename_i x px
    obtain ⟨_, h2⟩ := ba2 (show (decide (p = x) && argB ps es) = true from h)
    show ((!false) && (backTo cp (starEach es env)).all (fun x => !x.1)) = true
    rw [argB_plain h2]; rfl
theorem eval_mc {o : Expr} {nm : Str} {ap cp : Pos} {args : List Expr} {env : PySem.Env} (hf : methodCallForm (args.length + ([] : List Keyword).length) (backTo cp (starEach args env)) (backToKw cp (keywordEach [] env)) = true) (hl : (ap.endLine == cp.line) = true) :
    eval (.Call (.Attribute o nm ap) args [] cp) env = (do
      let ov ← attributeBase o nm env (eval o env)
      standAt ap.atName
      let (f, first) ← holding [ov] (getMethod ov nm (do return (← importBound o env).getD true))
      callWith cp f first (backTo cp (starEach args env)) []) := by
  have hpos : methodCallPos true o env ap cp = pure cp := by unfold methodCallPos; simp [hl]
  show (attributeBase o nm env (eval o env) >>= fun ov => standAt ap.atName >>= fun _ => methodCall o nm ap cp env ov (args.length + ([] : List Keyword).length) (backTo cp (starEach args env)) (backToKw cp (keywordEach [] env))) = _
  unfold methodCall
  rw [hf]
  simp only [hpos, pure_bind]
  rfl
theorem iniB_inv {sl : Str} {ps fs : List Str} {body : List Stmt} (h : iniB sl ps fs body = true) : ∃ p0 p1 p2 cp p3 args ss, body = .Expr (.Call (.Attribute (.Call (.Name "super" p0) [] [] p1) "__init__" p2) args [] cp) p3 :: ss ∧ (p2.endLine == cp.line) = true ∧ args.length < 29 ∧ argB ps args = true ∧ stoB sl (fs.zip ps) ss = true := by
  unfold iniB at h
  split at h
  · simp only [Bool.and_eq_true, decide_eq_true_eq] at h
    obtain ⟨⟨⟨⟨⟨rfl, rfl⟩, ha⟩, hb⟩, h1⟩, h2⟩ := h
    exact ⟨_, _, _, _, _, _, _, rfl, ha, hb, h1, h2⟩
  · cases h
/-- super().__init__(..) as it is called -/
theorem sup_call {C e u : Addr} {h : Heap} {t : Nat} {t0 : Addr} {us : List Value} {Q : Value → Shared → Prop} (T : OexC K C) (kin : K.In h) (he : h.get? e = some (PySem.HandSPX.excO C t0)) (hu : h.get? u = some (kxs_mw "ValueError.__init__" e)) (hz : us.length ≤ sizeLine)
    (q : ∀ h' t1, (∀ b o, b ≠ e → h.get? b = some o → h'.get? b = some o) → h'.get? e = some (PySem.HandSPX.excO C t1) → Q .none ⟨h', g, d, t, os⟩) : wpAny (model prog w) A (call (.ref u) us) Q E ⟨h, g, d, t, os⟩ := by
  obtain ⟨nm, qn, N, bs, bm, sn, sub, ab, col, dd, k0, k1, k2, k3, k5, hC, hbm⟩ := T.cls
  refine wpAny_call (codeAny_of_tree ?_)
  show wpAny _ A.in1 (callAny (.ref u) ⟨us, []⟩) _ _ _
  simp only [callAny]
  refine wpAny_bind (wpAny_load hu ?_)
  refine KFB.if_so (by rfl) ?_
  refine wpAny_bind (check_bound_init F.excBase_ValueError.toExcCallFacts (kin _ _ hC) he rfl ?_)
  refine wpAny_bind (wpAny_pure (wpAny_pure ?_))
  refine ⟨plainId_quiet F.excBase_ValueError.init.plain _, codeAny_builtin F.excBase_ValueError.initEntry ?_⟩
  exact exc_init_tree (cls := .ref C) (t0 := t0) (dv := none) (c2 := .none) (c3 := .none) (b4 := .bool false) he hz fun h' k e' _ => q h' _ k e'
theorem ns_keep {h h' : Heap} {L : Addr} {m : Str → Option Value} (hn : h.Ns L m) (k : ∀ o, h.get? L = some o → h'.get? L = some o) : h'.Ns L m := by
  obtain ⟨o, es, ep, ho, hr⟩ := hn
  exact ⟨o, es, ep, k _ ho, hr⟩
theorem lookup_zip_rev : ∀ {ps : List Str} {us : List Value} {i : Nat} {x : Str} {u : Value}, ps.Nodup → ps[i]? = some x → us[i]? = some u → ((ps.zip us).reverse).lookup x = some u
  | [], _, i, _, _, _, h, _ => by simp at h
  | p :: ps, [], i, _, _, _, _, h => by simp at h
  | p :: ps, v :: us, i, x, u, hn, hx, hu => by
    rw [List.zip_cons_cons, List.reverse_cons, List.lookup_append]
    rw [List.nodup_cons] at hn
    cases i with
    | zero =>
      cases hx
      cases hu
      have : ((ps.zip us).reverse).lookup p = none := by
        rw [List.lookup_eq_none_iff]
        intro y hy
        have := (List.of_mem_zip (show (y.1, y.2) ∈ ps.zip us from by simpa using hy)).1
        simp only [bne_iff_ne, ne_eq, beq_eq_false_iff_ne]
        intro z
        exact hn.1 (by rw [z]; exact this)
      rw [this]
      simp [List.lookup]
    | succ i =>
      rw [lookup_zip_rev (i := i) hn.2 (by simpa using hx) (by simpa using hu)]
      rfl
/-- the whole __init__ -/
theorem xi_run {mg : Str → Option Value} {base : Heap} {C fI e : Addr} {fs : List Str} {us : List Value} {h2 : Heap} {t : Nat} {t0 : Addr} {R : Result → Shared → Prop} (Z : XiC prog K mg C fI fs) (M : Mod K mg base) (bk : ∀ b o, base.get? b = some o → h2.get? b = some o) (be : base.get? e = none)
    (hroom : A.depth < recursionLimit) (hl : us.length = fs.length) (hz : us.length ≤ 1000) (he : h2.get? e = some (PySem.HandSPX.excO C t0))
    (hR : ∀ h' tk' dx t1, (∀ b o, b ≠ e → h2.get? b = some o → h'.get? b = some o) → h2.objs.size ≤ dx → dx ≠ e → h'.get? e = some { cls := .ref C, dict := some dx, data := .fields #[.ref t1, .none, .none, .none, .bool false, .none] } →
      h'.Ns1 dx (fun y => (fs.zip us).reverse.lookup y) → R (.ok (.ret .none)) ⟨h', g, d, tk', os⟩) :
    codeAny (model prog w) A (.call (.ref fI) ⟨.ref e :: us, []⟩) R ⟨h2, g, d, t, os⟩ := by
  obtain ⟨name, qual, params, body, scope, dV, kV, doc, pm, ct, oc, an, od, osl, cda, cc, sl, ps, ar, lk, hcd, ⟨ccl, cdd, vs, ccs, file, tf, lcd, hvs, hfile⟩, ⟨cl, cld, csl, lcc⟩, har, hsl, hpl, hpn, hfn, hbind, hini, hnd, hloc, hok, hcell, hco, hgen, hk, hks, hkc⟩ := Z.fn
  have kin0 : K.In h2 := M.kin.keeps bk
  have hKe : K.lookup e = none := by
    cases z : K.lookup e with
    | none => rfl
    | some o => have := M.kin _ _ z; rw [be] at this; cases this
  have Ns0 : ∀ {h : Heap} {dx : Addr}, K.In h → h.get? dx = none → K.lookup dx = none := fun {h dx} ki n => by
    cases z : K.lookup dx with
    | none => rfl
    | some o => have := ki _ _ z; rw [n] at this; cases this
  obtain ⟨p0, p1, p2, cp, p3, args, ss, rfl, hline, hfew, hargs, hss⟩ := iniB_inv hini
  refine ks_codeAny_call_defAt (fd := ksFn name qual params _ scope dV kV doc pm an (.ref cda) ct cc) (binds := (sl :: ps).zip (.ref e :: us)) hroom (kin0 _ _ lk) rfl (M.nolimit.keeps bk) (codeRec_of kin0 hcd) rfl
    (BindsTo.of_eq (hbind (.ref e :: us) (by simp [hl, hpl]))) hcell (fun x hx => ?_) (fun h1 hns hk1 => ?_) hco hgen hk
  · exact hloc x.1 (List.of_mem_zip (show (x.1, x.2) ∈ _ from hx)).1
  have bk1 : ∀ b o, base.get? b = some o → h1.get? b = some o := fun b o z => hk1 b o (bk b o z)
  have kin1 : K.In h1 := M.kin.keeps bk1
  have look : ∀ (i : Nat) x u, (sl :: ps)[i]? = some x → (Value.ref e :: us)[i]? = some u → ((sl :: ps).zip (Value.ref e :: us)).reverse.lookup x = some u := fun i x u hx hu => lookup_zip_rev hnd hx hu
  have hee : ∀ env : PySem.Env, env.locals = h2.objs.size → e ≠ env.locals := fun env z y => by
    have := Heap.lt_size he
    rw [y, z] at this
    exact absurd this (Nat.lt_irrefl _)
  obtain ⟨nm, qn, N, bs, bm, sn, sub, ab, col, dd, k0, k1, k2, k3, k5, hC, hbm⟩ := Z.T.cls
  have hcl : clsIn K C = some { name := nm, bases := bs, mro := .ref C :: bm, ns := N, qualname := qn, hasDict := true, slotNames := sn, subclasses := sub, abstract := ab, collection := col, hasDel := false } := by unfold clsIn; rw [hC] <;> rfl
  have hsubC : mroIn K C (.ref C) = some true := by
    unfold mroIn
    rw [hcl, Option.bind_some, if_neg (by simp)]
    simp
  obtain ⟨mb, hb1, hb2⟩ := M.blt
  have eC : e ≠ C := fun z => by rw [z, hC] at hKe; cases hKe
  generalize hEr : (fun (er : Value) (s' : Shared) => wpAny (model prog w) (A.deeper (callEnv _ h2.objs.size fI)) (leaving (callEnv _ h2.objs.size fI) er) (fun _ s'' => R (.error er) s'') (fun e' s'' => R (.error e') s'') s') = Er
  show _root_.PySem.wpAt (model prog w) (A.deeper (ksEnv qual scope h2.objs.size fI (.ref cda) cc)) (.func _ (ksEnv qual scope h2.objs.size fI (.ref cda) cc)) (execs _ (ksEnv qual scope h2.objs.size fI (.ref cda) cc)) _ _ _
  have hform : methodCallForm (args.length + ([] : List Keyword).length) (backTo cp (starEach args (ksEnv qual scope h2.objs.size fI (.ref cda) cc))) (backToKw cp (keywordEach [] (ksEnv qual scope h2.objs.size fI (.ref cda) cc))) = true := by
    unfold methodCallForm
    rw [argB_plain hargs]
    simp [backToKw, keywordEach]
    omega
  refine ks_wpAt_execs_cons (ks_wpAt_Expr_any (hi := by unfold interactive; simp [hk]) (ks_wpAt_MethodCall (he := eval_mc hform hline) ?_))
  refine ks_wpAt_super_base (env := ksEnv qual scope h2.objs.size fI (.ref cda) cc) hks hkc (by decide) rfl (kin1 _ _ lk) rfl har rfl (kin1 _ _ lcd) rfl hvs hfile Z.top ?_
  refine ks_loadName_global hk hks (loadGlobal_builtin (env := ksEnv qual scope h2.objs.size fI (.ref cda) cc) (M.glob.keeps bk1) Z.sup (hb1.keeps bk1) ((hb2 "super" (by decide)).trans boot_super) ⟨rfl, ?_⟩)
  refine wpAny_loadName_free hk hkc rfl ⟨_, kin1 _ _ lcc, rfl⟩ ?_
  rw [hsl]
  refine wpAny_loadName_local hk (hloc sl (by simp)) hns (look 0 sl _ rfl rfl) ?_
  refine ks_wpAny_isType_cls (kin1 _ _ hC) rfl ⟨rfl, ?_⟩
  refine ks_wpAny_call_super (kin1 _ _ hC) rfl (hk1 _ _ he) rfl (fun c z => by cases z) (looks_mroIn kin1 hsubC) (fun h3 e3 q3 => ?_)
  have kin3 : K.In h3 := kin1.keeps q3
  have hm3 : Looks (model prog w) h3 (mroOf (.ref C)) (.ref C :: bm) := (looks_clsIn kin3 hcl).andThen .now
  have hal : alongIn K "__init__" (((Value.ref C :: bm).dropWhile (· != .ref C)).drop 1) = some (some (.builtin "ValueError.__init__")) := by
    have := Z.alg
    unfold ks_superIn at this
    rw [hcl] at this
    exact this
  have I3 : InstAt h3 e (PySem.HandSPX.excO C t0) C none := ⟨q3 _ _ (hk1 _ _ he), rfl, rfl, trivial⟩
  refine kxs_getMethod kxs_ValueError e3 (looks_opaque kin3 Z.opq) hm3 rfl kin3 hal (I3.type.andThen (looks_subIn kin3 Z.sub)) eC (by decide) ?_
  have q4 : ∀ b o, h3.get? b = some o → (h3.push (kxs_mw "ValueError.__init__" e)).get? b = some o := fun b o z => Heap.get?_push_of_some _ z
  have hu4 : (h3.push (kxs_mw "ValueError.__init__" e)).get? h3.objs.size = some (kxs_mw "ValueError.__init__" e) := Heap.get?_push_at rfl rfl
  have k4 : ∀ b o, h2.get? b = some o → (h3.push (kxs_mw "ValueError.__init__" e)).get? b = some o := fun b o z => q4 _ _ (q3 _ _ (hk1 _ _ z))
  have kin4 : K.In (h3.push (kxs_mw "ValueError.__init__" e)) := kin3.keeps q4
  have ns4 : (h3.push (kxs_mw "ValueError.__init__" e)).Ns h2.objs.size (fun x => ((sl :: ps).zip (Value.ref e :: us)).reverse.lookup x) := hns.keeps fun b o z => q4 _ _ (q3 _ _ z)
  have par : ∀ (i : Nat) (x : Str) (u : Value), ps[i]? = some x → us[i]? = some u → ((sl :: ps).zip (Value.ref e :: us)).reverse.lookup x = some u ∧ (ksEnv qual scope h2.objs.size fI (.ref cda) cc).kindOf x = some .local ∧ okN x = true := fun i x u hx hu =>
    ⟨look (i + 1) x u (by simpa using hx) (by simpa using hu), hloc x (List.mem_cons_of_mem _ (List.mem_of_getElem? hx)), hok x (List.mem_cons_of_mem _ (List.mem_of_getElem? hx))⟩
  generalize h3.push (kxs_mw "ValueError.__init__" e) = h4 at q4 hu4 k4 kin4 ns4 ⊢
  have hany : (backTo cp (starEach args (ksEnv qual scope h2.objs.size fI (.ref cda) cc))).any (·.1) = false := by
    have := argB_plain (env := ksEnv qual scope h2.objs.size fI (.ref cda) cc) (cp := cp) hargs
    rw [List.all_eq_not_any_not] at this
    simpa using this
  refine kxs_callWith (i := "ValueError.__init__") (x := e) hany ?_
  have spl : ∀ (Q : List Value → Shared → Prop) (Er : Value → Shared → Prop) (tt : Nat), Q us ⟨h4, g, d, tt, os⟩ → wpAny (model prog w) (A.deeper (ksEnv qual scope h2.objs.size fI (.ref cda) cc)) (spliced (backTo cp (starEach args (ksEnv qual scope h2.objs.size fI (.ref cda) cc)))) Q Er ⟨h4, g, d, tt, os⟩ :=
    fun Q Er tt q => args_go hk ns4 ps us args Q hargs (by rw [hl, hpl]) par q
  cases args with
  | nil =>
    cases ps with
    | nil => exact absurd rfl hpn
    | cons _ _ => simp [argB] at hargs
  | cons a0 ar0 =>
  cases ps with
  | nil => exact absurd rfl hpn
  | cons x0 ps =>
  cases a0 <;> first | (simp [argB] at hargs; done) | skip
  refine evalArgs_plain (spl _ _ _ ⟨hu4, ?_⟩)
  refine sup_call Z.T kin4 (k4 _ _ he) hu4 (Nat.le_trans hz (by decide)) fun h5 t1 k5 e5 => ?_
  refine wpAt_of_wpAny ?_
  have kk5 : ∀ b o, b ≠ e → h2.get? b = some o → h5.get? b = some o := fun b o hb z => k5 b o hb (k4 b o z)
  have kin5 : K.In h5 := fun b o z => k5 b o (fun y => by rw [y, hKe] at z; cases z) (kin4 b o z)
  have eL : e ≠ h2.objs.size := Nat.ne_of_lt (Heap.lt_size he)
  have ns5 : h5.Ns h2.objs.size (fun x => ((sl :: x0 :: ps).zip (Value.ref e :: us)).reverse.lookup x) := ns_keep ns4 fun o z => k5 _ o (Ne.symm eL) z
  cases fs with
  | nil => simp at hpl
  | cons f0 fs =>
  cases us with
  | nil => simp at hl
  | cons u0 us =>
  cases ss with
  | nil => simp [stoB] at hss
  | cons s0 ss =>
  obtain ⟨_, _, _, _, rfl, hss2⟩ := stoB_inv hss
  obtain ⟨a1, a2, a3⟩ := par 0 x0 u0 rfl rfl
  have osl : okN sl = true := hok sl (by simp)
  have ksl : (ksEnv qual scope h2.objs.size fI (.ref cda) cc).kindOf sl = some .local := hloc sl (by simp)
  refine wpAny_execs_cons (plainObj_wpAny_Assign_Attribute (rd hk a2 ns5 a1 a3 (rd hk ksl ns5 (look 0 sl _ rfl rfl) osl ?_)))
  refine set_plain kin5 (ox := PySem.HandSPX.excO C t1) (od := none) ⟨e5, rfl, rfl, trivial⟩ Z.T.sa ?_
  refine PySem.HandSPX.exc_osa kin5 e5 hcl (show PySem.HandSPX.refsVE (.ref C :: bm) = true from hbm) rfl (Z.fld f0 (by simp)) (fun h6 t6 dx k6 dn dne hx6 n6 => ?_)
  have hsz : h2.objs.size ≤ h5.objs.size := by
    have z := ns5
    obtain ⟨o, es, ep, ho, hr⟩ := z
    exact Nat.le_of_lt (Heap.lt_size ho)
  have dxn : h5.get? dx = none := by
    cases z : h5.get? dx with
    | none => rfl
    | some o => exact absurd (Heap.lt_size z) (Nat.not_lt.mpr dn)
  have Ldx : h2.objs.size ≠ dx := fun z => by
    obtain ⟨o, es, ep, ho, hr⟩ := ns5
    rw [z, dxn] at ho; cases ho
  have ns6 : h6.Ns h2.objs.size (fun x => ((sl :: x0 :: ps).zip (Value.ref e :: u0 :: us)).reverse.lookup x) := ns_keep ns5 fun o z => k6 _ o (Ne.symm eL) z
  have kin6 : K.In h6 := fun b o z => k6 b o (fun y => by rw [y, hKe] at z; cases z) (kin5 b o z)
  refine sto_old (m := fun x => ((sl :: x0 :: ps).zip (Value.ref e :: u0 :: us)).reverse.lookup x) (dx := dx) (e := e) Z.T hk rfl (look 0 sl _ rfl rfl) ksl osl (fs.zip ps) us ss h6 t6 t1 [f0] _ _ hss2 ?_ kin6 ns6 Ldx (Ns0 kin5 dxn) hx6 n6 ?_ ?_ (Ne.symm dne) ?_ fun h7 t7 k7 n7 => ?_
  · simp at hl hpl ⊢; omega
  · intro y hy
    by_cases hyf : y = f0
    · simp [hyf]
    · exact absurd (if_neg hyf) hy
  · simp at hz hl hpl ⊢; omega
  · intro i p u hp hu
    have hpp := List.getElem?_zip_eq_some.mp hp
    obtain ⟨b1, b2, b3⟩ := par (i + 1) p.2 u (by simpa using hpp.2) (by simpa using hu)
    exact ⟨b1, b2, b3, Z.fld p.1 (List.mem_cons_of_mem _ (List.mem_of_getElem? hpp.1))⟩
  · refine hR h7 t7 dx t1 (fun b o hb z => k7 b o (fun y => ?_) (k6 b o hb (kk5 b o hb z))) (Nat.le_trans hsz dn) dne (k7 _ _ (Ne.symm dne) hx6) ?_
    · have := kk5 b o hb z
      rw [y, dxn] at this; cases this
    · have : (fun y => (((f0 :: fs).zip (u0 :: us)).reverse.lookup y)) = (fun y => match (((fs.zip ps).map (·.1)).zip us).reverse.lookup y with | some v => some v | none => if y = f0 then some u0 else none) := by
        have em : (fs.zip ps).map (·.1) = fs := by
          rw [List.map_fst_zip]
          simp at hpl; omega
        funext y
        rw [em, List.zip_cons_cons, List.reverse_cons, List.lookup_append]
        cases (fs.zip us).reverse.lookup y with
        | some v => rfl
        | none =>
          by_cases hy : y = f0
          · subst hy; simp [List.lookup]
          · have e : (y == f0) = false := by simpa using hy
            simp [List.lookup, e, hy]
      rw [this]
      exact n7
end
theorem rel_zip : ∀ {fs : List Str} {vs : List V} {us : List Value}, Vals vs us → ∀ f, L2.RelO ((fs.zip vs).reverse.lookup f) ((fs.zip us).reverse.lookup f)
  | [], vs, us, r, f => by simp; trivial
  | g :: fs, [], us, r, f => by cases r; simp; trivial
  | g :: fs, v :: vs, us, r, f => by
    cases r with
    | cons r1 r2 =>
      rw [List.zip_cons_cons, List.zip_cons_cons, List.reverse_cons, List.reverse_cons, List.lookup_append, List.lookup_append]
      have ih := rel_zip (fs := fs) r2 f
      revert ih
      generalize (fs.zip vs).reverse.lookup f = A
      generalize (fs.zip _).reverse.lookup f = B
      intro ih
      cases A with
      | some a =>
        cases B with
        | some b => exact ih
        | none => exact ih.elim
      | none =>
        cases B with
        | some b => exact ih.elim
        | none =>
          by_cases hf : f = g
          · subst hf; simp [List.lookup]; exact r1
          · have e : (f == g) = false := by simpa using hf
            simp [List.lookup, e]; trivial
/-- C(e, ..) makes such an exception -/
theorem mkx_of {X : Cx} {x : Str} {C fI : Addr} {fs : List Str} (Z : XiC X.prog X.K X.mg C fI fs) (hr : L2H.RoomH 1 X.A) (hg : Gl X x) (hm : X.mg x = some (.ref C)) (hdb : (x == ("__debug__" : Str)) = false) (hfl : fs.length ≤ 1000) : MkX X x C fs := by
  intro e es ta p pos ha he hpl pins s σ H Q I h
  obtain ⟨nm, q, N, bs, bm, sn, sub, ab, col, dd, k0, k1, k2, k3, k5, hC, hbm⟩ := Z.T.cls
  refine wpAny_Call_Name_kw (ld_glob I hg hm ?_ hdb)
  refine callWith_K (h₀ := X.base) I.ok.mod.kin Z.T.kC (thn (ha.run pos pins s σ H _ I h) fun us s1 ⟨vs, H1, I1, r1, hvl, q1⟩ => ⟨I1.kIn, ?_⟩) he hpl
  show wpAny _ _ (call (.ref C) us) _ _ _
  obtain ⟨hp, g, dr, tk, os⟩ := s1
  have hul : us.length = fs.length := by rw [← Paired.length r1]; exact hvl
  generalize hA : hp.objs.size + 1 = a
  have hsz : hp.objs.size ≤ a := by rw [← hA]; exact Nat.le_succ _
  have hn : H1 a = none := I1.hok.fresh hsz
  let hp2 := (hp.push (kdv_tup us)).push (PySem.HandSPX.excO C hp.objs.size)
  have kk : ∀ b o, hp.get? b = some o → hp2.get? b = some o := fun b o z => Heap.get?_push_of_some _ (Heap.get?_push_of_some _ z)
  have hget : hp2.get? a = some (PySem.HandSPX.excO C hp.objs.size) := by rw [← hA]; show ((hp.push (kdv_tup us)).push (PySem.HandSPX.excO C hp.objs.size)).get? (hp.objs.size + 1) = _; heap_get
  have I2 : Inv X pins σ (upd H1 a (exo a C none)) ⟨hp2, g, dr, tk, os⟩ := I1.laid (t' := tk) (a := a) (o := exo a C none) (h' := hp2) kk hsz (exo_ok hget)
  have be : X.base.get? a = none := by
    cases z : X.base.get? a with
    | none => rfl
    | some o => exact absurd (Heap.lt_size (I1.bk _ _ z)) (Nat.not_lt.mpr hsz)
  have hroom : (X.A.under (.builtin "type.__call__" ⟨.ref C :: us, []⟩)).depth < recursionLimit := by have := hr.dp; rw [make_depth]; omega
  refine wpAny_call (PySem.HandSPX.call_own F.excBase_ValueError (fun Y => PySem.HandSPX.refsVE_contains Y bm hbm) (I1.kIn _ _ hC) (looks_findIn I1.kIn Z.iC) (fun self => bind_fn I1.kIn self Z.tI) (by rw [hul]; exact Nat.le_trans hfl (by decide)) ?_)
  rw [hA]
  refine xi_run (h2 := hp2) Z I2.ok.mod I2.bk be hroom hul (by omega) hget fun h' tk' dx t1 k dn dne hx hns => ?_
  have dn0 : hp.objs.size ≤ dx := Nat.le_trans (by
    show hp.objs.size ≤ ((hp.push (kdv_tup us)).push (PySem.HandSPX.excO C hp.objs.size)).objs.size
    simp [Heap.push]
    omega) dn
  have hnd : H1 dx = none := I1.hok.fresh dn0
  have nd : ∀ {b : Addr} {o : Obj}, hp2.get? b = some o → b ≠ dx := fun {b o} z => Nat.ne_of_lt (Nat.lt_of_lt_of_le (Heap.lt_size z) dn)
  have na : ∀ {b : Addr}, upd H1 a (exo a C none) b = none → b ≠ a := fun {b} n z => by rw [z, upd_same] at n; cases n
  let F := (fs.zip vs).reverse
  let H2 : Hp := upd (upd (upd H1 a (exo a C none)) dx (exd dx F)) a (exo a C (some dx))
  have h2a : H2 a = some (exo a C (some dx)) := upd_same
  have h2d : H2 dx = some (exd dx F) := by show upd (upd _ _ _) _ _ _ = _; rw [upd_ne dne, upd_same]
  have h2o : ∀ {b : Addr}, b ≠ a → b ≠ dx → H2 b = H1 b := fun {b} n1 n2 => by show upd (upd (upd _ _ _) _ _) _ _ _ = _; rw [upd_ne n1, upd_ne n2, upd_ne n1]
  have un : Un (frs X.stack) [] (upd H1 a (exo a C none)) H2 hp2 h' := {
    keep := fun b o z n _ _ => k b o (na n) z
    slot := fun b o z n _ _ => ⟨o.slots, k b o (na n) z⟩
    free := fun b o z n _ => by rw [h2o (na n) (nd z)]; rw [upd_ne (na n)] at n; exact n
    there := fun b o z _ => by
      by_cases hb : b = a
      · exact ⟨_, by rw [hb]; exact hx⟩
      · exact ⟨o, k b o hb z⟩
    tups := fun b xs z => by
      have hb : b ≠ a := fun y => by rw [y, upd_same] at z; exact exo_tup (Option.some.inj z)
      rw [upd_ne hb] at z
      rw [h2o hb (ne_of_none z hnd)]; exact z
    frzs := fun b o v z => by
      have hb : b ≠ a := fun y => by rw [y, upd_same] at z; exact exo_frz (Option.some.inj z)
      rw [upd_ne hb] at z
      rw [h2o hb (ne_of_none z hnd)]; exact z
    tbls := fun b ps z => by
      have hb : b ≠ a := fun y => by rw [y, upd_same] at z; exact exo_tbl (Option.some.inj z)
      rw [upd_ne hb] at z
      exact ⟨#[], by rw [h2o hb (ne_of_none z hnd), z]; simp⟩ }
  have rel : ∀ f, L2.RelO (F.lookup f) ((fs.zip us).reverse.lookup f) := fun f => rel_zip r1 f
  have hok : HOk X.prog X.w H2 h' := fun b o z => by
    by_cases hb : b = a
    · subst hb
      rw [h2a] at z
      cases z
      exact exo_ok hx
    · by_cases hd : b = dx
      · subst hd
        rw [h2d] at z
        cases z
        exact exd_ok hns rel
      · rw [h2o hb hd] at z
        have z2 : upd H1 a (exo a C none) b = some o := by rw [upd_ne hb]; exact z
        refine (I2.hok b o z2).stay (fun c v hc y => k c v ?_ y) (fun c hc => ?_) (fun c xs hc => ?_)
        · rcases hc with hc | hc
          · rw [hc]; exact hb
          · exact fun y => by rw [y, upd_same] at hc; exact exo_own (Option.some.inj hc)
        · have hca : c ≠ a := fun y => by rw [y, upd_same] at hc; exact exo_own (Option.some.inj hc)
          rw [upd_ne hca] at hc
          rw [h2o hca (ne_of_none hc hnd)]; exact hc
        · have hca : c ≠ a := fun y => by rw [y, upd_same] at hc; exact exo_tup (Option.some.inj hc)
          rw [upd_ne hca] at hc
          rw [h2o hca (ne_of_none hc hnd)]; exact hc
  have eq : upd (del H2 a) dx (.xd F) = upd H1 dx (.xd F) := by
    funext b
    by_cases hd : b = dx
    · rw [hd, upd_same, upd_same]
    · rw [upd_ne hd, upd_ne hd]
      by_cases hb : b = a
      · rw [hb, del_same, hn]
      · rw [del_ne hb, h2o hb hd]
  obtain ⟨t0, G, J, kG, ge, hoe, nad⟩ := mk_end0 (d2 := dr) (t2 := tk') I1 hsz kk un hok rfl I1.bare h2a h2d hnd
  refine ⟨rfl, ⟨a, _, _, ⟨G, g, dr, tk', os⟩, _, .ref C, some dx, rfl, J, kG, ge, hoe, ⟨rfl, rfl, fun vs hv => ?_⟩, rfl, rfl, nad, rfl, I1.bare, raises_own Z.T.exC Z.T.tyC, ?_⟩, fun b oe vs eb hg2 hd2 => ?_⟩
  · cases hv
    rfl
  · rw [eq]
    exact q1 dx hnd
  · cases eb
    have hg3 : h'.get? a = some oe := hg2
    rw [hoe] at hg3
    cases hg3
    cases hd2
    show (4 : Nat) < 6
    decide
end DL
set_option maxHeartbeats 8000000
namespace DL
open PySem PySem.Spec PySem.W PySem.Calls PyProof.Rows L2
theorem zip_look : ∀ (ns : List Str) (us : List Value), us.length = ns.length → ∀ n ∈ ns, ((ns.zip us).lookup n).isNone = false
  | [], _, _, n, h => by simp at h
  | m :: ns, [], hl, n, h => by simp at hl
  | m :: ns, u :: us, hl, n, h => by
    rw [List.zip_cons_cons, List.lookup_cons]
    cases e : (n == m) with
    | true => rfl
    | false =>
      have : n ≠ m := by simpa using e
      exact zip_look ns us (by simpa using hl) n (by simpa [this] using h)
theorem zip_fm : ∀ (ns : List Str) (us : List Value), us.length = ns.length → ns.Nodup → ns.filterMap (fun n => ((ns.zip us).lookup n).map (n, ·)) = ns.zip us
  | [], us, _, _ => by simp
  | m :: ns, [], hl, _ => by simp at hl
  | m :: ns, u :: us, hl, hn => by
    rw [List.nodup_cons] at hn
    rw [List.zip_cons_cons, List.filterMap_cons]
    have e0 : (((m, u) :: ns.zip us).lookup m).map (m, ·) = some (m, u) := by simp [List.lookup]
    rw [e0]
    show (m, u) :: _ = (m, u) :: _
    congr 1
    have ih := zip_fm ns us (by simpa using hl) hn.2
    have gen : ∀ l : List Str, (∀ n ∈ l, n ≠ m) → l.filterMap (fun n => (((m, u) :: ns.zip us).lookup n).map (n, ·)) = l.filterMap (fun n => ((ns.zip us).lookup n).map (n, ·)) := fun l => by
      induction l with
      | nil => intro _; rfl
      | cons a l ihl =>
        intro h
        have : (a == m) = false := by simpa using h a (by simp)
        rw [List.filterMap_cons, List.filterMap_cons, List.lookup_cons, this, ihl fun n hn => h n (List.mem_cons_of_mem _ hn)]
    rw [gen ns fun n h z => hn.1 (by rw [← z]; exact h)]
    exact ih
theorem bind_pos {fd : FuncData} {as : List Arg} {us : List Value} (hp : fd.params = ⟨[], as, none, [], [], none, []⟩) (hd : fd.defaults = .none) (hl : us.length = as.length) (hn : (as.map (·.arg)).Nodup) : bindArgs fd ⟨us, []⟩ = pure ((as.map (·.arg)).zip us) := by
  have hl' : us.length = (as.map (·.arg)).length := by simpa using hl
  have miss : (as.map (·.arg)).filter (fun n => (((as.map (·.arg)).zip us).lookup n).isNone) = [] := by
    rw [List.filter_eq_nil_iff]
    intro n h
    rw [zip_look _ us hl' n h]
    simp
  have fm := zip_fm (as.map (·.arg)) us hl' hn
  unfold bindArgs
  simp only [hp, hd]
  show _ = _
  generalize as.map (·.arg) = ns at hl' miss fm ⊢
  have hgt : ¬ us.length > ns.length := by omega
  simp only [List.map_nil, List.nil_append, List.append_nil, List.forIn_nil, seqItems?, pure_bind, nostand, Option.getD, List.length_nil, List.drop_nil, Nat.sub_zero, List.take_length, miss, List.drop_length, List.zip_nil_right, List.isEmpty_nil, hgt, Nat.zero_sub]
  simp [hl', miss, fm]
theorem posA_bind {fd : FuncData} {ps : List Str} (h : posA fd.params = some ps) (hd : fd.defaults = .none) (us : List Value) (hl : us.length = ps.length) : bindArgs fd ⟨us, []⟩ = pure (ps.zip us) := by
  obtain ⟨as, e, rfl, hn⟩ := posA_ok h
  exact bind_pos e hd (by simpa using hl) hn
def kndB (sc : Scope) (l : List Str) : Bool := l.all fun x => decide (sc.names.lookup x = some .local) && okN x
/-- the class object -/
def oexB (K : Fg) (C : Addr) : Bool := match K.lookup C with
  | some ⟨.type ty, _, .cls cd, sl⟩ => (match cd.mro, sl.toList with
    | .ref C' :: bm, [_, _, _, _, some (.builtin n), _] => decide (ty = "type") && decide (C' = C) && decide (n = "ValueError.__new__") && !cd.hasDel && cd.hasDict && PySem.HandSPX.refsVE bm
    | _, _ => false)
  | _ => false
theorem oexB_ok {K : Fg} {C : Addr} (h : oexB K C = true) : ∃ nm q N bs bm sn sub ab col dd k0 k1 k2 k3 k5, K.lookup C = some (excClassObj nm q C N bs bm true sn sub ab col dd k0 k1 k2 k3 k5 "ValueError.__new__") ∧ PySem.HandSPX.refsVE bm = true := by
  unfold oexB at h
  split at h
  · rename_i ty dd cd sl ho
    split at h
    · rename_i C' bm k0 k1 k2 k3 n k5 hm hs
      simp only [Bool.and_eq_true, decide_eq_true_eq, Bool.not_eq_true'] at h
      obtain ⟨⟨⟨⟨⟨rfl, rfl⟩, rfl⟩, hdel⟩, hdict⟩, ht⟩ := h
      obtain ⟨nm, bs, mro, ns, qn, hd, sn, sub, ab, col, del⟩ := cd
      dsimp only at hm hdel hdict
      subst hm hdel hdict
      obtain ⟨l⟩ := sl
      have hl : l = [k0, k1, k2, k3, some (.builtin "ValueError.__new__"), k5] := hs
      subst hl
      exact ⟨nm, qn, ns, bs, bm, sn, sub, ab, col, dd, k0, k1, k2, k3, k5, ho, ht⟩
    · cases h
  · cases h
def codeB (prog : Program) (K : Fg) (cda : Addr) : Bool := match K.lookup cda with
  | some ⟨_, _, .fields vs, _⟩ => (match (vs[2]? : Option Value) with
    | some (.str file _) => ((prog.main.file : Str) == file)
    | _ => false)
  | _ => false
def celB (K : Fg) (C cc : Addr) : Bool := match K.lookup cc with
  | some ⟨_, _, .cell (some (.ref D)), _⟩ => decide (D = C)
  | _ => false
def iniF (prog : Program) (K : Fg) (C fI : Addr) (fs : List Str) : Bool := match K.lookup fI with
  | some ⟨_, _, .func fd, _⟩ => (match fd.body, fd.closure, fd.code, fd.defaults, posA fd.params with
    | .stmts body, [(cn, cc)], .ref cda, .none, some (sl :: ps) => decide (cn = "__class__") && decide (fd.globals = mainGlobals) && decide (fd.builtins = builtinsNs) && codeIn K (.ref cda) fd.qualname && codeB prog K cda && celB K C cc && decide (ps.length = fs.length) && decide (ps ≠ []) && decide (fs.Nodup) &&
        iniB sl ps fs body && kndB fd.scope (sl :: ps) && (fd.scope.names.all fun x => decide (x.2 ≠ .cell)) && !fd.scope.isCoroutine && !fd.scope.isGenerator && decide (fd.scope.kind = .function) && decide (fd.scope.names.lookup ("super" : Str) = some .globalImplicit) && decide (fd.scope.names.lookup ("__class__" : Str) = some .free)
    | _, _, _, _, _ => false)
  | _ => false
/-- all of it; x: the class's name -/
def xiB (prog : Program) (K : Fg) (x : Str) (fs : List Str) : Bool :=
  oexB K (He.ga K x) && He.eqO (findIn K (.ref (He.ga K x)) "__setattr__") (some (some (.builtin "object.__setattr__"))) && decide (subIn K (.ref (He.ga K x)) (.type "BaseException") = some true) && decide (typeIn K (.ref (He.ga K x)) = some (.type "type")) && keepIn K (.ref (He.ga K x)) &&
  He.eqO (findIn K (.ref (He.ga K x)) "__init__") (some (some (.ref (He.ma K (He.ga K x) "__init__")))) && decide (typeIn K (.ref (He.ma K (He.ga K x) "__init__")) = some (.type "function")) && iniF prog K (He.ga K x) (He.ma K (He.ga K x) "__init__") fs &&
  !(prog.main.scope.names.lookup ("super" : Str)).isSome && He.eqO (nsIn K cStatics "thirdparty.any") (some none) && He.eqO (ks_superIn K (He.ga K x) (He.ga K x) "__init__") (some (some (.builtin "ValueError.__init__"))) && decide (subIn K (.ref (He.ga K x)) (.type "ValueError") = some true) &&
  fs.all fun f => He.eqO (findIn K (.ref (He.ga K x)) f) (some none)
theorem kndB_ok {sc : Scope} {l : List Str} (h : kndB sc l = true) : (∀ x ∈ l, sc.names.lookup x = some .local) ∧ ∀ x ∈ l, okN x = true := by
  have := List.all_eq_true.mp h
  refine ⟨fun x hx => ?_, fun x hx => ?_⟩
  · exact of_decide_eq_true (ba2 (this x hx)).1
  · exact (ba2 (this x hx)).2
theorem iniF_ok {prog : Program} {K : Fg} {C fI : Addr} {fs : List Str} (h : iniF prog K C fI fs = true) : ∃ (name qual : Str) (params : Arguments) (body : List Stmt) (scope : Scope) (dV kV doc pm ct oc : Value) (an od : Option Addr) (osl : Array (Option Value)) (cda cc : Addr) (sl : Str) (ps : List Str) (ar : Arg),
    K.lookup fI = some ⟨oc, od, .func (ksFn name qual params body scope dV kV doc pm an (.ref cda) ct cc), osl⟩ ∧ codeIn K (.ref cda) qual = true ∧
    (∃ ccl cdd vs ccs file tf, K.lookup cda = some ⟨ccl, cdd, .fields vs, ccs⟩ ∧ vs[2]? = some (.str file tf) ∧ ((prog.main.file : Str) == file) = true) ∧
    (∃ cl cld csl, K.lookup cc = some ⟨cl, cld, .cell (some (.ref C)), csl⟩) ∧
    (params.posonlyargs ++ params.args).head? = some ar ∧ ar.arg = sl ∧ ps.length = fs.length ∧ ps ≠ [] ∧ fs.Nodup ∧
    (∀ us : List Value, us.length = ps.length + 1 → bindArgs (ksFn name qual params body scope dV kV doc pm an (.ref cda) ct cc) ⟨us, []⟩ = pure ((sl :: ps).zip us)) ∧
    iniB sl ps fs body = true ∧ (sl :: ps).Nodup ∧ (∀ x ∈ sl :: ps, scope.names.lookup x = some .local) ∧ (∀ x ∈ sl :: ps, okN x = true) ∧ (∀ x ∈ scope.names, x.2 ≠ .cell) ∧ scope.isCoroutine = false ∧ scope.isGenerator = false ∧ scope.kind = .function ∧
    scope.names.lookup ("super" : Str) = some .globalImplicit ∧ scope.names.lookup ("__class__" : Str) = some .free := by
  unfold iniF at h
  split at h
  · rename_i oc od fd osl ho
    split at h
    · rename_i body cn cc cda sl ps hbody hclo hcode hdf hpos
      simp only [Bool.and_eq_true, decide_eq_true_eq, Bool.not_eq_true'] at h
      obtain ⟨⟨⟨⟨⟨⟨⟨⟨⟨⟨⟨⟨⟨⟨⟨⟨rfl, hg⟩, hb⟩, h1⟩, h2⟩, h3⟩, h4⟩, h5⟩, h6⟩, h7⟩, h8⟩, h9⟩, h10⟩, h11⟩, h12⟩, h13⟩, h14⟩ := h
      obtain ⟨as, ep, eas, hnd⟩ := posA_ok hpos
      have bnd := posA_bind hpos hdf
      obtain ⟨n1, n2, n3, n4, n5, n6, n7, n8, n9, n10, n11, n12, n13, n14, n15⟩ := fd
      dsimp only at hbody hclo hcode hdf hpos hg hb h1 ep h8 h9 h10 h11 h12 h13 h14
      subst hbody hclo hcode hdf hg hb ep
      obtain ⟨k1, k2⟩ := kndB_ok h8
      refine ⟨n1, n2, ⟨[], as, none, [], [], none, []⟩, body, n5, .none, n9, n10, n11, n14, oc, n12, od, osl, cda, cc, sl, ps, ?_⟩
      cases as with
      | nil => cases eas
      | cons ar as =>
        refine ⟨ar, ho, h1, ?_, ?_, rfl, (List.cons.inj eas).1, h4, h5, h6, fun us hl => bnd us (by simpa using hl), h7, hnd, k1, k2, fun x hx => of_decide_eq_true (List.all_eq_true.mp h9 x hx), h10, h11, h12, h13, h14⟩
        · unfold codeB at h2
          split at h2
          · rename_i a b vs c e
            split at h2
            · rename_i file tf e2
              exact ⟨_, _, vs, _, file, tf, e, e2, h2⟩
            · cases h2
          · cases h2
        · unfold celB at h3
          split at h3
          · rename_i a b D c e
            cases of_decide_eq_true h3
            exact ⟨_, _, _, e⟩
          · cases h3
    · cases h
  · cases h
theorem xiB_ok {prog : Program} {K : Fg} {mg : Str → Option Value} {x : Str} {fs : List Str} (h : xiB prog K x fs = true) (hs : mg "super" = none) : XiC prog K mg (He.ga K x) (He.ma K (He.ga K x) "__init__") fs := by
  unfold xiB at h
  obtain ⟨h, a13⟩ := ba2 h
  obtain ⟨h, a12⟩ := ba2 h
  obtain ⟨h, a11⟩ := ba2 h
  obtain ⟨h, a10⟩ := ba2 h
  obtain ⟨h, a9⟩ := ba2 h
  obtain ⟨h, a8⟩ := ba2 h
  obtain ⟨h, a7⟩ := ba2 h
  obtain ⟨h, a6⟩ := ba2 h
  obtain ⟨h, a5⟩ := ba2 h
  obtain ⟨h, a4⟩ := ba2 h
  obtain ⟨h, a3⟩ := ba2 h
  obtain ⟨a1, a2⟩ := ba2 h
  exact ⟨⟨oexB_ok a1, He.eqO_ok a2, of_decide_eq_true a3, of_decide_eq_true a4, a5⟩, He.eqO_ok a6, of_decide_eq_true a7, iniF_ok a8, hs, by simpa using a9, He.eqO_ok a10, He.eqO_ok a11, of_decide_eq_true a12, fun f hf => He.eqO_ok (List.all_eq_true.mp a13 f hf)⟩
end DL
set_option maxHeartbeats 8000000
namespace DL
open PySem PySem.Spec PyProof.Rows L2
inductive Kc where
  | non | bl (b : Bool) | int (i : Int) | str (x : Str)
def Kc.D : Kc → D
  | .non => .non
  | .bl b => .bl b
  | .int i => .int i
  | .str x => .str x
def Kc.V : Kc → V
  | .non => .non
  | .bl b => .bl b
  | .int i => .int i
  | .str x => .str x
def Kc.chk : Kc → Stmt → Bool
  | .non, .Return (some (.Constant .none _ _)) _ => true
  | .bl b, .Return (some (.Constant (.bool c) _ _)) _ => decide (b = c)
  | .int b, .Return (some (.Constant (.int c) _ _)) _ => decide (b = c)
  | .str b, .Return (some (.Constant (.str c) _ _)) _ => decide (b = c)
  | _, _ => false
theorem Kc.ok {X : Cx} {k : Kc} {st : Stmt} (h : k.chk st = true) : PS X st (tRet (tC k.V)) := by
  cases k <;> (cases st <;> first | (simp [Kc.chk] at h; done) | skip) <;> rename_i o p <;> (rcases o with _ | e <;> first | (simp [Kc.chk] at h; done) | skip) <;> (cases e <;> first | (simp [Kc.chk] at h; done) | skip) <;> rename_i c j q <;> (cases c <;> first | (simp [Kc.chk] at h; done) | skip)
  · exact ps_ret pe_non
  · simp only [Kc.chk, decide_eq_true_eq] at h; subst h; exact ps_ret pe_bl
  · simp only [Kc.chk, decide_eq_true_eq] at h; subst h; exact ps_ret pe_int
  · simp only [Kc.chk, decide_eq_true_eq] at h; subst h; exact ps_ret pe_str
theorem Kc.rel {K : Fg} {R : Rg} {H : Hp} (k : Kc) : RelD K R H k.D k.V := by
  cases k <;> (unfold Kc.D Kc.V RelD; rfl)
section
variable {X : Cx} {C : Cn} {Wx : WX}
end
end DL
set_option maxHeartbeats 8000000
namespace DL
open PySem PySem.Spec PyProof.Rows L2
section
variable {X : Cx} {C : Cn} {Wx : WX}
end
end DL
set_option maxHeartbeats 8000000
namespace DL
open PySem PySem.Spec PyProof.Rows L2
theorem sw2 {a b : Expr} {x y : Str} {px py pt pt2 : Pos} {kt k2 : Nat} {env : PySem.Env} (hb : env.blockKind = .function) (hx : env.kindOf x = some .local) (hy : env.kindOf y = some .local) (hl : py.line = px.line) (hxy : x ≠ y) (sa : noStar a = true) (sb : noStar b = true)
    (hf : [a, b].all (foldedForSure 8) = false) (hc : [a, b].all (constantsAlone 8) = false) : swappedStores [.Tuple [.Name x px, .Name y py] kt pt] (.Tuple [a, b] k2 pt2) env = pure (some [x, y]) := by
  unfold swappedStores
  have hxy' : (y == x) = false := by simpa using Ne.symm hxy
  have e0 : ∀ (f : Expr → Bool), f a = false → f b = false → [a, b].any f = false := fun f h1 h2 => by simp [h1, h2]
  dsimp only
  rw [e0 _ (by cases a <;> first | rfl | cases sa) (by cases b <;> first | rfl | cases sb)]
  simp [hb, hx, hy, hl, hf, hc, Expr.pos, List.filterMap_cons, List.eraseDups, List.eraseDupsBy, List.eraseDupsBy.loop, hxy']
theorem sw3 {a b c : Expr} {x y z : Str} {px py pz pt pt2 : Pos} {kt k2 : Nat} {env : PySem.Env} (hb : env.blockKind = .function) (hx : env.kindOf x = some .local) (hy : env.kindOf y = some .local) (hz : env.kindOf z = some .local) (hl : py.line = px.line) (hl2 : pz.line = px.line) (hxy : x ≠ y) (hxz : x ≠ z) (hyz : y ≠ z) (sa : noStar a = true) (sb : noStar b = true) (sc : noStar c = true)
    (hf : [a, b, c].all (foldedForSure 8) = false) (hc : [a, b, c].all (constantsAlone 8) = false) : swappedStores [.Tuple [.Name x px, .Name y py, .Name z pz] kt pt] (.Tuple [a, b, c] k2 pt2) env = pure (some [x, y, z]) := by
  unfold swappedStores
  have hxy' : (y == x) = false := by simpa using Ne.symm hxy
  have hxz' : (z == x) = false := by simpa using Ne.symm hxz
  have hyz' : (z == y) = false := by simpa using Ne.symm hyz
  have e0 : ∀ (f : Expr → Bool), f a = false → f b = false → f c = false → [a, b, c].any f = false := fun f h1 h2 h3 => by simp [h1, h2, h3]
  dsimp only
  rw [e0 _ (by cases a <;> first | rfl | cases sa) (by cases b <;> first | rfl | cases sb) (by cases c <;> first | rfl | cases sc)]
  simp [hb, hx, hy, hz, hl, hl2, hf, hc, Expr.pos, List.filterMap_cons, List.eraseDups, List.eraseDupsBy, List.eraseDupsBy.loop, hxy', hxz', hyz']
def noLc : Expr → Bool
  | .ListComp _ _ _ _ => false
  | .SetComp _ _ _ _ => false
  | .DictComp _ _ _ _ _ => false
  | _ => true
def noTup : Expr → Bool
  | .Tuple _ _ _ => false
  | _ => true
theorem noLc_ok {e : Expr} {t : Option Expr} {n : Nat} {env : PySem.Env} (h : noLc e = true) : swapsWith e t n env = pure false := by
  cases e <;> first | rfl | cases h
theorem setNo_ok {e : Expr} {y : Str} {py : Pos} {n : Nat} {env : PySem.Env} (h : (noLc e || !lcB env.scope y) = true) : swapsWith e (some (.Name y py)) n env = pure false := by
  cases hn : noLc e with
  | true => exact noLc_ok hn
  | false =>
    rw [hn, Bool.false_or] at h
    have hk : (env.kindOf y == some NameKind.local) = false := by
      have e0 : env.kindOf y = env.scope.names.lookup y := rfl
      rw [e0]
      unfold lcB at h
      cases hl : env.scope.names.lookup y with
      | none => rfl
      | some k => rw [hl] at h; cases k <;> first | rfl | (simp at h)
    cases e <;> first | cases hn | skip
    all_goals
      unfold swapsWith
      simp [hk]
theorem sole_ok {e t : Expr} {n : Nat} {env : PySem.Env} (h : noLc e = true) : swapsWithSole [t] e n env = pure false := by
  unfold swapsWithSole
  exact noLc_ok h
theorem noTup_ok {ts : List Expr} {e : Expr} {env : PySem.Env} (h : noTup e = true) : swappedStores ts e env = pure none := by
  cases e <;> first | cases h | skip
  all_goals
    unfold swappedStores
    rcases ts with _ | ⟨t, _ | ⟨t2, r⟩⟩
    · rfl
    · cases t <;> rfl
    · cases t <;> rfl
def nlB (sc : Scope) : Expr → Bool
  | .Name x _ => !lcB sc x
  | _ => true
def nswB (sc : Scope) : Expr → Bool
  | .Tuple ts _ _ => decide (3 < ts.length) || ts.any (nlB sc)
  | _ => false
theorem fm_lt {α β : Type} {f : α → Option β} {b : α → Bool} (hb : ∀ a, b a = true → f a = none) : ∀ {l : List α}, l.any b = true → (l.filterMap f).length < l.length
  | [], h => by simp at h
  | a :: l, h => by
    have h1 : (l.filterMap f).length ≤ l.length := List.length_filterMap_le f l
    rw [List.any_cons, Bool.or_eq_true] at h
    rcases h with h | h
    · rw [List.filterMap_cons, hb a h]; simp only [List.length_cons]; omega
    · have := fm_lt hb h
      rw [List.filterMap_cons]
      split <;> simp only [List.length_cons] <;> omega
theorem nsw_ok {t e : Expr} {env : PySem.Env} (h : nswB env.scope t = true) : swappedStores [t] e env = pure none := by
  cases t <;> first | (cases h; done) | skip
  rename_i ts k p
  cases e <;> first | rfl | skip
  rename_i vs k2 p2
  unfold swappedStores
  dsimp only
  simp only [nswB, Bool.or_eq_true, decide_eq_true_eq] at h
  split
  · rfl
  · rename_i hc
    split
    · rfl
    · rcases h with h | h
      · exfalso
        apply hc
        simp; omega
      · have := fm_lt (f := fun t => match t with | .Name id pos => if env.kindOf id == some .local && pos.line == (ts.head?.map (·.pos.line)).getD 0 then some id else none | _ => none) (b := nlB env.scope) (by
          intro a ha
          cases a <;> first | rfl | skip
          rename_i x q
          simp only [nlB, Bool.not_eq_true', lcB] at ha
          have : (env.kindOf x == some .local) = false := by
            show (env.scope.names.lookup x == some .local) = false
            generalize env.scope.names.lookup x = o at ha
            rcases o with _ | o
            · rfl
            · cases o <;> first | rfl | (simp at ha; done)
          simp [this]) h
        split
        · rfl
        · rename_i h2
          exfalso
          apply h2
          simp only [Bool.or_eq_true, bne_iff_ne, ne_eq]
          left
          exact Nat.ne_of_lt this
def fldB : Expr → Bool
  | .Tuple vs _ _ => vs.all (foldedForSure 8)
  | _ => false
theorem fld_ok {t e : Expr} {env : PySem.Env} (h : fldB e = true) : swappedStores [t] e env = pure none := by
  cases e <;> first | (cases h; done) | skip
  rename_i vs k p
  have h : vs.all (foldedForSure 8) = true := h
  have go : ∀ (ts : List Expr), (do
      if !(ts.length == 2 || ts.length == 3) || vs.length != ts.length || env.blockKind != .function then return none
      if vs.any fun | .Starred .. => true | _ => false then return none
      let line := (ts.head?.map (·.pos.line)).getD 0
      let names := ts.filterMap fun
        | .Name id pos => if env.kindOf id == some .local && pos.line == line then some id else none
        | _ => none
      if names.length != ts.length || names.eraseDups.length != names.length then return none
      if vs.all (foldedForSure 8) then return none
      if vs.all (constantsAlone 8) then unsupported "assign.tuple-of-constant-expressions:order-of-the-stores"
      return some names : Sem (Option (List Str))) = pure none := by
    intro ts
    dsimp only
    split
    · rfl
    · split
      · rfl
      · split
        · rfl
        · first | rfl | (rw [if_pos h]; rfl) | rw [if_pos h]
  cases t <;> first | rfl | exact go _
theorem swap_sub {o j e : Expr} {p : Pos} {env : PySem.Env} : swappedStores [.Subscript o j p] e env = pure none := by
  unfold swappedStores
  cases e <;> rfl
def xnB (M : Xm) (sc : Scope) (c : Nat) (x : Str) : Bool := decide (M.names[c]? = some x) && decide (c < M.n) && glB sc x && okN x
def hdB (M : Xm) (N : List Str) (sc : Scope) : Hd1 → ExceptHandler → Bool
  | (c, i, k, l), .ExceptHandler (some (.Name x _)) (some n) [st] _ => xnB M sc c x && decide (N[i]? = some n) && lcB sc n && okN n && (match k.stmt N sc st with
      | some es => xchk n (M.flds c) l es
      | none => false)
  | _, _ => false
/-- what stands around statements -/
structure StatS (M : Xm) (G : Gm) (F : Fns) (C : Cn) (gd : Bool) (k : Nat) (X : Cx) : Prop extends Stat G F C gd k X where
  k1 : 1 ≤ k
  pass : PassesOwn (model X.prog X.w) X.A X.env X.xe
  stk : X.stack = X.env :: X.outer
  frm : X.env.frame = some X.env.locals
  blk : X.env.blockKind = .function
  fnA : ∀ x, X.fn x = true
  xm : XmOk M C.K C.Cl
  xmg : ∀ c x, M.names[c]? = some x → X.mg x = some (.ref (C.Cl c))
  xmk : ∀ c x, M.names[c]? = some x → M.rs c = true → (∃ fI, XiC X.prog X.K X.mg (C.Cl c) fI (M.flds c)) ∧ (M.flds c).length ≤ 1000
theorem StatS.tr {M : Xm} {G : Gm} {F : Fns} {C : Cn} {gd : Bool} {k : Nat} {X : Cx} (Z : StatS M G F C gd k X) {pn : List (Addr × Obj)} {xe : Value → Shared → Prop} (hp : PassesOwn (model X.prog X.w) X.A X.env xe) : StatS M G F C gd k (X.tr pn xe) :=
  { toStat := ⟨Z.hK, Z.calm, Z.nd, Z.units, Z.room, Z.gdA, Z.sh, Z.free, Z.con, Z.fn, fun pn' xe' => Z.act pn' xe', Z.lam⟩, k1 := Z.k1, pass := hp, stk := Z.stk, frm := Z.frm, blk := Z.blk, fnA := Z.fnA, xm := Z.xm, xmg := Z.xmg, xmk := Z.xmk }
section
variable {M : Xm} {G : Gm} {F : Fns} {C : Cn} {gd : Bool} {k : Nat}
theorem xnB_ok {sc : Scope} {c : Nat} {x : Str} (h : xnB M sc c x = true) : M.names[c]? = some x ∧ c < M.n ∧ sc.names.lookup x = some .globalImplicit ∧ okN x = true := by
  unfold xnB at h
  obtain ⟨h, h4⟩ := ba2 h
  obtain ⟨h, h3⟩ := ba2 h
  obtain ⟨h1, h2⟩ := ba2 h
  exact ⟨of_decide_eq_true h1, of_decide_eq_true h2, glB_ok h3, h4⟩
theorem one_form {e : Expr} {cp : Pos} {env : PySem.Env} (h : noStar e = true) : (((backTo cp (starEach [e] env)).all (fun x => !x.1) && (backToKw cp (keywordEach [] env)).all fun x => x.1.isSome) && decide (([e].length + ([] : List Keyword).length + if ([] : List Keyword).isEmpty = true then 0 else 1) < 30)) = true := by
  rw [star_ok h]; rfl
theorem asg_sub {o j : Expr} {tp : Pos} {env : PySem.Env} (h : noSlice j = true) : ∀ v, assign (.Subscript o j tp) env v = (do
      let ov ← holding [v] (eval o env)
      let iv ← holding [v, ov] (eval j env)
      standAt tp
      holding [v, ov, iv] (setItem ov iv v)
      release [v, ov, iv] []) := by
  intro v
  cases j <;> first | rfl | cases h
end
abbrev SndS (c : Xm → Gm → List Str → Scope → Stmt → Bool) (d : Xm → Fns → TDS) : Prop := ∀ {C : Cn} {M : Xm} {G : Gm} {F : Fns} {gd : Bool} {k : Nat} (X : Cx) (Wx : WX) (st : Stmt), StatS M G F C gd k X → Takes X Wx → c M G X.N X.env.scope st = true → PS X st (liftS C Wx (d M F))
/-- a statement: how it is held against the text, how it reads, and that it reads right -/
structure S where
  chk : Xm → Gm → List Str → Scope → Stmt → Bool
  rd : Xm → Fns → TDS
  snd : SndS chk rd
inductive Ss where
  | nil | cons (s : S) (r : Ss)
def S.d (M : Xm) (F : Fns) (m : S) : TDS := m.rd M F
def Ss.d (M : Xm) (F : Fns) : Ss → TDS
  | .nil => dNext
  | .cons s r => dSeq (s.d M F) (r.d M F)
def Ss.chk (M : Xm) (G : Gm) (N : List Str) (sc : Scope) : Ss → List Stmt → Bool
  | .nil, [] => true
  | .cons s r, st :: rest => s.chk M G N sc st && r.chk M G N sc rest
  | _, _ => false
theorem Ss.snd {C : Cn} {M : Xm} {G : Gm} {F : Fns} {gd : Bool} {k : Nat} : ∀ (m : Ss) (X : Cx) (Wx : WX) (st : List Stmt), StatS M G F C gd k X → Takes X Wx → m.chk M G X.N X.env.scope st = true → PSs X st (liftS C Wx (m.d M F))
  | .nil, X, Wx, st, Z, tk, h => by
    cases st with
    | nil => exact dss_nil
    | cons a b => simp [Ss.chk] at h
  | .cons s r, X, Wx, st, Z, tk, h => by
    cases st with
    | nil => simp [Ss.chk] at h
    | cons a b =>
      unfold Ss.chk at h
      obtain ⟨h1, h2⟩ := ba2 h
      exact dss_cons (S.snd s X Wx a Z tk h1) (Ss.snd r X Wx b Z tk h2)
def cS_pass (M : Xm) (G : Gm) (N : List Str) (sc : Scope) (x0 : Stmt) : Bool := match x0 with
  | .Pass _ => true
  | _ => false
theorem sS_pass : SndS (cS_pass) (fun M F => dNext) := by
    intro C M G F gd k X Wx st Z tk h
    cases st <;> first | (exact absurd h Bool.false_ne_true) | (simp [cS_pass] at h; done) | skip
    exact ds_pass
def S.pass : S := ⟨cS_pass, fun M F => dNext, sS_pass⟩
@[simp] theorem rdS_pass {M : Xm} {F : Fns} : (S.pass).rd M F = dNext := rfl
def cS_brk (M : Xm) (G : Gm) (N : List Str) (sc : Scope) (x0 : Stmt) : Bool := match x0 with
  | .Break _ => true
  | _ => false
theorem sS_brk : SndS (cS_brk) (fun M F => dBrk) := by
    intro C M G F gd k X Wx st Z tk h
    cases st <;> first | (exact absurd h Bool.false_ne_true) | (simp [cS_brk] at h; done) | skip
    exact ds_brk
def S.brk : S := ⟨cS_brk, fun M F => dBrk, sS_brk⟩
@[simp] theorem rdS_brk {M : Xm} {F : Fns} : (S.brk).rd M F = dBrk := rfl
def cS_ret (e : E) (M : Xm) (G : Gm) (N : List Str) (sc : Scope) (x0 : Stmt) : Bool := match x0 with
  | .Return (some x) _ => e.chk G N sc x
  | _ => false
theorem sS_ret (e : E) : SndS (cS_ret e) (fun M F => dRet (e.d F)) := by
    intro C M G F gd k X Wx st Z tk h
    cases st <;> first | (exact absurd h Bool.false_ne_true) | (simp [cS_ret] at h; done) | skip
    rename_i o p
    cases o with
    | none => exact absurd h Bool.false_ne_true
    | some x => exact ds_ret (E.snd e X Wx x Z.toStat tk (h))
def S.ret (e : E) : S := ⟨cS_ret e, fun M F => dRet (e.d F), sS_ret e⟩
@[simp] theorem rdS_ret (e : E) {M : Xm} {F : Fns} : (S.ret e).rd M F = dRet (e.d F) := rfl
def cS_drop (e : E) (M : Xm) (G : Gm) (N : List Str) (sc : Scope) (x0 : Stmt) : Bool := match x0 with
  | .Expr x _ => noLc x && e.chk G N sc x
  | _ => false
theorem sS_drop (e : E) : SndS (cS_drop e) (fun M F => dDrop (e.d F)) := by
    intro C M G F gd k X Wx st Z tk h
    cases st <;> first | (exact absurd h Bool.false_ne_true) | (simp [cS_drop] at h; done) | skip
    obtain ⟨h1, h2⟩ := ba2 (h)
    exact ds_expr (E.snd e X Wx _ Z.toStat tk h2) (noLc_ok h1)
def S.drop (e : E) : S := ⟨cS_drop e, fun M F => dDrop (e.d F), sS_drop e⟩
@[simp] theorem rdS_drop (e : E) {M : Xm} {F : Fns} : (S.drop e).rd M F = dDrop (e.d F) := rfl
def cS_set (i : Nat) (e : E) (M : Xm) (G : Gm) (N : List Str) (sc : Scope) (x0 : Stmt) : Bool := match x0 with
  | .Assign [.Name y _] x _ => decide (N[i]? = some y) && locB sc y && (noLc x || !lcB sc y) && e.chk G N sc x
  | _ => false
theorem sS_set (i : Nat) (e : E) : SndS (cS_set i e) (fun M F => dSet i (e.d F)) := by
    intro C M G F gd k X Wx st Z tk h
    cases st <;> first | (exact absurd h Bool.false_ne_true) | (simp [cS_set] at h; done) | skip
    rename_i tgs v p
    rcases tgs with _ | ⟨t, _ | ⟨t2, tgs⟩⟩ <;> first | (exact absurd h Bool.false_ne_true) | (simp [cS_set] at h; done) | skip
    cases t <;> first | (exact absurd h Bool.false_ne_true) | (simp [cS_set] at h; done) | skip
    simp only [cS_set] at h
    obtain ⟨h, h4⟩ := ba2 h
    obtain ⟨h, h3⟩ := ba2 h
    obtain ⟨h1, h2⟩ := ba2 h
    exact ds_set Z.nd (of_decide_eq_true h1) (locB_ok h2) (.inl (Z.fnA _)) (E.snd e X Wx _ Z.toStat tk h4) (setNo_ok h3)
def S.set (i : Nat) (e : E) : S := ⟨cS_set i e, fun M F => dSet i (e.d F), sS_set i e⟩
@[simp] theorem rdS_set (i : Nat) (e : E) {M : Xm} {F : Fns} : (S.set i e).rd M F = dSet i (e.d F) := rfl
def cS_own (i : Nat) (e : E) (M : Xm) (G : Gm) (N : List Str) (sc : Scope) (x0 : Stmt) : Bool := match x0 with
  | .Assign [.Name y _] x _ => decide (N[i]? = some y) && locB sc y && (noLc x || !lcB sc y) && e.chk G N sc x
  | _ => false
theorem sS_own (i : Nat) (e : E) : SndS (cS_own i e) (fun M F => dOwn i (e.d F)) := by
    intro C M G F gd k X Wx st Z tk h
    cases st <;> first | (exact absurd h Bool.false_ne_true) | (simp [cS_own] at h; done) | skip
    rename_i tgs v p
    rcases tgs with _ | ⟨t, _ | ⟨t2, tgs⟩⟩ <;> first | (exact absurd h Bool.false_ne_true) | (simp [cS_own] at h; done) | skip
    cases t <;> first | (exact absurd h Bool.false_ne_true) | (simp [cS_own] at h; done) | skip
    simp only [cS_own] at h
    obtain ⟨h, h4⟩ := ba2 h
    obtain ⟨h, h3⟩ := ba2 h
    obtain ⟨h1, h2⟩ := ba2 h
    exact ds_own Z.nd (of_decide_eq_true h1) (locB_ok h2) (.inl (Z.fnA _)) (E.snd e X Wx _ Z.toStat tk h4) (setNo_ok h3)
def S.own (i : Nat) (e : E) : S := ⟨cS_own i e, fun M F => dOwn i (e.d F), sS_own i e⟩
@[simp] theorem rdS_own (i : Nat) (e : E) {M : Xm} {F : Fns} : (S.own i e).rd M F = dOwn i (e.d F) := rfl
def cS_ite (c : E) (a : Ss) (b : Ss) (M : Xm) (G : Gm) (N : List Str) (sc : Scope) (x0 : Stmt) : Bool := match x0 with
  | .If t p q _ => c.chk G N sc t && a.chk M G N sc p && b.chk M G N sc q
  | _ => false
theorem sS_ite (c : E) (a : Ss) (b : Ss) : SndS (cS_ite c a b) (fun M F => dIte (c.t F) (a.d M F) (b.d M F)) := by
    intro C M G F gd k X Wx st Z tk h
    cases st <;> first | (exact absurd h Bool.false_ne_true) | (simp [cS_ite] at h; done) | skip
    simp only [cS_ite] at h
    obtain ⟨h, h3⟩ := ba2 h
    obtain ⟨h1, h2⟩ := ba2 h
    exact ds_if (E.sndT c X Wx _ Z.toStat tk h1) (Ss.snd a X Wx _ Z tk h2) (Ss.snd b X Wx _ Z tk h3)
def S.ite (c : E) (a : Ss) (b : Ss) : S := ⟨cS_ite c a b, fun M F => dIte (c.t F) (a.d M F) (b.d M F), sS_ite c a b⟩
@[simp] theorem rdS_ite (c : E) (a : Ss) (b : Ss) {M : Xm} {F : Fns} : (S.ite c a b).rd M F = dIte (c.t F) (a.d M F) (b.d M F) := rfl
def cS_for_ (g : Tg) (it : Ic) (a : Ss) (M : Xm) (G : Gm) (N : List Str) (sc : Scope) (x0 : Stmt) : Bool := match x0 with
  | .For t x p [] _ => (!it.needT || tupE t) && it.chk G N sc x && noSet x && g.chk false N sc t && a.chk M G N sc p
  | _ => false
theorem sS_for_ (g : Tg) (it : Ic) (a : Ss) : SndS (cS_for_ g it a) (fun M F => dFor (it.d F) g (a.d M F)) := by
    intro C M G F gd k X Wx st Z tk h
    cases st <;> first | (exact absurd h Bool.false_ne_true) | (simp [cS_for_] at h; done) | skip
    rename_i t x p q pos
    cases q <;> first | (exact absurd h Bool.false_ne_true) | (simp [cS_for_] at h; done) | skip
    simp only [cS_for_] at h
    obtain ⟨h, h4⟩ := ba2 h
    obtain ⟨h, h3⟩ := ba2 h
    obtain ⟨h, h2⟩ := ba2 h
    obtain ⟨h0, h1⟩ := ba2 h
    exact ds_for Z.pass Z.calm (Ic.snd it X Wx _ _ Z.toStat tk h0 h1) (Tg.snd Z.hK Z.calm Z.nd (fun _ => Z.fnA) g _ h3) (Ss.snd a X Wx _ Z tk h4) (noSet_ok h2)
def S.for_ (g : Tg) (it : Ic) (a : Ss) : S := ⟨cS_for_ g it a, fun M F => dFor (it.d F) g (a.d M F), sS_for_ g it a⟩
@[simp] theorem rdS_for_ (g : Tg) (it : Ic) (a : Ss) {M : Xm} {F : Fns} : (S.for_ g it a).rd M F = dFor (it.d F) g (a.d M F) := rfl
def cS_asg (g : Tg) (e : E) (M : Xm) (G : Gm) (N : List Str) (sc : Scope) (x0 : Stmt) : Bool := match x0 with
  | .Assign [t] x _ => noStar t && noLc x && (noTup x || (nswB sc t || fldB x)) && g.chk false N sc t && e.chk G N sc x
  | _ => false
theorem sS_asg (g : Tg) (e : E) : SndS (cS_asg g e) (fun M F => dAsg g (e.d F)) := by
    intro C M G F gd k X Wx st Z tk h
    cases st <;> first | (exact absurd h Bool.false_ne_true) | (simp [cS_asg] at h; done) | skip
    rename_i tgs v p
    rcases tgs with _ | ⟨t, _ | ⟨t2, tgs⟩⟩ <;> first | (exact absurd h Bool.false_ne_true) | (simp [cS_asg] at h; done) | skip
    simp only [cS_asg] at h
    obtain ⟨h, h5⟩ := ba2 h
    obtain ⟨h, h4⟩ := ba2 h
    obtain ⟨h, h3⟩ := ba2 h
    obtain ⟨h1, h2⟩ := ba2 h
    have hw : swappedStores [t] v X.env = pure none := by
      rcases Bool.or_eq_true _ _ |>.mp h3 with h3 | h3
      · exact noTup_ok h3
      · rcases Bool.or_eq_true _ _ |>.mp h3 with h3 | h3
        · exact nsw_ok h3
        · exact fld_ok h3
    exact ds_asg (E.snd e X Wx _ Z.toStat tk h5) (Tg.snd Z.hK Z.calm Z.nd (fun _ => Z.fnA) g _ h4) (noLc_ok h2) hw (by rw [asgE_ok h1]; rfl)
def S.asg (g : Tg) (e : E) : S := ⟨cS_asg g e, fun M F => dAsg g (e.d F), sS_asg g e⟩
@[simp] theorem rdS_asg (g : Tg) (e : E) {M : Xm} {F : Fns} : (S.asg g e).rd M F = dAsg g (e.d F) := rfl
def cS_par2 (_q0 : Bool) (i : Nat) (a : E) (_q3 : Bool) (j : Nat) (b : E) (M : Xm) (G : Gm) (N : List Str) (sc : Scope) (x0 : Stmt) : Bool := match x0 with
  | .Assign [.Tuple [.Name x px, .Name y py] _ _] (.Tuple [l, r] _ _) _ => decide (N[i]? = some x) && decide (N[j]? = some y) && decide (i ≠ j) && decide (x ≠ y) && lcB sc x && lcB sc y && decide (py.line = px.line) && noStar l && noStar r &&
      !([l, r].all (foldedForSure 8)) && !([l, r].all (constantsAlone 8)) && a.chk G N sc l && b.chk G N sc r
  | _ => false
theorem sS_par2 (o1 : Bool) (i : Nat) (a : E) (o2 : Bool) (j : Nat) (b : E) : SndS (cS_par2 o1 i a o2 j b) (fun M F => dPar2 o1 i (a.d F) o2 j (b.d F)) := by
    intro C M G F gd k X Wx st Z tk h
    cases st <;> first | (exact absurd h Bool.false_ne_true) | (simp [cS_par2] at h; done) | skip
    rename_i tgs v p
    rcases tgs with _ | ⟨t, _ | ⟨t2, tgs⟩⟩ <;> first | (exact absurd h Bool.false_ne_true) | (simp [cS_par2] at h; done) | skip
    cases t <;> first | (exact absurd h Bool.false_ne_true) | (simp [cS_par2] at h; done) | skip
    rename_i els kt pt
    rcases els with _ | ⟨e1, _ | ⟨e2, _ | ⟨e3, els⟩⟩⟩ <;> first | (exact absurd h Bool.false_ne_true) | (simp [cS_par2] at h; done) | skip
    cases e1 <;> first | (exact absurd h Bool.false_ne_true) | (simp [cS_par2] at h; done) | skip
    cases e2 <;> first | (exact absurd h Bool.false_ne_true) | (simp [cS_par2] at h; done) | skip
    cases v <;> first | (exact absurd h Bool.false_ne_true) | (simp [cS_par2] at h; done) | skip
    rename_i vs k2 p2
    rcases vs with _ | ⟨v1, _ | ⟨v2, _ | ⟨v3, vs⟩⟩⟩ <;> first | (exact absurd h Bool.false_ne_true) | (simp [cS_par2] at h; done) | skip
    simp only [cS_par2, Bool.and_eq_true, decide_eq_true_eq, Bool.not_eq_true'] at h
    obtain ⟨⟨⟨⟨⟨⟨⟨⟨⟨⟨⟨⟨h1, h2⟩, h3⟩, h4⟩, h5⟩, h6⟩, h7⟩, h8⟩, h9⟩, h10⟩, h11⟩, h12⟩, h13⟩ := h
    exact ds_par2 Z.calm Z.nd h1 h2 h3 (lcB_ok h5) (lcB_ok h6) (E.snd a X Wx _ Z.toStat tk h12) (E.snd b X Wx _ Z.toStat tk h13) h8 h9 (sw2 Z.blk (lcB_ok h5) (lcB_ok h6) h7 h4 h8 h9 h10 h11)
def S.par2 (o1 : Bool) (i : Nat) (a : E) (o2 : Bool) (j : Nat) (b : E) : S := ⟨cS_par2 o1 i a o2 j b, fun M F => dPar2 o1 i (a.d F) o2 j (b.d F), sS_par2 o1 i a o2 j b⟩
@[simp] theorem rdS_par2 (o1 : Bool) (i : Nat) (a : E) (o2 : Bool) (j : Nat) (b : E) {M : Xm} {F : Fns} : (S.par2 o1 i a o2 j b).rd M F = dPar2 o1 i (a.d F) o2 j (b.d F) := rfl
def cS_par3 (_q0 : Bool) (i : Nat) (a : E) (_q3 : Bool) (j : Nat) (b : E) (_q6 : Bool) (l : Nat) (c : E) (M : Xm) (G : Gm) (N : List Str) (sc : Scope) (x0 : Stmt) : Bool := match x0 with
  | .Assign [.Tuple [.Name x px, .Name y py, .Name z pz] _ _] (.Tuple [p, q, r] _ _) _ => decide (N[i]? = some x) && decide (N[j]? = some y) && decide (N[l]? = some z) && decide (i ≠ j) && decide (i ≠ l) && decide (j ≠ l) && decide (x ≠ y) && decide (x ≠ z) && decide (y ≠ z) && lcB sc x && lcB sc y && lcB sc z &&
      decide (py.line = px.line) && decide (pz.line = px.line) && noStar p && noStar q && noStar r && !([p, q, r].all (foldedForSure 8)) && !([p, q, r].all (constantsAlone 8)) && a.chk G N sc p && b.chk G N sc q && c.chk G N sc r
  | _ => false
theorem sS_par3 (o1 : Bool) (i : Nat) (a : E) (o2 : Bool) (j : Nat) (b : E) (o3 : Bool) (l : Nat) (c : E) : SndS (cS_par3 o1 i a o2 j b o3 l c) (fun M F => dPar3 o1 i (a.d F) o2 j (b.d F) o3 l (c.d F)) := by
    intro C M G F gd k X Wx st Z tk h
    cases st <;> first | (exact absurd h Bool.false_ne_true) | (simp [cS_par3] at h; done) | skip
    rename_i tgs v p
    rcases tgs with _ | ⟨t, _ | ⟨t2, tgs⟩⟩ <;> first | (exact absurd h Bool.false_ne_true) | (simp [cS_par3] at h; done) | skip
    cases t <;> first | (exact absurd h Bool.false_ne_true) | (simp [cS_par3] at h; done) | skip
    rename_i els kt pt
    rcases els with _ | ⟨e1, _ | ⟨e2, _ | ⟨e3, _ | ⟨e4, els⟩⟩⟩⟩ <;> first | (exact absurd h Bool.false_ne_true) | (simp [cS_par3] at h; done) | skip
    · cases e1 <;> first | (exact absurd h Bool.false_ne_true) | (simp [cS_par3] at h; done) | skip
      cases e2 <;> first | (exact absurd h Bool.false_ne_true) | (simp [cS_par3] at h; done) | skip
      cases e3 <;> first | (exact absurd h Bool.false_ne_true) | (simp [cS_par3] at h; done) | skip
      cases v <;> first | (exact absurd h Bool.false_ne_true) | (simp [cS_par3] at h; done) | skip
      rename_i vs k2 p2
      rcases vs with _ | ⟨v1, _ | ⟨v2, _ | ⟨v3, _ | ⟨v4, vs⟩⟩⟩⟩ <;> first | (exact absurd h Bool.false_ne_true) | (simp [cS_par3] at h; done) | skip
      simp only [cS_par3, Bool.and_eq_true, decide_eq_true_eq, Bool.not_eq_true'] at h
      obtain ⟨⟨⟨⟨⟨⟨⟨⟨⟨⟨⟨⟨⟨⟨⟨⟨⟨⟨⟨⟨⟨h1, h2⟩, h3⟩, h4⟩, h5⟩, h6⟩, h7⟩, h8⟩, h9⟩, h10⟩, h11⟩, h12⟩, h13⟩, h14⟩, h15⟩, h16⟩, h17⟩, h18⟩, h19⟩, h20⟩, h21⟩, h22⟩ := h
      exact ds_par3 Z.calm Z.nd h1 h2 h3 h4 h5 h6 (lcB_ok h10) (lcB_ok h11) (lcB_ok h12) (E.snd a X Wx _ Z.toStat tk h20) (E.snd b X Wx _ Z.toStat tk h21) (E.snd c X Wx _ Z.toStat tk h22) h15 h16 h17
        (sw3 Z.blk (lcB_ok h10) (lcB_ok h11) (lcB_ok h12) h13 h14 h7 h8 h9 h15 h16 h17 h18 h19)
def S.par3 (o1 : Bool) (i : Nat) (a : E) (o2 : Bool) (j : Nat) (b : E) (o3 : Bool) (l : Nat) (c : E) : S := ⟨cS_par3 o1 i a o2 j b o3 l c, fun M F => dPar3 o1 i (a.d F) o2 j (b.d F) o3 l (c.d F), sS_par3 o1 i a o2 j b o3 l c⟩
@[simp] theorem rdS_par3 (o1 : Bool) (i : Nat) (a : E) (o2 : Bool) (j : Nat) (b : E) (o3 : Bool) (l : Nat) (c : E) {M : Xm} {F : Fns} : (S.par3 o1 i a o2 j b o3 l c).rd M F = dPar3 o1 i (a.d F) o2 j (b.d F) o3 l (c.d F) := rfl
def cS_app (i : Nat) (e : E) (M : Xm) (G : Gm) (N : List Str) (sc : Scope) (x0 : Stmt) : Bool := match x0 with
  | .Expr (.Call (.Attribute (.Name y _) m ap) [x] [] cp) _ => decide (m = "append") && decide (N[i]? = some y) && visB sc y && okN y && noStar x && (ap.endLine == cp.line) && e.chk G N sc x
  | _ => false
theorem sS_app (i : Nat) (e : E) : SndS (cS_app i e) (fun M F => dApp i (e.d F)) := by
    intro C M G F gd k X Wx st Z tk h
    cases st <;> first | (exact absurd h Bool.false_ne_true) | (simp [cS_app] at h; done) | skip
    rename_i v p
    cases v <;> first | (exact absurd h Bool.false_ne_true) | (simp [cS_app] at h; done) | skip
    rename_i fn args kws cp
    cases fn <;> first | (exact absurd h Bool.false_ne_true) | (simp [cS_app] at h; done) | skip
    rename_i o mname ap
    cases o <;> first | (exact absurd h Bool.false_ne_true) | (simp [cS_app] at h; done) | skip
    rcases args with _ | ⟨x, _ | ⟨x2, xs⟩⟩ <;> first | (exact absurd h Bool.false_ne_true) | (simp [cS_app] at h; done) | skip
    rcases kws with _ | ⟨kw, kws⟩ <;> first | (exact absurd h Bool.false_ne_true) | (simp [cS_app] at h; done) | skip
    simp only [cS_app, Bool.and_eq_true, decide_eq_true_eq] at h
    obtain ⟨⟨⟨⟨⟨⟨rfl, h2⟩, h3⟩, h4⟩, h5⟩, h6⟩, h7⟩ := h
    exact ds_app Z.hK h2 (visB_ok h3) (okN_ok h4).1 (okN_ok h4).2.1 (E.snd e X Wx _ Z.toStat tk h7) (star_ok h5) h6 (one_form h5) rfl rfl
def S.app (i : Nat) (e : E) : S := ⟨cS_app i e, fun M F => dApp i (e.d F), sS_app i e⟩
@[simp] theorem rdS_app (i : Nat) (e : E) {M : Xm} {F : Fns} : (S.app i e).rd M F = dApp i (e.d F) := rfl
def cS_six (i : Nat) (j : E) (e : E) (M : Xm) (G : Gm) (N : List Str) (sc : Scope) (x0 : Stmt) : Bool := match x0 with
  | .Assign [.Subscript (.Name y _) s _] x _ => decide (N[i]? = some y) && visB sc y && okN y && noSlice s && noLc x && true && j.chk G N sc s && e.chk G N sc x
  | _ => false
theorem sS_six (i : Nat) (j : E) (e : E) : SndS (cS_six i j e) (fun M F => dSix i (j.d F) (e.d F)) := by
    intro C M G F gd k X Wx st Z tk h
    cases st <;> first | (exact absurd h Bool.false_ne_true) | (simp [cS_six] at h; done) | skip
    rename_i tgs v p
    rcases tgs with _ | ⟨t, _ | ⟨t2, tgs⟩⟩ <;> first | (exact absurd h Bool.false_ne_true) | (simp [cS_six] at h; done) | skip
    cases t <;> first | (exact absurd h Bool.false_ne_true) | (simp [cS_six] at h; done) | skip
    rename_i o sl tp
    cases o <;> first | (exact absurd h Bool.false_ne_true) | (simp [cS_six] at h; done) | skip
    simp only [cS_six, Bool.and_eq_true, decide_eq_true_eq] at h
    obtain ⟨⟨⟨⟨⟨⟨⟨h1, h2⟩, h3⟩, h4⟩, h5⟩, h6⟩, h7⟩, h8⟩ := h
    exact ds_six h1 (visB_ok h2) (okN_ok h3).1 (okN_ok h3).2.1 (E.snd e X Wx _ Z.toStat tk h8) (E.snd j X Wx _ Z.toStat tk h7) (asg_sub h4) (sole_ok h5) swap_sub rfl
def S.six (i : Nat) (j : E) (e : E) : S := ⟨cS_six i j e, fun M F => dSix i (j.d F) (e.d F), sS_six i j e⟩
@[simp] theorem rdS_six (i : Nat) (j : E) (e : E) {M : Xm} {F : Fns} : (S.six i j e).rd M F = dSix i (j.d F) (e.d F) := rfl
def cS_hset (o : E) (j : E) (e : E) (M : Xm) (G : Gm) (N : List Str) (sc : Scope) (x0 : Stmt) : Bool := match x0 with
  | .Assign [.Subscript y s _] x _ => noSlice s && noLc x && true && o.chk G N sc y && j.chk G N sc s && e.chk G N sc x
  | _ => false
theorem sS_hset (o : E) (j : E) (e : E) : SndS (cS_hset o j e) (fun M F => dHset (o.d F) (j.d F) (e.d F)) := by
    intro C M G F gd k X Wx st Z tk h
    cases st <;> first | (exact absurd h Bool.false_ne_true) | (simp [cS_hset] at h; done) | skip
    rename_i tgs v p
    rcases tgs with _ | ⟨t, _ | ⟨t2, tgs⟩⟩ <;> first | (exact absurd h Bool.false_ne_true) | (simp [cS_hset] at h; done) | skip
    cases t <;> first | (exact absurd h Bool.false_ne_true) | (simp [cS_hset] at h; done) | skip
    simp only [cS_hset, Bool.and_eq_true] at h
    obtain ⟨⟨⟨⟨⟨h1, h2⟩, h3⟩, h4⟩, h5⟩, h6⟩ := h
    exact ds_hset (E.snd e X Wx _ Z.toStat tk h6) (E.snd o X Wx _ Z.toStat tk h4) (E.snd j X Wx _ Z.toStat tk h5) (asg_sub h1) (sole_ok h2) swap_sub rfl
def S.hset (o : E) (j : E) (e : E) : S := ⟨cS_hset o j e, fun M F => dHset (o.d F) (j.d F) (e.d F), sS_hset o j e⟩
@[simp] theorem rdS_hset (o : E) (j : E) (e : E) {M : Xm} {F : Fns} : (S.hset o j e).rd M F = dHset (o.d F) (j.d F) (e.d F) := rfl
def cS_pop (i : Nat) (j : Nat) (e : E) (M : Xm) (G : Gm) (N : List Str) (sc : Scope) (x0 : Stmt) : Bool := match x0 with
  | .Assign [.Name z _] (.Call (.Attribute (.Name y _) m ap) [x] [] cp) _ => decide (m = "pop") && decide (N[i]? = some y) && visB sc y && okN y && decide (N[j]? = some z) && locB sc z && noStar x && (ap.endLine == cp.line) && e.chk G N sc x
  | _ => false
theorem sS_pop (i : Nat) (j : Nat) (e : E) : SndS (cS_pop i j e) (fun M F => dPop i j (e.d F)) := by
    intro C M G F gd k X Wx st Z tk h
    cases st <;> first | (exact absurd h Bool.false_ne_true) | (simp [cS_pop] at h; done) | skip
    rename_i tgs v p
    rcases tgs with _ | ⟨t, _ | ⟨t2, tgs⟩⟩ <;> first | (exact absurd h Bool.false_ne_true) | (simp [cS_pop] at h; done) | skip
    cases t <;> first | (exact absurd h Bool.false_ne_true) | (simp [cS_pop] at h; done) | skip
    cases v <;> first | (exact absurd h Bool.false_ne_true) | (simp [cS_pop] at h; done) | skip
    rename_i fn args kws cp
    cases fn <;> first | (exact absurd h Bool.false_ne_true) | (simp [cS_pop] at h; done) | skip
    rename_i o mname ap
    cases o <;> first | (exact absurd h Bool.false_ne_true) | (simp [cS_pop] at h; done) | skip
    rcases args with _ | ⟨x, _ | ⟨x2, xs⟩⟩ <;> first | (exact absurd h Bool.false_ne_true) | (simp [cS_pop] at h; done) | skip
    rcases kws with _ | ⟨kw, kws⟩ <;> first | (exact absurd h Bool.false_ne_true) | (simp [cS_pop] at h; done) | skip
    simp only [cS_pop, Bool.and_eq_true, decide_eq_true_eq] at h
    obtain ⟨⟨⟨⟨⟨⟨⟨⟨rfl, h2⟩, h3⟩, h4⟩, h5⟩, h6⟩, h7⟩, h8⟩, h9⟩ := h
    exact ds_pop h2 (visB_ok h3) (okN_ok h4).1 (okN_ok h4).2.1 Z.nd h5 (locB_ok h6) (.inl (Z.fnA _)) (E.snd e X Wx _ Z.toStat tk h9) (star_ok h7) h8 (one_form h7) rfl rfl
def S.pop (i : Nat) (j : Nat) (e : E) : S := ⟨cS_pop i j e, fun M F => dPop i j (e.d F), sS_pop i j e⟩
@[simp] theorem rdS_pop (i : Nat) (j : Nat) (e : E) {M : Xm} {F : Fns} : (S.pop i j e).rd M F = dPop i j (e.d F) := rfl
def cS_setLc (_q0 : Bool) (i : Nat) (g : Tg) (src : Ic) (test : Oe) (elt : E) (own : List (Str × Nat)) (M : Xm) (G : Gm) (N : List Str) (sc : Scope) (x0 : Stmt) : Bool := match x0 with
  | .Assign [.Name y py] (.ListComp l [⟨t, it, ifs, as⟩] scope pos) _ => decide (as = 0) && decide (N[i]? = some y) && lcB sc y && (py.line == pos.line) && !(scope.names.any fun (n, k) => n == y && (k == .local || k == .cell)) && (!src.needT || tupE t) && src.chk G N sc it && noSet it && blkC N sc scope own &&
      g.chk true N (relS scope sc) t && test.chkT G.q N (relS scope sc) ifs && elt.chk G.q N (relS scope sc) l && (g.slots.all fun i => decide (i ∈ own.map (·.2)))
  | _ => false
theorem sS_setLc (o : Bool) (i : Nat) (g : Tg) (src : Ic) (test : Oe) (elt : E) (own : List (Str × Nat)) : SndS (cS_setLc o i g src test elt own) (fun M F => if o = true then dOwn i (dLc (src.d F) g (test.t F.q) (elt.d F.q) (own.map (·.2))) else dSet i (dLc (src.d F) g (test.t F.q) (elt.d F.q) (own.map (·.2)))) := by
    intro C M G F gd k X Wx st Z tk h
    cases st <;> first | (exact absurd h Bool.false_ne_true) | (simp [cS_setLc] at h; done) | skip
    rename_i tgs v p
    rcases tgs with _ | ⟨t, _ | ⟨t2, tgs⟩⟩ <;> first | (exact absurd h Bool.false_ne_true) | (simp [cS_setLc] at h; done) | skip
    cases t <;> first | (exact absurd h Bool.false_ne_true) | (simp [cS_setLc] at h; done) | skip
    rename_i y py
    cases v <;> first | (exact absurd h Bool.false_ne_true) | (simp [cS_setLc] at h; done) | skip
    rename_i l gs scope vp
    rcases gs with _ | ⟨⟨t, it, ifs, as⟩, _ | ⟨g2, gs⟩⟩ <;> first | (exact absurd h Bool.false_ne_true) | (simp [cS_setLc] at h; done) | skip
    simp only [cS_setLc] at h
    obtain ⟨h, g1⟩ := ba2 h
    obtain ⟨h, g2⟩ := ba2 h
    obtain ⟨h, g3⟩ := ba2 h
    obtain ⟨h, g4⟩ := ba2 h
    obtain ⟨h, g5⟩ := ba2 h
    obtain ⟨h, g6⟩ := ba2 h
    obtain ⟨h, g7⟩ := ba2 h
    obtain ⟨h, g12⟩ := ba2 h
    obtain ⟨h, g8⟩ := ba2 h
    obtain ⟨h, g9⟩ := ba2 h
    obtain ⟨h, g10⟩ := ba2 h
    obtain ⟨h, g11⟩ := ba2 h
    cases of_decide_eq_true h
    have hsw : swapsWith (.ListComp l [⟨t, it, ifs, 0⟩] scope vp) (some (.Name y py)) p.line X.env = pure true := by
      have hk : X.env.kindOf y = some .local := lcB_ok g10
      show (pure (X.env.blockKind == .function && X.env.kindOf y == some .local && py.line == vp.line && !(scope.names.any fun (n, k) => n == y && (k == .local || k == .cell))) : Sem Bool) = pure true
      rw [Z.blk, hk, g9, g8]
      rfl
    exact ds_setLc (own? := o) Z.calm Z.nd (of_decide_eq_true g11) (lcB_ok g10) hsw (Ic.snd src X Wx t it Z.toStat tk g12 g7) (blkOk_by g5)
      (fun s H A cl fp => Tg.snd (loc := true) (X := X.blk s H scope (compEnvC scope cl A X.env) fp) Z.hK Z.calm Z.nd (fun z => Bool.noConfusion z) g t g4)
      (fun s H A cl fp => Oe.sndT test _ ifs (Z.toStat.blk s H scope (compEnvC scope cl A X.env) fp) takesN g3)
      (fun s H A cl fp => E.snd elt _ noW l (Z.toStat.blk s H scope (compEnvC scope cl A X.env) fp) takesN g2) (fun i hi => of_decide_eq_true (List.all_eq_true.mp g1 i hi)) (noSet_ok g6)
def S.setLc (o : Bool) (i : Nat) (g : Tg) (src : Ic) (test : Oe) (elt : E) (own : List (Str × Nat)) : S := ⟨cS_setLc o i g src test elt own, fun M F => if o = true then dOwn i (dLc (src.d F) g (test.t F.q) (elt.d F.q) (own.map (·.2))) else dSet i (dLc (src.d F) g (test.t F.q) (elt.d F.q) (own.map (·.2))), sS_setLc o i g src test elt own⟩
@[simp] theorem rdS_setLc (o : Bool) (i : Nat) (g : Tg) (src : Ic) (test : Oe) (elt : E) (own : List (Str × Nat)) {M : Xm} {F : Fns} : (S.setLc o i g src test elt own).rd M F = if o = true then dOwn i (dLc (src.d F) g (test.t F.q) (elt.d F.q) (own.map (·.2))) else dSet i (dLc (src.d F) g (test.t F.q) (elt.d F.q) (own.map (·.2))) := rfl
def cS_ext (i : Nat) (e : E) (M : Xm) (G : Gm) (N : List Str) (sc : Scope) (x0 : Stmt) : Bool := match x0 with
  | .Expr (.Call (.Attribute (.Name y _) m ap) [x] [] cp) _ => decide (m = "extend") && decide (N[i]? = some y) && visB sc y && okN y && noStar x && (ap.endLine == cp.line) && e.chk G N sc x
  | _ => false
theorem sS_ext (i : Nat) (e : E) : SndS (cS_ext i e) (fun M F => dExt i (e.d F)) := by
    intro C M G F gd k X Wx st Z tk h
    cases st <;> first | (exact absurd h Bool.false_ne_true) | (simp [cS_ext] at h; done) | skip
    rename_i v p
    cases v <;> first | (exact absurd h Bool.false_ne_true) | (simp [cS_ext] at h; done) | skip
    rename_i fn args kws cp
    cases fn <;> first | (exact absurd h Bool.false_ne_true) | (simp [cS_ext] at h; done) | skip
    rename_i o mname ap
    cases o <;> first | (exact absurd h Bool.false_ne_true) | (simp [cS_ext] at h; done) | skip
    rcases args with _ | ⟨x, _ | ⟨x2, xs⟩⟩ <;> first | (exact absurd h Bool.false_ne_true) | (simp [cS_ext] at h; done) | skip
    rcases kws with _ | ⟨kw, kws⟩ <;> first | (exact absurd h Bool.false_ne_true) | (simp [cS_ext] at h; done) | skip
    simp only [cS_ext, Bool.and_eq_true, decide_eq_true_eq] at h
    obtain ⟨⟨⟨⟨⟨⟨rfl, h2⟩, h3⟩, h4⟩, h5⟩, h6⟩, h7⟩ := h
    exact ds_ext h2 (visB_ok h3) (okN_ok h4).1 (okN_ok h4).2.1 (E.snd e X Wx _ Z.toStat tk h7) (star_ok h5) h6 (one_form h5) rfl rfl
def S.ext (i : Nat) (e : E) : S := ⟨cS_ext i e, fun M F => dExt i (e.d F), sS_ext i e⟩
@[simp] theorem rdS_ext (i : Nat) (e : E) {M : Xm} {F : Fns} : (S.ext i e).rd M F = dExt i (e.d F) := rfl
def cS_raise (c : Nat) (m1 : Es) (M : Xm) (G : Gm) (N : List Str) (sc : Scope) (x0 : Stmt) : Bool := match m1, x0 with
  | .cons a es, .Raise (some (.Call (.Name x _) (l :: ls) [] _)) none _ => xnB M sc c x && M.rs c && noStar l && a.chk G N sc l && es.chk G N sc ls
  | _, _ => false
theorem sS_raise (c : Nat) (es : Es) : SndS (cS_raise c es) (fun M F => dRaise c (M.flds c) (es.d F)) := by
    intro C M G F gd k X Wx st Z tk h
    cases es with
    | nil => cases st <;> exact absurd h Bool.false_ne_true
    | cons a es =>
    cases st <;> first | (exact absurd h Bool.false_ne_true) | (simp [cS_raise] at h; done) | skip
    rename_i v cause p
    cases v <;> first | (exact absurd h Bool.false_ne_true) | (simp [cS_raise] at h; done) | skip
    rename_i v
    cases cause <;> first | (exact absurd h Bool.false_ne_true) | (simp [cS_raise] at h; done) | skip
    · cases v <;> first | (exact absurd h Bool.false_ne_true) | (simp [cS_raise] at h; done) | skip
      rename_i fn args kws cp
      cases fn <;> first | (exact absurd h Bool.false_ne_true) | (simp [cS_raise] at h; done) | skip
      rcases args with _ | ⟨x, xs⟩ <;> first | (exact absurd h Bool.false_ne_true) | (simp [cS_raise] at h; done) | skip
      rcases kws with _ | ⟨kw, kws⟩ <;> first | (exact absurd h Bool.false_ne_true) | (simp [cS_raise] at h; done) | skip
      simp only [cS_raise, Bool.and_eq_true] at h
      obtain ⟨⟨⟨⟨h1, h2⟩, h3⟩, h4⟩, h5⟩ := h
      obtain ⟨a1, a2, a3, a4⟩ := xnB_ok h1
      obtain ⟨⟨fI, zi⟩, hfl⟩ := Z.xmk c _ a1 h2
      exact ds_raise Z.calm tk (mkx_of zi (L2H.roomH_of (Z.room.mono Z.k1)) a3 (Z.xmg c _ a1) (okN_ok a4).1 hfl) (da_cons (E.snd a X Wx _ Z.toStat tk h4) (Es.snd es X Wx _ Z.toStat tk h5) (star_ok h3)) (star_ok h3) (any_ok h5)
def S.raise (c : Nat) (es : Es) : S := ⟨cS_raise c es, fun M F => dRaise c (M.flds c) (es.d F), sS_raise c es⟩
@[simp] theorem rdS_raise (c : Nat) (es : Es) {M : Xm} {F : Fns} : (S.raise c es).rd M F = dRaise c (M.flds c) (es.d F) := rfl
def cS_tryAs (c : Nat) (i : Nat) (k : Sk) (l : List XI) (a : Ss) (M : Xm) (G : Gm) (N : List Str) (sc : Scope) (x0 : Stmt) : Bool := match x0 with
  | .Try body [.ExceptHandler (some (.Name x _)) (some n) [st] _] [] [] _ => xnB M sc c x && decide (N[i]? = some n) && lcB sc n && okN n && (match k.stmt N sc st with
      | some es => xchk n (M.flds c) l es
      | none => false) && a.chk M G N sc body
  | _ => false
theorem sS_tryAs (c : Nat) (i : Nat) (kd : Sk) (l : List XI) (a : Ss) : SndS (cS_tryAs c i kd l a) (fun M F => dTryAs M c i kd l (a.d M F)) := by
    intro C M G F gd k X Wx st Z tk h
    cases st <;> first | (exact absurd h Bool.false_ne_true) | (simp [cS_tryAs] at h; done) | skip
    rename_i body hs els fin p
    rcases hs with _ | ⟨⟨ty, nm, hb, hp⟩, _ | ⟨h2, hs⟩⟩ <;> first | (exact absurd h Bool.false_ne_true) | (simp [cS_tryAs] at h; done) | skip
    rcases ty with _ | ty <;> first | (exact absurd h Bool.false_ne_true) | (simp [cS_tryAs] at h; done) | skip
    cases ty <;> first | (exact absurd h Bool.false_ne_true) | (simp [cS_tryAs] at h; done) | skip
    rcases nm with _ | nm <;> first | (exact absurd h Bool.false_ne_true) | (simp [cS_tryAs] at h; done) | skip
    rcases hb with _ | ⟨st, _ | ⟨st2, hb⟩⟩ <;> first | (exact absurd h Bool.false_ne_true) | (simp [cS_tryAs] at h; done) | skip
    rcases els with _ | ⟨e1, els⟩ <;> first | (exact absurd h Bool.false_ne_true) | (simp [cS_tryAs] at h; done) | skip
    rcases fin with _ | ⟨e1, fin⟩ <;> first | (exact absurd h Bool.false_ne_true) | (simp [cS_tryAs] at h; done) | skip
    simp only [cS_tryAs] at h
    obtain ⟨h, g1⟩ := ba2 h
    obtain ⟨h, g2⟩ := ba2 h
    obtain ⟨h, g3⟩ := ba2 h
    obtain ⟨h, g4⟩ := ba2 h
    obtain ⟨g6, g5⟩ := ba2 h
    obtain ⟨a1, a2, a3, a4⟩ := xnB_ok g6
    split at g2
    · rename_i es he
      exact ds_tryAs Z.xm Z.hK Z.stk Z.frm Z.nd (of_decide_eq_true g5) (lcB_ok g4) (okN_ok g3).1 (okN_ok g3).2.1 a3 (Z.xmg c _ a1) (okN_ok a4).1 a2 tk (fun W pn xe tk' hp => Ss.snd a (X.tr pn xe) W body (Z.tr hp) tk' g1) he g2 (fun _ _ _ => trivial)
    · cases g2
def S.tryAs (c : Nat) (i : Nat) (k : Sk) (l : List XI) (a : Ss) : S := ⟨cS_tryAs c i k l a, fun M F => dTryAs M c i k l (a.d M F), sS_tryAs c i k l a⟩
@[simp] theorem rdS_tryAs (c : Nat) (i : Nat) (k : Sk) (l : List XI) (a : Ss) {M : Xm} {F : Fns} : (S.tryAs c i k l a).rd M F = dTryAs M c i k l (a.d M F) := rfl
def cS_frz (_q0 : Nat) (s : S) (M : Xm) (G : Gm) (N : List Str) (sc : Scope) (x0 : Stmt) : Bool := match x0 with
  | st => s.chk M G N sc st
theorem sS_frz (i : Nat) (s : S) : SndS (cS_frz i s) (fun M F => dFrz i (s.d M F)) := by
    intro C M G F gd k X Wx st Z tk h
    refine ds_frz (S.snd s X Wx st Z tk ?_)
    simp only [cS_frz] at h
    exact h
def S.frz (i : Nat) (s : S) : S := ⟨cS_frz i s, fun M F => dFrz i (s.d M F), sS_frz i s⟩
@[simp] theorem rdS_frz (i : Nat) (s : S) {M : Xm} {F : Fns} : (S.frz i s).rd M F = dFrz i (s.d M F) := rfl
def cS_fzd (_q0 : Nat) (s : S) (M : Xm) (G : Gm) (N : List Str) (sc : Scope) (x0 : Stmt) : Bool := match x0 with
  | st => s.chk M G N sc st
theorem sS_fzd (i : Nat) (s : S) : SndS (cS_fzd i s) (fun M F => dFzd i (s.d M F)) := by
    intro C M G F gd k X Wx st Z tk h
    refine ds_fzd (S.snd s X Wx st Z tk ?_)
    simp only [cS_fzd] at h
    exact h
def S.fzd (i : Nat) (s : S) : S := ⟨cS_fzd i s, fun M F => dFzd i (s.d M F), sS_fzd i s⟩
@[simp] theorem rdS_fzd (i : Nat) (s : S) {M : Xm} {F : Fns} : (S.fzd i s).rd M F = dFzd i (s.d M F) := rfl
end DL
set_option maxHeartbeats 4000000
namespace DL
open PySem PySem.Spec PyProof.Rows L2
section
variable {X : Cx} {C : Cn} {Wx : WX}
end
end DL
set_option maxHeartbeats 8000000
namespace DL
open PySem PySem.Spec PyProof.Rows L2
section
variable {X : Cx} {C : Cn} {Wx : WX} {M : Xm}
open Classical in
end
end DL
set_option maxHeartbeats 4000000
namespace DL
open PySem PySem.Spec PyProof.Rows L2
section
variable {X : Cx} {C : Cn} {Wx : WX}
def Rg.shr (R : Rg) (a : Addr) : Rg := ⟨R.n + 1, fun i => if i = R.n then a else R.at_ i, R.fz⟩
theorem Rg.shr_lt {R : Rg} {a : Addr} {i : Nat} (h : i < R.n) : (R.shr a).at_ i = R.at_ i := if_neg (Nat.ne_of_lt h)
theorem Rg.shr_n {R : Rg} {a : Addr} : (R.shr a).at_ R.n = a := if_pos rfl
theorem Mo.shr {K : Fg} {R : Rg} {H : Hp} {a : Addr} : Mo K R H (R.shr a) H := ⟨Nat.le_succ _, fun _ hi => Rg.shr_lt hi, fun _ _ r => r, fun _ _ r => r, fun _ _ r => r, fun _ _ _ r => r⟩
theorem Env.shr {R : Rg} {ds : DSt} {σ : Sl} {H : Hp} {h : Hs} {xs : List D} {i : Nat} (e : Env C R ds σ H h) (hi : ds[i]? = some (some (.own xs))) :
    ∃ R', Env C R' (ds.set i (some (.d (.ref h.length)))) σ H (h ++ [.lst xs]) ∧ Mo C.K R H R' H := by
  obtain ⟨v, s1, a, vs, ev, q, nf, o, t⟩ := e.slot i _ hi
  subst ev
  have hl : i < ds.length := (List.getElem?_eq_some_iff.mp hi).1
  have h0 := e.own0 i xs a hi s1
  have m : Mo C.K R H (R.shr a) H := Mo.shr
  have hn := e.ok.len
  have ok : HOk' C.K C.Cl (R.shr a) H (h ++ [.lst xs]) := by
    refine ⟨by show (h ++ [O.lst xs]).length = R.n + 1; simp [hn], fun j o' hj => ?_, fun j k hj hk z => ?_, fun j hj z => ?_, e.ok.fzd, e.ok.tab⟩
    · by_cases hjl : j < h.length
      · rw [List.getElem?_append_left hjl] at hj
        obtain ⟨u, e1, r⟩ := e.ok.obj j o' hj
        exact ⟨u, by rw [Rg.shr_lt (by omega)]; exact e1, relO_mo m r⟩
      · have hb : j < (h ++ [O.lst xs]).length := (List.getElem?_eq_some_iff.mp hj).1
        have ej : j = h.length := by simp at hb; omega
        subst ej
        simp at hj
        subst hj
        refine ⟨.lst vs, by rw [hn, Rg.shr_n]; exact q, vs, rfl, relDs_mo m t⟩
    · have hj' : j < R.n + 1 := hj
      have hk' : k < R.n + 1 := hk
      by_cases ej : j = R.n
      · by_cases ek : k = R.n
        · omega
        · subst ej
          rw [Rg.shr_n, Rg.shr_lt (by omega)] at z
          exact absurd z.symm (o k (by omega))
      · by_cases ek : k = R.n
        · subst ek
          rw [Rg.shr_n, Rg.shr_lt (by omega)] at z
          exact absurd z (o j (by omega))
        · rw [Rg.shr_lt (by omega), Rg.shr_lt (by omega)] at z
          exact e.ok.inj j k (by omega) (by omega) z
    · have hj' : j < R.n + 1 := hj
      by_cases ej : j = R.n
      · subst ej
        rw [Rg.shr_n] at z
        exact nf z
      · rw [Rg.shr_lt (by omega)] at z
        exact e.ok.nfz j (by omega) z
  have ex : Ex C.R₀ C.H₀ (R.shr a) H := by
    refine ⟨Nat.le_trans e.ex.le (Nat.le_succ _), fun j hj => ?_, e.ex.fz, fun j hj hj2 => ?_, e.ex.nfz, e.ex.frm, e.ex.dom, e.ex.lk⟩
    · rw [Rg.shr_lt (Nat.lt_of_lt_of_le hj e.ex.le)]
      exact e.ex.at_ j hj
    · have hj2 : j < R.n + 1 := hj2
      by_cases ej : j = R.n
      · subst ej
        rw [Rg.shr_n]
        exact h0
      · rw [Rg.shr_lt (by omega)]
        exact e.ex.nat j hj (by omega)
  refine ⟨R.shr a, ⟨ok, ex, by simp [e.len], fun j w q1 => ?_, fun j zs q1 => ?_, fun j k zs ws b q1 t1 q2 t2 => ?_, fun j zs b q1 t1 => ?_⟩, m⟩
  · by_cases hj : j = i
    · subst hj
      rw [List.getElem?_set_self hl] at q1
      cases q1
      refine ⟨.ref a, s1, ?_⟩
      show RelD C.K (R.shr a) H (.ref h.length) (.ref a)
      unfold RelD
      exact ⟨by show h.length < R.n + 1; omega, by rw [hn, Rg.shr_n]⟩
    · rw [List.getElem?_set_ne (Ne.symm hj)] at q1
      obtain ⟨v2, s2, r2⟩ := e.slot j w q1
      refine ⟨v2, s2, ?_⟩
      cases w with
      | d y => exact relD_mo m r2
      | new zs => exact absurd q1 (e.nnew j zs)
      | fn _ => exact r2
      | own zs =>
        obtain ⟨b, ws, ev2, q2, nf2, o2, t2⟩ := r2
        subst ev2
        refine ⟨b, ws, rfl, q2, nf2, fun k hk z => ?_, relDs_mo m t2⟩
        have hk : k < R.n + 1 := hk
        by_cases ek : k = R.n
        · subst ek
          rw [Rg.shr_n] at z
          subst z
          exact hj (e.own j i zs xs a q1 s2 hi s1)
        · rw [Rg.shr_lt (by omega)] at z
          exact o2 k (by omega) z
  · by_cases hj : j = i
    · subst hj; rw [List.getElem?_set_self hl] at q1; cases q1
    · rw [List.getElem?_set_ne (Ne.symm hj)] at q1; exact e.nnew j zs q1
  · by_cases hj : j = i
    · subst hj; rw [List.getElem?_set_self hl] at q1; cases q1
    by_cases hk : k = i
    · subst hk; rw [List.getElem?_set_self hl] at q2; cases q2
    rw [List.getElem?_set_ne (Ne.symm hj)] at q1
    rw [List.getElem?_set_ne (Ne.symm hk)] at q2
    exact e.own j k zs ws b q1 t1 q2 t2
  · by_cases hj : j = i
    · subst hj; rw [List.getElem?_set_self hl] at q1; cases q1
    · rw [List.getElem?_set_ne (Ne.symm hj)] at q1; exact e.own0 j zs b q1 t1
/-- an own list becomes a shared object, ahead of a statement -/
def dShr (i : Nat) (t : TDS) : TDS := fun ds h P => ∃ xs, ds[i]? = some (some (.own xs)) ∧ t (ds.set i (some (.d (.ref h.length)))) (h ++ [.lst xs]) P
theorem ds_shr {i : Nat} {st : Stmt} {t : TDS} (hs : PS X st (liftS C Wx t)) : PS X st (liftS C Wx (dShr i t)) := hs.imD fun D σ H q => by
  obtain ⟨R, ds, h, P, e, ⟨xs, hi, p⟩, k⟩ := q
  obtain ⟨R', e', m⟩ := e.shr hi
  exact ⟨R', _, _, P, e', p, k.later m⟩
end
def cS_shr (_q0 : Nat) (s : S) (M : Xm) (G : Gm) (N : List Str) (sc : Scope) (x0 : Stmt) : Bool := match x0 with
  | st => s.chk M G N sc st
theorem sS_shr (i : Nat) (s : S) : SndS (cS_shr i s) (fun M F => dShr i (s.d M F)) := by
    intro C M G F gd k X Wx st Z tk h
    refine ds_shr (S.snd s X Wx st Z tk ?_)
    simp only [cS_shr] at h
    exact h
def S.shr (i : Nat) (s : S) : S := ⟨cS_shr i s, fun M F => dShr i (s.d M F), sS_shr i s⟩
@[simp] theorem rdS_shr (i : Nat) (s : S) {M : Xm} {F : Fns} : (S.shr i s).rd M F = dShr i (s.d M F) := rfl
section
variable {X : Cx} {C : Cn} {Wx : WX}
end
end DL
set_option maxHeartbeats 4000000
namespace DL
open PySem PySem.Spec PyProof.Rows L2
section
variable {X : Cx} {C : Cn} {Wx : WX}
end
end DL
set_option maxHeartbeats 4000000
namespace L2
open PySem PySem.Spec PyProof.Rows
def mergeT (acc : List (List Key × V)) (kvs : List (List Key × V)) : List (List Key × V) := kvs.foldl (fun acc p => putK acc p.1 p.2) acc
section
variable {X : Cx}
theorem KT.all {H : Hp} : ∀ {kvs : List (List Key × V)} {xs : List (List Key × Addr × Value)} {acc : List (List Key × V)} {acs : List (List Key × Addr × Value)}, KT H kvs xs → KT H acc acs → KT H (mergeT acc kvs) (storedAllH acs xs)
  | _, _, _, _, .nil, r => r
  | _, _, acc, acs, .cons (a := p) (b := q) h t, r => by
    obtain ⟨e, hb, rv⟩ := h
    have := KT.all t (r.put p.1 hb rv)
    show KT H (mergeT (putK acc p.1 p.2) _) (storedAllH (storedH acs q.1 q.2.1 q.2.2) _)
    rw [← e]
    exact this
end
end L2
namespace DL
open PySem PySem.Spec PyProof.Rows L2
section
variable {K : Fg} {R : Rg} {H : Hp}
end
section
variable {X : Cx} {C : Cn} {Wx : WX}
end
end DL
set_option maxHeartbeats 4000000
namespace DL
open PySem PySem.Spec PyProof.Rows L2
section
variable {X : Cx} {C : Cn} {Wx : WX}
/-- a.split(b) -/
def dSpl (ta tb : TDE) : TDE := fun ds h P Z => ta ds h (fun x h1 => (∃ a, x = .d (.str a)) ∧ tb ds h1 (fun y h2 => ∃ a b, x = .d (.str a) ∧ y = .d (.str b) ∧ (b.length == 0) = false ∧ a.length + 2 ≤ sizeLine ∧ P (.new ((Txt.split a b).map D.str)) h2) Z) Z
theorem de_spl {o b : Expr} {ta tb : TDE} {apos pos : Pos} (ha : PE X o (lift C Wx ta)) (hb : PE X b (lift C Wx tb)) (hs : starEach [b] X.env = [(false, eval b X.env)]) (hbase : attributeBase o "split" X.env (eval o X.env) = eval o X.env) (hline : (apos.endLine == pos.line) = true) :
    PE X (.Call (.Attribute o "split" apos) [b] [] pos) (lift C Wx (dSpl ta tb)) :=
  (pe_split ha hb hs hbase hline).imD fun σ H Q q => by
    obtain ⟨R, ds, h, P, Z, e, p, kk, z⟩ := q
    refine ⟨R, ds, h, _, Z, e, p, fun R1 H1 h1 w1 v1 ⟨⟨a, ex⟩, p1⟩ x1 e1 r1 => ?_, z⟩
    subst ex
    cases rw_str r1
    refine ⟨⟨_, rfl⟩, R1, ds, h1, _, Z, e1, p1, fun R2 H2 h2 w2 v2 ⟨a', y, ea, ey, b1, b2, p2⟩ x2 e2 r2 => ?_, fun R' H' h' x cls dd a b c d => z R' H' h' x cls dd a (x1.trans b) c d⟩
    cases ea
    subst ey
    cases rw_str r2
    exact ⟨_, _, rfl, rfl, b1, b2, fun l nl => kk R2 _ h2 _ _ p2 ((x1.trans x2).trans (Ex.fresh nl)) (e2.fresh nl) (m_new e2 (x1.trans x2) nl (relDs_mkstrs id _))⟩
/-- x.pop(e) as a statement, x an own list -/
def dPopD (i : Nat) (t : TDE) : TDS := fun ds h P => ∃ xs, ds[i]? = some (some (.own xs)) ∧ dD t ds h (fun w h1 => ∃ k q d, w = .int k ∧ -(2 ^ 63) ≤ k ∧ k < 2 ^ 63 ∧ seqIndex? k xs.length = some q ∧ xs[q]? = some d ∧
  P.nx (ds.set i (some (.own (xs.eraseIdx q)))) h1) (fun x h' => P.ex x ds h')
theorem ds_popD {i : Nat} {x : Str} {e : Expr} {t : TDE} {p1 apos cpos pos : Pos} (hN : X.N[i]? = some x) (hv : Vis X.env.scope x) (hd : (x == ("__debug__" : Str)) = false) (hcd : (x == ("__classdict__" : Str)) = false) (he : PE X e (lift C Wx t))
    (hs : starEach [e] X.env = (false, eval e X.env) :: starEach [] X.env) (hline : (apos.endLine == cpos.line) = true) (hpl : (((backTo cpos (starEach [e] X.env)).all (fun x => !x.1) && (backToKw cpos (keywordEach [] X.env)).all fun x => x.1.isSome) && decide (([e].length + ([] : List Keyword).length + if ([] : List Keyword).isEmpty = true then 0 else 1) < 30)) = true)
    (hb : attributeBase (.Name x p1) "pop" X.env (eval (.Name x p1) X.env) = eval (.Name x p1) X.env)
    (hsw : swapsWith (.Call (.Attribute (.Name x p1) "pop" apos) [e] [] cpos) none pos.line X.env = pure false) :
    PS X (.Expr (.Call (.Attribute (.Name x p1) "pop" apos) [e] [] cpos) pos) (liftS C Wx (dPopD i t)) :=
  (ps_expr (pe_bm PySem.F.plainAttrs_list PySem.F.slot_list_pop PySem.F.type_list_pop mt_popAt (pe_var hN hv hd hcd) (pa_cons (pe_D he) pa_nil hs) hb hpl hline hs) hsw).imD fun D σ H q => by
    obtain ⟨R, ds, h, P, e, ⟨xs, hi, p⟩, k⟩ := q
    obtain ⟨v, hv, a, vs, rfl, q, nf, o, tt⟩ := e.slot i _ hi
    refine ⟨.ref a, hv, .inl ⟨rfl, vs, .inl (.inl q)⟩, R, ds, h, _, _, e, p, fun R' H' h' w u ⟨kk, q, d, hw, l1, l2, sq, hx, p'⟩ x e' r => ?_, k.exE e⟩
    subst hw
    cases r_int r
    have rs := e'.relW hi hv
    obtain ⟨a', vs', ea, q', nf', o', tt'⟩ := rs
    cases ea
    obtain ⟨u2, hu2, ru2⟩ := relDs_get tt' hx
    obtain ⟨e2, m2⟩ := e'.wr hi hv (relDs_erase q tt')
    exact ⟨a, vs', kk, q, u2, rfl, rfl, q', l1, l2, by rw [← relDs_len tt']; exact sq, hu2, k.nx R' _ _ _ h' e2 ((x.mo e.ok).trans m2) p'⟩
/-- x.insert(a, b) as a statement, x an own list -/
def dIns (i : Nat) (ta tb : TDE) : TDS := fun ds h P => ∃ xs, ds[i]? = some (some (.own xs)) ∧ xs.length < sizeLine ∧ dD ta ds h (fun w h1 => ∃ k : Nat, w = .int k ∧ (k : Int) < 2 ^ 63 ∧ dD tb ds h1 (fun d h2 => P.nx (ds.set i (some (.own (xs.take k ++ [d] ++ xs.drop k)))) h2) (fun x h' => P.ex x ds h')) (fun x h' => P.ex x ds h')
theorem ds_ins {i : Nat} {x : Str} {e f : Expr} {t u : TDE} {p1 apos cpos pos : Pos} (hN : X.N[i]? = some x) (hv : Vis X.env.scope x) (hd : (x == ("__debug__" : Str)) = false) (hcd : (x == ("__classdict__" : Str)) = false) (he : PE X e (lift C Wx t)) (hf : PE X f (lift C Wx u))
    (hs : starEach (e :: [f]) X.env = (false, eval e X.env) :: starEach [f] X.env) (hs2 : starEach [f] X.env = (false, eval f X.env) :: starEach [] X.env) (hline : (apos.endLine == cpos.line) = true) (hpl : (((backTo cpos (starEach (e :: [f]) X.env)).all (fun x => !x.1) && (backToKw cpos (keywordEach [] X.env)).all fun x => x.1.isSome) && decide (((e :: [f]).length + ([] : List Keyword).length + if ([] : List Keyword).isEmpty = true then 0 else 1) < 30)) = true)
    (hpl2 : (backTo cpos (starEach [f] X.env)).any (·.1) = false)
    (hb : attributeBase (.Name x p1) "insert" X.env (eval (.Name x p1) X.env) = eval (.Name x p1) X.env)
    (hsw : swapsWith (.Call (.Attribute (.Name x p1) "insert" apos) [e, f] [] cpos) none pos.line X.env = pure false) :
    PS X (.Expr (.Call (.Attribute (.Name x p1) "insert" apos) [e, f] [] cpos) pos) (liftS C Wx (dIns i t u)) :=
  (ps_expr (pe_bm PySem.F.plainAttrs_list PySem.F.slot_list_insert PySem.F.type_list_insert mt_insert (pe_var hN hv hd hcd) (pa_cons (pe_D he) (pa_cons (pe_D hf) pa_nil hs2) hs) hb hpl hline hs hpl2) hsw).imD fun D σ H q => by
    obtain ⟨R, ds, h, P, e, ⟨xs, hi, hl, p⟩, k⟩ := q
    obtain ⟨v, hv, a, vs, rfl, q, nf, o, tt⟩ := e.slot i _ hi
    refine ⟨.ref a, hv, .inl ⟨rfl, vs, .inl (.inl q)⟩, R, ds, h, _, _, e, p, fun R1 H1 h1 w u ⟨n, hw, hn, p'⟩ x1 e1 r1 => ?_, k.exE e⟩
    subst hw
    cases r_int r1
    refine ⟨R1, ds, h1, _, _, e1, p', fun R2 H2 h2 d u2 p2 x2 e2 r2 => ?_, (k.later (x1.mo e.ok)).exE e1⟩
    have rs := e2.relW hi hv
    obtain ⟨a', vs', ea, q', nf', o', tt'⟩ := rs
    cases ea
    obtain ⟨e3, m3⟩ := e2.wr hi hv (relDs_append (relDs_append (relDs_take n tt') (relDs_one r2)) (relDs_drop n tt'))
    exact ⟨a, vs', (n : Int), u2, rfl, rfl, q', by rw [← relDs_len tt']; exact hl, Int.natCast_nonneg n, hn, k.nx R2 _ σ _ h2 e3 (((x1.trans x2).mo e.ok).trans m3) p2⟩
/-- a starred item ahead of others -/
def dStarC (t : TDE) (u : TDA) : TDA := fun ds h P Z => t ds h (fun w h1 => ∃ xs, seqW w = some xs ∧ u ds h1 (fun ys h2 => P (xs ++ ys) h2) Z) Z
theorem da_starC {e : Expr} {es : List Expr} {t : TDE} {u : TDA} {p : Pos} (hK : C.K = X.K) (he : PE X e (lift C Wx t)) (hr : PA X es (liftA C Wx u)) : PA X (.Starred e p :: es) (liftA C Wx (dStarC t u)) :=
  (StX.pa_star he hr).imD fun σ H Q q => by
    obtain ⟨R, ds, h, P, Z, e, p, k, z⟩ := q
    refine ⟨R, ds, h, _, Z, e, p, fun R1 H1 h1 w1 v1 ⟨xs, hx, p1⟩ x1 e1 r1 => ?_, z⟩
    obtain ⟨a, vs, rfl, q, t⟩ := rel_seq r1 hx
    refine ⟨a, vs, rfl, hK ▸ q.symm, R1, ds, h1, _, Z, e1, p1, fun R2 H2 h2 ys us p2 x2 e2 r2 => ?_, fun R' H' h' x cls dd a b c d => z R' H' h' x cls dd a (x1.trans b) c d⟩
    exact k R2 H2 h2 _ _ p2 (x1.trans x2) e2 (relDs_append (relDs_ex e1.ok x2 t) r2)
end
end DL
namespace L2
open PySem PySem.Spec PyProof.Rows
section
variable {X : Cx}
/-- a case of a text -/
theorem mc_str {x y : Str} {j : Nat} {p pp : Pos} {v : Value} {pins : List (Addr × Obj)} {s : Shared} {σ : St} {H : Hp} {Q : Option (List (Str × Value)) → Shared → Prop} (I : Inv X pins σ H s) (rv : RelV (.str x) v)
    (q : ∀ s', Inv X pins σ H s' → Q (if x = y then some [] else none) s') : wpAny (model X.prog X.w) X.A (matchPattern (.MatchValue (.Constant (.str y) j p) pp) X.env v) Q X.xe s := by
  refine wpAny_matchPattern_Value (thn (pe_str.run pins s σ H (fun w H1 => w = .str y ∧ H1 = H) I ⟨rfl, rfl⟩) fun u s1 ⟨w, H1, I1, rw, ew, eH⟩ => ?_)
  subst ew eH
  refine thn (op_eq pins s1 σ _ (.str x) (.str y) v u (fun w H2 => w = .bl (decide (x = y)) ∧ H2 = H1) I1 rv rw ?_) fun c s2 ⟨w, H2, I2, rc, ec, eH⟩ => ?_
  · exact ⟨rfl, by simp, rfl⟩
  subst ec eH
  cases rc
  refine wpAny_truthy_bool ?_
  have := q s2 I2
  by_cases h : x = y
  · simpa [h] using this
  · simpa [h] using this
/-- the cases one after another: texts, and at last anything -/
inductive MCs (X : Cx) : List (Str × TS) → TS → List MatchCase → Prop where
  | last {t : TS} {p : Pos} {body : List Stmt} (h : PSs X body t) : MCs X [] t [⟨.MatchAs none none p, none, body⟩]
  | case {y : Str} {t d : TS} {cs : List (Str × TS)} {j : Nat} {p pp : Pos} {body : List Stmt} {rest : List MatchCase} (h : PSs X body t) (r : MCs X cs d rest) : MCs X ((y, t) :: cs) d (⟨.MatchValue (.Constant (.str y) j p) pp, none, body⟩ :: rest)
def tPick (x : Str) : List (Str × TS) → TS → TS
  | [], d => d
  | (y, t) :: cs, d => if x = y then t else tPick x cs d
theorem mcs_run {x : Str} {v : Value} {pins : List (Addr × Obj)} {σ : St} {H : Hp} {D : Ends} (rv : RelV (.str x) v) : ∀ {cs : List (Str × TS)} {d : TS} {cases : List MatchCase}, MCs X cs d cases → ∀ (s : Shared) (first : Bool), Inv X pins σ H s → tPick x cs d D σ H →
    wpAny (model X.prog X.w) X.A (matchCases cases X.env v first) (SP X pins D) X.xe s
  | _, _, _, .last h, s, first, I, q => by
    refine wpAny_matchCases_cons (wpAny_matchPattern_Capture ?_)
    exact wpAny_assignInOrder_none (h.run pins s σ H D I q)
  | _, _, _, .case (y := y) (t := t) h r, s, first, I, q => by
    refine wpAny_matchCases_cons (mc_str I rv fun s' I' => ?_)
    unfold tPick at q
    by_cases e : x = y
    · rw [if_pos e] at q ⊢
      exact wpAny_assignInOrder_none (h.run pins s' σ H D I' q)
    · rw [if_neg e] at q ⊢
      exact mcs_run rv r s' false I' q
def tMch (te : TE) (cs : List (Str × TS)) (d : TS) : TS := fun D σ H => te σ H fun w H1 => ∃ x, w = .str x ∧ tPick x cs d D σ H1
theorem ps_mch {e : Expr} {te : TE} {cs : List (Str × TS)} {d : TS} {cases : List MatchCase} {pos : Pos} (he : PE X e te) (hc : MCs X cs d cases) : PS X (.Match e cases pos) (tMch te cs d) := by
  refine ⟨fun pins s σ H D I h => ?_⟩
  refine wpAny_Match (thn (he.run pins s σ H _ I h) fun v s1 ⟨w, H1, I1, r1, x, ew, q⟩ => ?_)
  subst ew
  exact mcs_run r1 hc s1 true I1 q
end
end L2
namespace DL
open PySem PySem.Spec PyProof.Rows L2
def dPick (x : Str) : List (Str × TDS) → TDS → TDS
  | [], d => d
  | (y, t) :: cs, d => if x = y then t else dPick x cs d
def dMch (t : TDE) (cs : List (Str × TDS)) (d : TDS) : TDS := fun ds h P => t ds h (fun w h1 => ∃ x, w = .d (.str x) ∧ dPick x cs d ds h1 P) (fun x h' => P.ex x ds h')
section
variable {X : Cx} {C : Cn} {Wx : WX}
theorem pick_lift {x : Str} {d : TDS} : ∀ (cs : List (Str × TDS)) {D : Ends} {σ : Sl} {H : Hp}, liftS C Wx (dPick x cs d) D σ H → tPick x (cs.map fun c => (c.1, liftS C Wx c.2)) (liftS C Wx d) D σ H
  | [], _, _, _, q => q
  | (y, t) :: cs, _, _, _, q => by
    show (if x = y then liftS C Wx t else tPick x (cs.map fun c => (c.1, liftS C Wx c.2)) (liftS C Wx d)) _ _ _
    unfold dPick at q
    by_cases e : x = y
    · rw [if_pos e] at q ⊢; exact q
    · rw [if_neg e] at q ⊢; exact pick_lift cs q
theorem ds_mch {e : Expr} {t : TDE} {cs : List (Str × TDS)} {d : TDS} {cases : List MatchCase} {pos : Pos} (he : PE X e (lift C Wx t)) (hc : MCs X (cs.map fun c => (c.1, liftS C Wx c.2)) (liftS C Wx d) cases) : PS X (.Match e cases pos) (liftS C Wx (dMch t cs d)) :=
  (ps_mch he hc).imD fun D σ H q => by
    obtain ⟨R, ds, h, P, e, p, k⟩ := q
    refine ⟨R, ds, h, _, _, e, p, fun R1 H1 h1 w u ⟨x, hw, p1⟩ x1 e1 r1 => ?_, k.exE e⟩
    subst hw
    cases rw_str r1
    exact ⟨x, rfl, pick_lift cs ⟨R1, ds, h1, P, e1, p1, k.later (x1.mo e.ok)⟩⟩
end
end DL
namespace DL
open PySem PySem.Spec PyProof.Rows L2
def cE_spl (a : E) (b : E) (G : Gm) (N : List Str) (sc : Scope) (x0 : Expr) : Bool := match x0 with
  | .Call (.Attribute l m ap) [r] [] cp => decide (m = "split") && (ap.endLine == cp.line) && noC0 l && noStar r && a.chk G N sc l && b.chk G N sc r
  | _ => false
theorem sE_spl (a : E) (b : E) : SndE (cE_spl a b) (fun F => dSpl (a.d F) (b.d F)) := by
    intro C G F gd kq X Wx e S tk h
    cases e <;> first | (exact absurd h Bool.false_ne_true) | skip
    rename_i f ls kw p
    cases f <;> rcases ls with _ | ⟨r, _ | ⟨r2, ls⟩⟩ <;> rcases kw with _ | ⟨k1, kw⟩ <;> first | (exact absurd h Bool.false_ne_true) | skip
    simp only [cE_spl] at h
    obtain ⟨h, g1⟩ := ba2 h
    obtain ⟨h, g2⟩ := ba2 h
    obtain ⟨h, g3⟩ := ba2 h
    obtain ⟨h, g4⟩ := ba2 h
    obtain ⟨g6, g5⟩ := ba2 h
    cases of_decide_eq_true g6
    exact de_spl (E.snd a X Wx _ S tk g2) (E.snd b X Wx r S tk g1) (star_ok g3) (base_ok g4) g5
def E.spl (a : E) (b : E) : E := ⟨cE_spl a b, fun F => dSpl (a.d F) (b.d F), fun _ _ _ _ _ => False, sE_spl a b, noT⟩
@[simp] theorem rdE_spl (a : E) (b : E) {F : Fns} : (E.spl a b).rd F = dSpl (a.d F) (b.d F) := rfl
@[simp] theorem rtE_spl (a : E) (b : E) {F : Fns} : (E.spl a b).rt F = (fun _ _ _ _ => False) := rfl
def starD (F : Fns) : List (Bool × E) → TDA
  | [] => dNil
  | (true, e) :: r => dStarC (e.d F) (starD F r)
  | (false, e) :: r => dCons (e.d F) (starD F r)
def starB (G : Gm) (N : List Str) (sc : Scope) : List (Bool × E) → List Expr → Bool
  | [], [] => true
  | (true, e) :: r, .Starred x _ :: ls => e.chk G N sc x && starB G N sc r ls
  | (false, e) :: r, x :: ls => noStar x && e.chk G N sc x && starB G N sc r ls
  | _, _ => false
theorem st_snd {C : Cn} {G : Gm} {F : Fns} {gd : Bool} {k : Nat} {X : Cx} {Wx : WX} (S : Stat G F C gd k X) (tk : Takes X Wx) : ∀ (l : List (Bool × E)) (ls : List Expr), starB G X.N X.env.scope l ls = true → PA X ls (liftA C Wx (starD F l))
  | [], [], _ => da_nil
  | [], _ :: _, h => by simp [starB] at h
  | (true, e) :: r, [], h => by simp [starB] at h
  | (false, e) :: r, [], h => by simp [starB] at h
  | (true, e) :: r, x :: ls, h => by
    cases x <;> first | (simp [starB] at h; done) | skip
    unfold starB at h
    obtain ⟨h1, h2⟩ := ba2 h
    exact da_starC S.hK (E.snd e X Wx _ S tk h1) (st_snd S tk r ls h2)
  | (false, e) :: r, x :: ls, h => by
    unfold starB at h
    obtain ⟨h, h2⟩ := ba2 h
    obtain ⟨h0, h1⟩ := ba2 h
    exact da_cons (E.snd e X Wx x S tk h1) (st_snd S tk r ls h2) (star_ok h0)
def cE_tupM (l : List (Bool × E)) (G : Gm) (N : List Str) (sc : Scope) (x0 : Expr) : Bool := match x0 with
  | .Tuple ls _ _ => starB G N sc l ls
  | _ => false
theorem sE_tupM (l : List (Bool × E)) : SndE (cE_tupM l) (fun F => dTup (starD F l)) := by
    intro C G F gd k X Wx e S tk h
    cases e <;> first | (exact absurd h Bool.false_ne_true) | skip
    exact de_tup (st_snd S tk l _ h)
def E.tupM (l : List (Bool × E)) : E := ⟨cE_tupM l, fun F => dTup (starD F l), fun _ _ _ _ _ => False, sE_tupM l, noT⟩
@[simp] theorem rdE_tupM (l : List (Bool × E)) {F : Fns} : (E.tupM l).rd F = dTup (starD F l) := rfl
@[simp] theorem rtE_tupM (l : List (Bool × E)) {F : Fns} : (E.tupM l).rt F = (fun _ _ _ _ => False) := rfl
end DL
namespace DL
open PySem PySem.Spec PyProof.Rows L2
def cS_popD (i : Nat) (e : E) (M : Xm) (G : Gm) (N : List Str) (sc : Scope) (x0 : Stmt) : Bool := match x0 with
  | .Expr (.Call (.Attribute (.Name y _) m ap) [x] [] cp) _ => decide (m = "pop") && decide (N[i]? = some y) && visB sc y && okN y && noStar x && (ap.endLine == cp.line) && e.chk G N sc x
  | _ => false
theorem sS_popD (i : Nat) (e : E) : SndS (cS_popD i e) (fun M F => dPopD i (e.d F)) := by
    intro C M G F gd k X Wx st Z tk h
    cases st <;> first | (exact absurd h Bool.false_ne_true) | (simp [cS_popD] at h; done) | skip
    rename_i v p
    cases v <;> first | (exact absurd h Bool.false_ne_true) | (simp [cS_popD] at h; done) | skip
    rename_i fn args kws cp
    cases fn <;> first | (exact absurd h Bool.false_ne_true) | (simp [cS_popD] at h; done) | skip
    rename_i o mname ap
    cases o <;> first | (exact absurd h Bool.false_ne_true) | (simp [cS_popD] at h; done) | skip
    rcases args with _ | ⟨x, _ | ⟨x2, xs⟩⟩ <;> first | (exact absurd h Bool.false_ne_true) | (simp [cS_popD] at h; done) | skip
    rcases kws with _ | ⟨kw, kws⟩ <;> first | (exact absurd h Bool.false_ne_true) | (simp [cS_popD] at h; done) | skip
    simp only [cS_popD, Bool.and_eq_true, decide_eq_true_eq] at h
    obtain ⟨⟨⟨⟨⟨⟨rfl, h2⟩, h3⟩, h4⟩, h5⟩, h6⟩, h7⟩ := h
    exact ds_popD h2 (visB_ok h3) (okN_ok h4).1 (okN_ok h4).2.1 (E.snd e X Wx _ Z.toStat tk h7) (star_ok h5) h6 (one_form h5) rfl rfl
def S.popD (i : Nat) (e : E) : S := ⟨cS_popD i e, fun M F => dPopD i (e.d F), sS_popD i e⟩
@[simp] theorem rdS_popD (i : Nat) (e : E) {M : Xm} {F : Fns} : (S.popD i e).rd M F = dPopD i (e.d F) := rfl
theorem two_form {e f : Expr} {cp : Pos} {env : PySem.Env} (h : noStar e = true) (h2 : noStar f = true) : (((backTo cp (starEach (e :: [f]) env)).all (fun x => !x.1) && (backToKw cp (keywordEach [] env)).all fun x => x.1.isSome) && decide (((e :: [f]).length + ([] : List Keyword).length + if ([] : List Keyword).isEmpty = true then 0 else 1) < 30)) = true := by
  rw [star_ok h, star_ok h2]; rfl
theorem one_any {f : Expr} {cp : Pos} {env : PySem.Env} (h2 : noStar f = true) : (backTo cp (starEach [f] env)).any (·.1) = false := by
  rw [star_ok h2]; rfl
def cS_ins (i : Nat) (a b : E) (M : Xm) (G : Gm) (N : List Str) (sc : Scope) (x0 : Stmt) : Bool := match x0 with
  | .Expr (.Call (.Attribute (.Name y _) m ap) [x, z] [] cp) _ => decide (m = "insert") && decide (N[i]? = some y) && visB sc y && okN y && noStar x && noStar z && (ap.endLine == cp.line) && a.chk G N sc x && b.chk G N sc z
  | _ => false
theorem sS_ins (i : Nat) (a b : E) : SndS (cS_ins i a b) (fun M F => dIns i (a.d F) (b.d F)) := by
    intro C M G F gd k X Wx st Z tk h
    cases st <;> first | (exact absurd h Bool.false_ne_true) | (simp [cS_ins] at h; done) | skip
    rename_i v p
    cases v <;> first | (exact absurd h Bool.false_ne_true) | (simp [cS_ins] at h; done) | skip
    rename_i fn args kws cp
    cases fn <;> first | (exact absurd h Bool.false_ne_true) | (simp [cS_ins] at h; done) | skip
    rename_i o mname ap
    cases o <;> first | (exact absurd h Bool.false_ne_true) | (simp [cS_ins] at h; done) | skip
    rcases args with _ | ⟨x, _ | ⟨z, _ | ⟨x3, xs⟩⟩⟩ <;> first | (exact absurd h Bool.false_ne_true) | (simp [cS_ins] at h; done) | skip
    rcases kws with _ | ⟨kw, kws⟩ <;> first | (exact absurd h Bool.false_ne_true) | (simp [cS_ins] at h; done) | skip
    simp only [cS_ins, Bool.and_eq_true, decide_eq_true_eq] at h
    obtain ⟨⟨⟨⟨⟨⟨⟨⟨rfl, h2⟩, h3⟩, h4⟩, h5⟩, h6⟩, h7⟩, h8⟩, h9⟩ := h
    exact ds_ins h2 (visB_ok h3) (okN_ok h4).1 (okN_ok h4).2.1 (E.snd a X Wx _ Z.toStat tk h8) (E.snd b X Wx _ Z.toStat tk h9) (star_ok h5) (star_ok h6) h7 (two_form h5 h6) (one_any h6) rfl rfl
def S.ins (i : Nat) (a b : E) : S := ⟨cS_ins i a b, fun M F => dIns i (a.d F) (b.d F), sS_ins i a b⟩
@[simp] theorem rdS_ins (i : Nat) (a b : E) {M : Xm} {F : Fns} : (S.ins i a b).rd M F = dIns i (a.d F) (b.d F) := rfl
def mcB (M : Xm) (G : Gm) (N : List Str) (sc : Scope) : List (Str × Ss) → Ss → List MatchCase → Bool
  | [], d, [⟨.MatchAs none none _, none, body⟩] => d.chk M G N sc body
  | (x, b) :: cs, d, ⟨.MatchValue (.Constant (.str y) _ _) _, none, body⟩ :: rest => decide (x = y) && b.chk M G N sc body && mcB M G N sc cs d rest
  | _, _, _ => false
theorem mc_snd {C : Cn} {M : Xm} {G : Gm} {F : Fns} {gd : Bool} {k : Nat} {X : Cx} {Wx : WX} (Z : StatS M G F C gd k X) (tk : Takes X Wx) (d : Ss) : ∀ (cs : List (Str × Ss)) (cases : List MatchCase), mcB M G X.N X.env.scope cs d cases = true →
    MCs X ((cs.map fun c => (c.1, c.2.d M F)).map fun c => (c.1, liftS C Wx c.2)) (liftS C Wx (d.d M F)) cases
  | [], cases, h => by
    unfold mcB at h
    split at h <;> first | (rename_i a b; exact absurd h Bool.false_ne_true) | skip
    all_goals first | (exact .last (Ss.snd _ X Wx _ Z tk h)) | (cases h; done) | (rename_i e; cases e)
  | (x, b) :: cs, cases, h => by
    rcases cases with _ | ⟨⟨pt, gd, body⟩, rest⟩
    · simp [mcB] at h
    · cases gd with
      | some g => cases pt <;> simp [mcB] at h
      | none =>
        cases pt <;> first | (simp [mcB] at h; done) | skip
        rename_i ex pp
        cases ex <;> first | (simp [mcB] at h; done) | skip
        rename_i c j p
        cases c <;> first | (simp [mcB] at h; done) | skip
        unfold mcB at h
        obtain ⟨h, h3⟩ := ba2 h
        obtain ⟨h1, h2⟩ := ba2 h
        cases of_decide_eq_true h1
        exact .case (Ss.snd b X Wx _ Z tk h2) (mc_snd Z tk d cs rest h3)
def cS_mch (e : E) (cs : List (Str × Ss)) (d : Ss) (M : Xm) (G : Gm) (N : List Str) (sc : Scope) (x0 : Stmt) : Bool := match x0 with
  | .Match x cases _ => e.chk G N sc x && mcB M G N sc cs d cases
  | _ => false
theorem sS_mch (e : E) (cs : List (Str × Ss)) (d : Ss) : SndS (cS_mch e cs d) (fun M F => dMch (e.d F) (cs.map fun c => (c.1, c.2.d M F)) (d.d M F)) := by
    intro C M G F gd k X Wx st Z tk h
    cases st <;> first | (exact absurd h Bool.false_ne_true) | (simp [cS_mch] at h; done) | skip
    simp only [cS_mch] at h
    obtain ⟨h1, h2⟩ := ba2 h
    exact ds_mch (E.snd e X Wx _ Z.toStat tk h1) (mc_snd Z tk d cs _ h2)
def S.mch (e : E) (cs : List (Str × Ss)) (d : Ss) : S := ⟨cS_mch e cs d, fun M F => dMch (e.d F) (cs.map fun c => (c.1, c.2.d M F)) (d.d M F), sS_mch e cs d⟩
@[simp] theorem rdS_mch (e : E) (cs : List (Str × Ss)) (d : Ss) {M : Xm} {F : Fns} : (S.mch e cs d).rd M F = dMch (e.d F) (cs.map fun c => (c.1, c.2.d M F)) (d.d M F) := rfl
end DL
set_option maxHeartbeats 8000000
namespace DL
open PySem PySem.Spec PyProof.Rows L2
/-- x in y: data of any kind in a list or tuple of data -/
def wInA (neg : Bool) (x y : W) (Q : W → Prop) : Prop := ∃ d ds, pyW x = some d ∧ (pyW y = some (.list ds) ∨ pyW y = some (.tuple ds)) ∧ SeqAt.shaped d = true ∧ SeqAt.shaped (.list ds) = true ∧ SeqAt.shaped (.tuple ds) = true ∧
  Q (.d (.bl (if neg then !(ds.any fun z => PyData.eqv z d) else ds.any fun z => PyData.eqv z d)))
section
variable {X : Cx} {C : Cn} {Wx : WX}
def rInA (K : Fg) (neg : Bool) : R2 := fun x y H Q => ∃ d ds, Dp K H x d ∧ (Dp K H y (.list ds) ∨ Dp K H y (.tuple ds)) ∧ SeqAt.shaped d = true ∧ SeqAt.shaped (.list ds) = true ∧ SeqAt.shaped (.tuple ds) = true ∧
  Q (.bl (if neg then !(ds.any fun z => PyData.eqv z d) else ds.any fun z => PyData.eqv z d)) H
def inOp (neg : Bool) : CmpOp := if neg then .NotIn else .In
theorem op_inA (neg : Bool) (hu : X.A.units + 65 < cLine) : OpR X (compareOp (inOp neg)) (rInA X.K neg) := by
  intro pins s σ H x y v u Q I rx ry h
  obtain ⟨d, ds, hd, he, sd, sl, st, q⟩ := h
  obtain ⟨as, r1⟩ := Dp.reads I d x v hd rx
  rcases he with he | he
  · obtain ⟨bs, r2⟩ := Dp.reads I (.list ds) y u he ry
    cases neg with
    | true => exact SeqAt.notIn_list_reads r2 r1 (SeqAt.canLay_of_shaped sl) (SeqAt.canLay_of_shaped sd) (room_in_shaped sd hu) ⟨.bl _, H, I, rfl, q⟩
    | false => exact SeqAt.in_list_reads r2 r1 (SeqAt.canLay_of_shaped sl) (SeqAt.canLay_of_shaped sd) (room_in_shaped sd hu) ⟨.bl _, H, I, rfl, q⟩
  · obtain ⟨bs, r2⟩ := Dp.reads I (.tuple ds) y u he ry
    cases neg with
    | true => exact SeqAt.notIn_tuple_reads r2 r1 (SeqAt.canLay_of_shaped sl) (SeqAt.canLay_of_shaped sd) (room_in_shaped sd hu) ⟨.bl _, H, I, rfl, q⟩
    | false => exact SeqAt.in_tuple_reads r2 r1 (SeqAt.canLay_of_shaped sl) (SeqAt.canLay_of_shaped sd) (room_in_shaped sd hu) ⟨.bl _, H, I, rfl, q⟩
theorem de_inA {a b : Expr} {ta tb : TDE} {pos : Pos} (neg : Bool) (hK : C.K = X.K) (hu : X.A.units + 65 < cLine) (hm : behindInMarks (inOp neg) b = false) (ha : PE X a (lift C Wx ta)) (hb : PE X b (lift C Wx tb)) :
    PE X (.Compare a [inOp neg] [b] pos) (lift C Wx (dOp2 (wInA neg) ta tb)) :=
  (pe_cmpR (op_inA neg hu) ha hb hm).imD fun σ H Q q => op2 (fun R ds σ H h R0 H0 x y v u Pw Q e ex _ rx ry p k => by
    obtain ⟨d, es, e1, e2, s1, s2, s3, p⟩ := p
    rw [← hK]
    exact ⟨d, es, dpW_of rx e1, e2.imp (dpW_of ry) (dpW_of ry), s1, s2, s3, k R H _ _ p (Ex.refl _ _) e mw_bl⟩) q
def dInAT (neg : Bool) (ta tb : TDE) : TDT := fun ds h P Z => ta ds h (fun x h1 => tb ds h1 (fun y h2 => ∃ d es, pyW x = some d ∧ (pyW y = some (.list es) ∨ pyW y = some (.tuple es)) ∧ SeqAt.shaped d = true ∧ SeqAt.shaped (.list es) = true ∧ SeqAt.shaped (.tuple es) = true ∧
  P (if neg then !(es.any fun z => PyData.eqv z d) else es.any fun z => PyData.eqv z d) h2) Z) Z
theorem dt_inA {a b : Expr} {ta tb : TDE} {pos : Pos} (neg : Bool) (hK : C.K = X.K) (hu : X.A.units + 65 < cLine) (hm : behindInMarks (inOp neg) b = false) (ha : PE X a (lift C Wx ta)) (hb : PE X b (lift C Wx tb)) :
    PT X (.Compare a [inOp neg] [b] pos) (liftT C Wx (dInAT neg ta tb)) :=
  (pt_cmpR (op_inA neg hu) ha hb hm).imD fun σ H Q q => by
    obtain ⟨R, ds, h, P, Z, e, p, k, z⟩ := q
    refine ⟨R, ds, h, _, Z, e, p, fun R1 H1 h1 w1 v1 p1 x1 e1 r1 => ?_, z⟩
    refine ⟨R1, ds, h1, _, Z, e1, p1, fun R2 H2 h2 w2 v2 ⟨d, es, g1, g2, s1, s2, s3, p2⟩ x2 e2 r2 => ?_, fun R' H' h' x cls dd a b c d => z R' H' h' x cls dd a (x1.trans b) c d⟩
    rw [← hK]
    exact ⟨d, es, dpW_of (relW_ex e1.ok x2 r1) g1, g2.imp (dpW_of r2) (dpW_of r2), s1, s2, s3, _, rfl, k R2 H2 h2 _ p2 (x1.trans x2) e2⟩
end
def cE_inA (neg : Bool) (a b : E) (G : Gm) (N : List Str) (sc : Scope) (x0 : Expr) : Bool := match x0 with
  | .Compare l [.In] [r] _ => !neg && noSet r && a.chk G N sc l && b.chk G N sc r
  | .Compare l [.NotIn] [r] _ => neg && noSet r && a.chk G N sc l && b.chk G N sc r
  | _ => false
theorem sE_inA (neg : Bool) (a b : E) : SndE (cE_inA neg a b) (fun F => dOp2 (wInA neg) (a.d F) (b.d F)) := by
    intro C G F gd k X Wx e S tk h
    unfold cE_inA at h
    split at h
    · simp only [Bool.and_eq_true, Bool.not_eq_true'] at h
      obtain ⟨⟨⟨hn, h4⟩, h3⟩, h2⟩ := h
      subst hn
      exact de_inA false S.hK S.units (nomk h4) (E.snd a X Wx _ S tk h3) (E.snd b X Wx _ S tk h2)
    · simp only [Bool.and_eq_true] at h
      obtain ⟨⟨⟨hn, h4⟩, h3⟩, h2⟩ := h
      subst hn
      exact de_inA true S.hK S.units (nomk h4) (E.snd a X Wx _ S tk h3) (E.snd b X Wx _ S tk h2)
    · cases h
theorem uE_inA (neg : Bool) (a b : E) : SndT (cE_inA neg a b) (fun F => dInAT neg (a.d F) (b.d F)) := by
    intro C G F gd k X Wx e S tk h
    unfold cE_inA at h
    split at h
    · simp only [Bool.and_eq_true, Bool.not_eq_true'] at h
      obtain ⟨⟨⟨hn, h4⟩, h3⟩, h2⟩ := h
      subst hn
      exact dt_inA false S.hK S.units (nomk h4) (E.snd a X Wx _ S tk h3) (E.snd b X Wx _ S tk h2)
    · simp only [Bool.and_eq_true] at h
      obtain ⟨⟨⟨hn, h4⟩, h3⟩, h2⟩ := h
      subst hn
      exact dt_inA true S.hK S.units (nomk h4) (E.snd a X Wx _ S tk h3) (E.snd b X Wx _ S tk h2)
    · cases h
def E.inA (neg : Bool) (a b : E) : E := ⟨cE_inA neg a b, fun F => dOp2 (wInA neg) (a.d F) (b.d F), fun F => dInAT neg (a.d F) (b.d F), sE_inA neg a b, uE_inA neg a b⟩
@[simp] theorem rdE_inA (neg : Bool) (a b : E) {F : Fns} : (E.inA neg a b).rd F = dOp2 (wInA neg) (a.d F) (b.d F) := rfl
@[simp] theorem rtE_inA (neg : Bool) (a b : E) {F : Fns} : (E.inA neg a b).rt F = dInAT neg (a.d F) (b.d F) := rfl
end DL
set_option maxHeartbeats 8000000
namespace DL
open PySem PySem.Spec PyProof.Rows L2
section
variable {prog : Program} {w : World} {A : Around} {E : Value → Shared → Prop} {s : Shared}
end
section
variable {X : Cx} {C : Cn} {Wx : WX}
end
section
variable {X : Cx} {C : Cn} {Wx : WX}
end
section
variable {X : Cx} {C : Cn} {Wx : WX}
end
end DL
set_option maxHeartbeats 8000000
namespace DL
open PySem PySem.Spec PyProof.Rows L2
/-- isinstance(n, c), n the exception that the suite holds, with its dict -/
def rIsX (K : Fg) (D a : Addr) (d : Option Addr) : List V → Hp → VK → Prop := fun xs H Q => ∃ (c : V) (cv : Value) (b : Bool) (dd : Addr) (ks : List (Str × V)), xs = [.ref a, c] ∧ (∀ u, RelV c u → u = cv) ∧ d = some dd ∧ H dd = some (.xd ks) ∧ PySem.W.kitOne K (.ref D) cv = some b ∧ Q (.bl b) H
section
variable {X : Cx} {C : Cn} {Wx : WX} {M : Xm}
open Classical in
end
end DL
set_option maxHeartbeats 8000000
namespace DL
open PySem PySem.Spec PyProof.Rows L2
/-- the different ones, in order -/
def hasK (l : List Key) (k : Key) : Bool := l.any fun x => decide (x = k)
def ddS (acc : List Key) (k : Key) : List Key := if hasK acc k then acc else acc ++ [k]
def dd (l : List Key) : List Key := l.foldl ddS []
section
variable {prog : Program} {w : World} {A : Around} {R : Result → Shared → Prop} {I : Addr} {fp wr : List Addr} {G : Array GenState → Array GenState → Prop} {n : Nat} {P : Nat → Value → Prop} {St : Nat → Shared → Prop}
end
section
variable {prog : Program} {w : World} {A : Around} {E : Value → Shared → Prop} {s : Shared}
end
end DL
set_option maxHeartbeats 8000000
namespace DL
open PySem PySem.Spec PyProof.Rows L2
section
variable {X : Cx} {C : Cn} {Wx : WX}
end
section
variable {X : Cx} {C : Cn} {Wx : WX}
end
end DL
set_option maxHeartbeats 8000000
namespace DL
open PySem PySem.Spec PyProof.Rows L2
section
variable {X : Cx} {C : Cn} {Wx : WX}
def dInsP (i : Nat) (ta tb : TDE) : TDS := fun ds h P => ∃ xs, ds[i]? = some (some (.own xs)) ∧ xs.length < sizeLine ∧ dD ta ds h (fun w h1 => ∃ k : Nat, w = .int k ∧ (k : Int) < 2 ^ 63 ∧ dD tb ds h1 (fun w2 h2 => ∃ b q d, w2 = .int b ∧ -(2 ^ 63) ≤ b ∧ b < 2 ^ 63 ∧ seqIndex? b xs.length = some q ∧ xs[q]? = some d ∧
  P.nx (ds.set i (some (.own ((xs.eraseIdx q).take k ++ [d] ++ (xs.eraseIdx q).drop k)))) h2) (fun x h' => P.ex x ds h')) (fun x h' => P.ex x ds h')
theorem ds_insP {i : Nat} {x : Str} {e f : Expr} {t u : TDE} {p1 p2 apos cpos apos2 cpos2 pos : Pos} (hN : X.N[i]? = some x) (hv : Vis X.env.scope x) (hd : (x == ("__debug__" : Str)) = false) (hcd : (x == ("__classdict__" : Str)) = false) (he : PE X e (lift C Wx t)) (hf : PE X f (lift C Wx u))
    (hs : starEach (e :: [.Call (.Attribute (.Name x p2) "pop" apos2) [f] [] cpos2]) X.env = (false, eval e X.env) :: starEach [.Call (.Attribute (.Name x p2) "pop" apos2) [f] [] cpos2] X.env) (hs2 : starEach [.Call (.Attribute (.Name x p2) "pop" apos2) [f] [] cpos2] X.env = (false, eval (.Call (.Attribute (.Name x p2) "pop" apos2) [f] [] cpos2) X.env) :: starEach [] X.env) (hline : (apos.endLine == cpos.line) = true)
    (hpl : (((backTo cpos (starEach (e :: [.Call (.Attribute (.Name x p2) "pop" apos2) [f] [] cpos2]) X.env)).all (fun x => !x.1) && (backToKw cpos (keywordEach [] X.env)).all fun x => x.1.isSome) && decide (((e :: [.Call (.Attribute (.Name x p2) "pop" apos2) [f] [] cpos2]).length + ([] : List Keyword).length + if ([] : List Keyword).isEmpty = true then 0 else 1) < 30)) = true)
    (hpl2 : (backTo cpos (starEach [.Call (.Attribute (.Name x p2) "pop" apos2) [f] [] cpos2] X.env)).any (·.1) = false)
    (hb : attributeBase (.Name x p1) "insert" X.env (eval (.Name x p1) X.env) = eval (.Name x p1) X.env)
    (hsf : starEach [f] X.env = (false, eval f X.env) :: starEach [] X.env) (hline2 : (apos2.endLine == cpos2.line) = true)
    (hplf : (((backTo cpos2 (starEach [f] X.env)).all (fun x => !x.1) && (backToKw cpos2 (keywordEach [] X.env)).all fun x => x.1.isSome) && decide (([f].length + ([] : List Keyword).length + if ([] : List Keyword).isEmpty = true then 0 else 1) < 30)) = true)
    (hb2 : attributeBase (.Name x p2) "pop" X.env (eval (.Name x p2) X.env) = eval (.Name x p2) X.env)
    (hsw : swapsWith (.Call (.Attribute (.Name x p1) "insert" apos) [e, .Call (.Attribute (.Name x p2) "pop" apos2) [f] [] cpos2] [] cpos) none pos.line X.env = pure false) :
    PS X (.Expr (.Call (.Attribute (.Name x p1) "insert" apos) [e, .Call (.Attribute (.Name x p2) "pop" apos2) [f] [] cpos2] [] cpos) pos) (liftS C Wx (dInsP i t u)) :=
  (ps_expr (pe_bm PySem.F.plainAttrs_list PySem.F.slot_list_insert PySem.F.type_list_insert mt_insert (pe_var hN hv hd hcd) (pa_cons (pe_D he) (pa_cons (pe_bm PySem.F.plainAttrs_list PySem.F.slot_list_pop PySem.F.type_list_pop mt_popAt (pe_var hN hv hd hcd) (pa_cons (pe_D hf) pa_nil hsf) hb2 hplf hline2 hsf) pa_nil hs2) hs) hb hpl hline hs hpl2) hsw).imD fun D σ H q => by
    obtain ⟨R, ds, h, P, e, ⟨xs, hi, hl, p⟩, k⟩ := q
    obtain ⟨v, hv, a, vs, rfl, q, nf, o, tt⟩ := e.slot i _ hi
    refine ⟨.ref a, hv, .inl ⟨rfl, vs, .inl (.inl q)⟩, R, ds, h, _, _, e, p, fun R1 H1 h1 w u ⟨n, hw, hn, p'⟩ x1 e1 r1 => ?_, k.exE e⟩
    subst hw
    cases r_int r1
    have rs1 := e1.relW hi hv
    obtain ⟨a1, vs1, ea1, q1, nf1, o1, tt1⟩ := rs1
    cases ea1
    refine ⟨.ref a, hv, .inl ⟨rfl, vs1, .inl (.inl q1)⟩, R1, ds, h1, _, _, e1, p', fun R2 H2 h2 w2 u2 ⟨b, qq, d, hw2, l1, l2, sq, hx, p2⟩ x2 e2 r2 => ?_, (k.later (x1.mo e.ok)).exE e1⟩
    subst hw2
    cases r_int r2
    have rs := e2.relW hi hv
    obtain ⟨a', vs', ea, q', nf', o', tt'⟩ := rs
    cases ea
    obtain ⟨u2, hu2, ru2⟩ := relDs_get tt' hx
    obtain ⟨e3, m3⟩ := e2.wr hi hv (relDs_erase qq tt')
    have hv3 := e3.relW (i := i) (w := .own (xs.eraseIdx qq)) (by rw [List.getElem?_set_self (List.getElem?_eq_some_iff.mp hi).1]) hv
    refine ⟨a, vs', b, qq, u2, rfl, rfl, q', l1, l2, by rw [← relDs_len tt']; exact sq, hu2, ?_⟩
    have el : (xs.eraseIdx qq).length ≤ xs.length := List.length_eraseIdx_le _ _
    obtain ⟨a3, vs3, ea3, q3, nf3, o3, tt3⟩ := hv3
    cases ea3
    obtain ⟨e4, m4⟩ := e3.wr (i := i) (xs := xs.eraseIdx qq) (by rw [List.getElem?_set_self (List.getElem?_eq_some_iff.mp hi).1]) hv (relDs_append (relDs_append (relDs_take n tt3) (relDs_one (relD_mo m3 ru2))) (relDs_drop n tt3))
    rw [List.set_set] at e4
    exact ⟨a, vs3, (n : Int), u2, rfl, rfl, q3, by rw [← relDs_len tt3]; omega, Int.natCast_nonneg n, hn, k.nx R2 _ σ _ h2 e4 ((((x1.trans x2).mo e.ok).trans m3).trans m4) p2⟩
end
def cS_insP (i : Nat) (a b : E) (M : Xm) (G : Gm) (N : List Str) (sc : Scope) (x0 : Stmt) : Bool := match x0 with
  | .Expr (.Call (.Attribute (.Name y _) m ap) [x, .Call (.Attribute (.Name y2 _) m2 ap2) [z] [] cp2] [] cp) _ => decide (m = "insert") && decide (m2 = "pop") && decide (y2 = y) && decide (N[i]? = some y) && visB sc y && okN y && noStar x && noStar z && (ap.endLine == cp.line) && (ap2.endLine == cp2.line) && a.chk G N sc x && b.chk G N sc z
  | _ => false
theorem sS_insP (i : Nat) (a b : E) : SndS (cS_insP i a b) (fun M F => dInsP i (a.d F) (b.d F)) := by
    intro C M G F gd k X Wx st Z tk h
    cases st <;> first | (exact absurd h Bool.false_ne_true) | (simp [cS_insP] at h; done) | skip
    rename_i v p
    cases v <;> first | (exact absurd h Bool.false_ne_true) | (simp [cS_insP] at h; done) | skip
    rename_i fn args kws cp
    cases fn <;> first | (exact absurd h Bool.false_ne_true) | (simp [cS_insP] at h; done) | skip
    rename_i o mname ap
    cases o <;> first | (exact absurd h Bool.false_ne_true) | (simp [cS_insP] at h; done) | skip
    rcases args with _ | ⟨x, _ | ⟨z, _ | ⟨x3, xs⟩⟩⟩ <;> first | (exact absurd h Bool.false_ne_true) | (simp [cS_insP] at h; done) | skip
    rcases kws with _ | ⟨kw, kws⟩ <;> first | (exact absurd h Bool.false_ne_true) | (simp [cS_insP] at h; done) | (cases z <;> (simp [cS_insP] at h; done)) | skip
    cases z <;> first | (exact absurd h Bool.false_ne_true) | (simp [cS_insP] at h; done) | skip
    rename_i fn2 args2 kws2 cp2
    cases fn2 <;> first | (exact absurd h Bool.false_ne_true) | (simp [cS_insP] at h; done) | skip
    rename_i o2 m2 ap2
    cases o2 <;> first | (exact absurd h Bool.false_ne_true) | (simp [cS_insP] at h; done) | skip
    rcases args2 with _ | ⟨z, _ | ⟨z2, zs⟩⟩ <;> first | (exact absurd h Bool.false_ne_true) | (simp [cS_insP] at h; done) | skip
    rcases kws2 with _ | ⟨kw, kws⟩ <;> first | (exact absurd h Bool.false_ne_true) | (simp [cS_insP] at h; done) | skip
    simp only [cS_insP, Bool.and_eq_true, decide_eq_true_eq] at h
    obtain ⟨⟨⟨⟨⟨⟨⟨⟨⟨⟨⟨rfl, rfl⟩, rfl⟩, h2⟩, h3⟩, h4⟩, h5⟩, h6⟩, h7⟩, h8⟩, h9⟩, h10⟩ := h
    exact ds_insP h2 (visB_ok h3) (okN_ok h4).1 (okN_ok h4).2.1 (E.snd a X Wx _ Z.toStat tk h9) (E.snd b X Wx _ Z.toStat tk h10) (star_ok h5) rfl h7 (two_form h5 rfl) (one_any rfl) rfl (star_ok h6) h8 (one_form h6) rfl rfl
def S.insP (i : Nat) (a b : E) : S := ⟨cS_insP i a b, fun M F => dInsP i (a.d F) (b.d F), sS_insP i a b⟩
@[simp] theorem rdS_insP (i : Nat) (a b : E) {M : Xm} {F : Fns} : (S.insP i a b).rd M F = dInsP i (a.d F) (b.d F) := rfl
section
variable {X : Cx} {C : Cn} {Wx : WX}
end
def dItEW (t : TDE) : TDI := fun ds h P Z => dD t ds h (fun d h' => ∃ xs, d = .wtp xs ∧ P (enD xs) h') Z
section
variable {X : Cx} {C : Cn} {Wx : WX}
theorem di_enw {elts : List Expr} {kk : Nat} {tp : Pos} {e : Expr} {t : TDE} {p pos : Pos} (hK : C.K = X.K) (hg : Gl X "enumerate") (hm : X.mg "enumerate" = none) (ha : PE X e (lift C Wx t)) (hs : starEach [e] X.env = [(false, eval e X.env)]) : PI X (.Tuple elts kk tp) (.Call (.Name "enumerate" p) [e] [] pos) (liftI C Wx (dItEW t)) :=
  (pi_enumT hg hm (pa_cons (pe_D ha) pa_nil hs) hs).imD fun σ H Q q => by
    obtain ⟨R, ds, h, P, Z, e, p, k, z⟩ := q
    refine ⟨R, ds, h, _, Z, e, p, fun R' H' h' d v ⟨xs, hd, p'⟩ x e' r => ?_, z⟩
    subst hd
    obtain ⟨a, vs, rfl, sq, t⟩ := r_wtp r
    refine ⟨a, vs, rfl, by rw [← hK]; exact sq H', k R' H' h' _ _ p' x e' ?_⟩
    rw [← hK]
    have hl : (enD xs).length = xs.length := by unfold enD; simp
    refine ⟨fun i R2 H2 m hi => ⟨vs, vs[i]'(by rw [← relDs_len t, ← hl]; exact hi), sq H2, by simp⟩, fun R2 H2 m => ⟨vs, sq H2, by rw [hl, relDs_len t]⟩, fun i R2 H2 v H3 d ds σ h m e2 hd y => ?_⟩
    obtain ⟨T, y, rfl, nT, rfl, hy⟩ := y
    have hi : i < xs.length := by rw [← hl]; exact (List.getElem?_eq_some_iff.mp hd).1
    have ed : d = .tup [.int (i : Nat), xs[i]] := by
      unfold enD at hd
      rw [List.getElem?_map, List.getElem?_zipIdx, List.getElem?_eq_getElem hi] at hd
      simp at hd
      exact hd.symm
    subst ed
    obtain ⟨u, hu, ru⟩ := relDs_get t (List.getElem?_eq_getElem hi)
    have := hy vs (sq H2)
    rw [hu] at this
    cases this
    refine ⟨Ex.fresh nT, e2.fresh nT, m_tup upd_same (m_cons m_int (m_cons (relD_ex e2.ok (Ex.fresh nT) (relD_mo m ru)) m_nil))⟩
end
theorem sIc_enw (a : E) : SndI true (cIc_en a) (fun F => dItEW (a.d F)) := by
    intro C G F gd k X Wx tg e S tk ht h
    cases tg <;> first | (exact absurd ht Bool.false_ne_true) | skip
    cases e <;> first | (exact absurd h Bool.false_ne_true) | skip
    rename_i f ls kw p
    cases f <;> rcases ls with _ | ⟨l, _ | ⟨l2, ls⟩⟩ <;> rcases kw with _ | ⟨k1, kw⟩ <;> first | (exact absurd h Bool.false_ne_true) | skip
    simp only [cIc_en] at h
    obtain ⟨h, g1⟩ := ba2 h
    obtain ⟨h, g2⟩ := ba2 h
    obtain ⟨h, g3⟩ := ba2 h
    obtain ⟨h, g4⟩ := ba2 h
    cases of_decide_eq_true h
    exact di_enw S.hK (glB_ok g4) (S.free _ (of_decide_eq_true g3)) (E.snd a X Wx l S tk g1) (star_ok g2)
def Ic.enw (e : E) : Ic := ⟨true, cIc_en e, fun F => dItEW (e.d F), sIc_enw e⟩
@[simp] theorem rdIc_enw (e : E) {F : Fns} : (Ic.enw e).rd F = dItEW (e.d F) := rfl
def wLenW (x : W) (Q : W → Prop) : Prop := ∃ xs, x = .d (.wtp xs) ∧ Q (.d (.int xs.length))
section
variable {X : Cx} {C : Cn} {Wx : WX}
theorem de_lenW {a : Expr} {ta : TDE} {p pos : Pos} (hK : C.K = X.K) (ok : B1Ok X .len) (ha : PE X a (lift C Wx ta)) (he : starEach [a] X.env = (false, eval a X.env) :: starEach [] X.env) :
    PE X (.Call (.Name B1.len.name p) [a] [] pos) (lift C Wx (dOp1 wLenW ta)) :=
  (pe_b1 .len ok ha he).imD fun σ H Q q => by
    obtain ⟨R, ds, h, P, Z, e, p, k, z⟩ := q
    refine ⟨R, ds, h, _, Z, e, p, fun R1 H1 h1 w1 v1 p1 x1 e1 r1 => ?_, z⟩
    obtain ⟨xs, rfl, p2⟩ := p1
    obtain ⟨a, vs, rfl, q, t⟩ := r_wtp (r1 : RelD C.K R1 H1 (.wtp xs) v1)
    exact ⟨_, rfl, .inl ⟨a, vs, rfl, .inr (hK ▸ q H1), by rw [← relDs_len t]; exact k R1 H1 h1 _ _ p2 x1 e1 mw_int⟩⟩
end
theorem sE_lenW (a : E) : SndE (cE_b1 .len a) (fun F => dOp1 wLenW (a.d F)) := by
    intro C G F gd k X Wx e S tk h
    cases e <;> first | (exact absurd h Bool.false_ne_true) | skip
    rename_i f ls kw p
    cases f <;> rcases ls with _ | ⟨l, _ | ⟨l2, ls⟩⟩ <;> rcases kw with _ | ⟨k1, kw⟩ <;> first | (exact absurd h Bool.false_ne_true) | skip
    simp only [cE_b1] at h
    obtain ⟨h1, h2⟩ := ba2 h
    obtain ⟨h1, h3⟩ := ba2 h1
    obtain ⟨h1, h4⟩ := ba2 h1
    obtain ⟨h1, h5⟩ := ba2 h1
    obtain ⟨h1, h6⟩ := ba2 h1
    cases of_decide_eq_true h1
    have ok : B1Ok X .len := ⟨S.free _ (of_decide_eq_true h5), glB_ok h6, S.calm, Nat.lt_of_le_of_lt (by omega) S.units, fun z => by cases z⟩
    exact de_lenW S.hK ok (E.snd a X Wx l S tk h2) (star_ok h3)
def E.lenW (a : E) : E := ⟨cE_b1 .len a, fun F => dOp1 wLenW (a.d F), fun _ _ _ _ _ => False, sE_lenW a, noT⟩
@[simp] theorem rdE_lenW (a : E) {F : Fns} : (E.lenW a).rd F = dOp1 wLenW (a.d F) := rfl
@[simp] theorem rtE_lenW (a : E) {F : Fns} : (E.lenW a).rt F = (fun _ _ _ _ => False) := rfl
def dAsgL (ts : Tgs) (t : TDE) : TDS := fun ds h P => dD t ds h (fun d h' => ∃ xs, (d = .lst xs ∨ d = .fro xs) ∧ xs.length = ts.len ∧ ts.put xs ds fun ds' => P.nx ds' h') (fun x h' => P.ex x ds h')
def liftGL (C : Cn) (ts : Tgs) : TG := fun v σ H Q => ∃ R ds h d P, Env C R ds σ H h ∧ RelD C.K R H d v ∧ (∃ xs, (d = .lst xs ∨ d = .fro xs) ∧ xs.length = ts.len ∧ ts.put xs ds P) ∧ ∀ ds' σ', Env C R ds' σ' H h → Kept ts.slots σ σ' → P ds' → Q σ' H
section
variable {X : Cx} {C : Cn} {Wx : WX}
theorem dg_lst {es : List Expr} {k : Nat} {ts : Tgs} {pos : Pos} (hK : C.K = X.K) (hc : X.calm = true) (h : PGs X es (liftGs C ts)) (hn : (assignEach es X.env).length = ts.len) (hst : (assignEach es X.env).findIdx? (·.1) = none) : PG X (.Tuple es k pos) (liftGL C ts) :=
  (pg_lst (n := ts.len) hc h hn hst).imD fun v σ H Q q => by
    obtain ⟨R, ds, h, d, P, e, r, ⟨xs, hd, hl, p⟩, k⟩ := q
    have : ∃ a vs, v = .ref a ∧ SqL C.K H a vs ∧ RelDs C.K R H xs vs := by
      rcases hd with rfl | rfl
      · obtain ⟨a, vs, rfl, q, t⟩ := r_lst r; exact ⟨a, vs, rfl, q.sq, t⟩
      · obtain ⟨a, vs, rfl, q, t⟩ := r_fro r; exact ⟨a, vs, rfl, q.sq, t⟩
    obtain ⟨a, vs, rfl, q, t⟩ := this
    exact ⟨a, vs, rfl, by rw [← hK]; exact q, by rw [← relDs_len t]; exact hl, R, ds, h, xs, P, e, t, p, k⟩
theorem ds_asgL {tg e : Expr} {t : TDE} {ts : Tgs} {pos : Pos} (he : PE X e (lift C Wx t)) (hg : PG X tg (liftGL C ts)) (hs : swapsWithSole [tg] e pos.line X.env = pure false) (hw : swappedStores [tg] e X.env = pure none)
  (h1 : (assignEach [tg] X.env).map (·.2) = [assign tg X.env]) : PS X (.Assign [tg] e pos) (liftS C Wx (dAsgL ts t)) := (ps_asg (pe_D he) hg hs hw h1).imD fun D σ H q => by
  obtain ⟨R, ds, h, P, e, p, k⟩ := q
  exact ⟨R, ds, h, _, _, e, p, fun R' H' h' d v p' x e' r => ⟨R', ds, h', d, _, e', r, p', fun ds' σ' e2 _ p2 => k.nx R' ds' σ' H' h' e2 (x.mo e.ok) p2⟩, k.exE e⟩
end
def cS_asgL (ts : Tgs) (e : E) (M : Xm) (G : Gm) (N : List Str) (sc : Scope) (x0 : Stmt) : Bool := match x0 with
  | .Assign [.Tuple es k tp] x p => noLc x && noTup x && ts.chk false N sc es && e.chk G N sc x
  | _ => false
theorem sS_asgL (ts : Tgs) (e : E) : SndS (cS_asgL ts e) (fun M F => dAsgL ts (e.d F)) := by
    intro C M G F gd k X Wx st Z tk h
    cases st <;> first | (exact absurd h Bool.false_ne_true) | (simp [cS_asgL] at h; done) | skip
    rename_i tgs v p
    rcases tgs with _ | ⟨t, _ | ⟨t2, tgs⟩⟩ <;> first | (exact absurd h Bool.false_ne_true) | (simp [cS_asgL] at h; done) | (cases t <;> (simp [cS_asgL] at h; done)) | skip
    cases t <;> first | (exact absurd h Bool.false_ne_true) | (simp [cS_asgL] at h; done) | skip
    simp only [cS_asgL] at h
    obtain ⟨h, h5⟩ := ba2 h
    obtain ⟨h, h4⟩ := ba2 h
    obtain ⟨h2, h3⟩ := ba2 h
    obtain ⟨q, l, n⟩ := Tgs.snd Z.hK Z.calm Z.nd (fun _ => Z.fnA) ts _ h4
    exact ds_asgL (E.snd e X Wx _ Z.toStat tk h5) (dg_lst Z.hK Z.calm q l n) (by unfold swapsWithSole; exact noLc_ok h2) (noTup_ok h3) rfl
def S.asgL (ts : Tgs) (e : E) : S := ⟨cS_asgL ts e, fun M F => dAsgL ts (e.d F), sS_asgL ts e⟩
@[simp] theorem rdS_asgL (ts : Tgs) (e : E) {M : Xm} {F : Fns} : (S.asgL ts e).rd M F = dAsgL ts (e.d F) := rfl
end DL
set_option maxHeartbeats 8000000
namespace DL
open PySem PySem.Spec PyProof.Rows L2
def hdS : List D → Bool
  | .str _ :: _ => true
  | _ => false
mutual
/-- no list in it begins with a text -/
def noSt : D → Bool
  | .tup xs => noSts xs
  | .lst xs => !hdS xs && noSts xs
  | .fro xs => noSts xs
  | .wtp xs => noSts xs
  | _ => true
def noSts : List D → Bool
  | [] => true
  | x :: xs => noSt x && noSts xs
end
def noSO : O → Bool
  | .lst xs => noSts xs
  | .dic kvs => noSts (kvs.map (·.2))
  | .dit kvs => noSts (kvs.map (·.2))
  | .fit kvs => noSts (kvs.map (·.2))
  | .fic kvs => noSts (kvs.map (·.2))
  | .ins _ fs => noSts (fs.map (·.2))
def noSH (h : Hs) : Bool := h.all noSO
/-- what may be handed over: values, lists that begin with a text -/
def lentW : W → Bool
  | .d _ => true
  | .new xs => hdS xs
  | .own xs => hdS xs
  | .fn _ => false
section
variable {K : Fg} {R R' : Rg} {H H' H₁ : Hp}
/-- what is let go: no list that begins with a text is leaned on -/
structure Ungo (R : Rg) (R' : Rg) (H : Hp) : Prop where
  n : R'.n = R.n
  at_ : R'.at_ = R.at_
  fz : ∀ a vs, R.fz a → H a = some (.lst vs) → (∀ s r, vs ≠ V.str s :: r) → R'.fz a
theorem hd_of {xs : List D} {s : Str} {r : List V} (t : RelDs K R H xs (V.str s :: r)) : hdS xs = true := by
  cases xs with
  | nil => have := r_nil t; cases this
  | cons d ds =>
    obtain ⟨v, q, e, t1, _⟩ := r_cons t
    cases e
    cases d with
    | str x => rfl
    | non => have := r_non t1; cases this
    | bl b => have : RelD K R H (.bl b) (V.str s) := t1; unfold RelD at this; cases this
    | int b => have : RelD K R H (.int b) (V.str s) := t1; unfold RelD at this; cases this
    | ty b => have : RelD K R H (.ty b) (V.str s) := t1; unfold RelD at this; cases this
    | ref b => have : RelD K R H (.ref b) (V.str s) := t1; unfold RelD at this; cases this.2
    | tup b => obtain ⟨a, vs, e, _⟩ := r_tup t1; cases e
    | lst b => obtain ⟨a, vs, e, _⟩ := r_lst t1; cases e
    | fro b => obtain ⟨a, vs, e, _⟩ := r_fro t1; cases e
    | wtp b => obtain ⟨a, vs, e, _⟩ := r_wtp t1; cases e
mutual
theorem relD_un (x : Ungo R R' H) : ∀ {d : D} {v : V}, noSt d = true → RelD K R H d v → RelD K R' H d v
  | .non, v, _, r => by unfold RelD at r ⊢; exact r
  | .bl _, v, _, r => by unfold RelD at r ⊢; exact r
  | .int _, v, _, r => by unfold RelD at r ⊢; exact r
  | .str _, v, _, r => by unfold RelD at r ⊢; exact r
  | .ty _, v, _, r => by unfold RelD at r ⊢; exact r
  | .ref i, v, n, r => by
    unfold RelD at r ⊢
    rw [x.n, x.at_]; exact r
  | .tup ds, v, n, r => by
    unfold noSt at n
    unfold RelD at r ⊢
    obtain ⟨a, vs, e, q, t⟩ := r
    exact ⟨a, vs, e, q, relDs_un x n t⟩
  | .lst ds, v, n, r => by
    unfold noSt at n
    obtain ⟨n1, n2⟩ := Bool.and_eq_true_iff.mp n
    unfold RelD at r ⊢
    obtain ⟨a, vs, e, q, t⟩ := r
    refine ⟨a, vs, e, ⟨x.fz a vs q.1 q.2 fun s r e => ?_, q.2⟩, relDs_un x n2 t⟩
    subst e
    rw [hd_of t] at n1
    cases n1
  | .fro ds, v, n, r => by
    unfold noSt at n
    unfold RelD at r ⊢
    obtain ⟨a, vs, e, q, t⟩ := r
    exact ⟨a, vs, e, q, relDs_un x n t⟩
  | .wtp ds, v, n, r => by
    unfold noSt at n
    unfold RelD at r ⊢
    obtain ⟨a, vs, e, q, t⟩ := r
    exact ⟨a, vs, e, q, relDs_un x n t⟩
theorem relDs_un (x : Ungo R R' H) : ∀ {ds : List D} {vs : List V}, noSts ds = true → RelDs K R H ds vs → RelDs K R' H ds vs
  | [], vs, _, r => by unfold RelDs at r ⊢; exact r
  | d :: ds, vs, n, r => by
    unfold noSts at n
    obtain ⟨n1, n2⟩ := Bool.and_eq_true_iff.mp n
    unfold RelDs at r ⊢
    obtain ⟨v, q, e, r1, r2⟩ := r
    exact ⟨v, q, e, relD_un x n1 r1, relDs_un x n2 r2⟩
end
theorem relKd_un {κ : Type} (x : Ungo R R' H) : ∀ {ds : List (κ × D)} {vs : List (κ × V)}, noSts (ds.map (·.2)) = true → RelKd K R H ds vs → RelKd K R' H ds vs
  | [], vs, _, r => r
  | (y, d) :: ds, vs, n, r => by
    rw [List.map_cons] at n
    unfold noSts at n
    obtain ⟨n1, n2⟩ := Bool.and_eq_true_iff.mp n
    obtain ⟨v, q, e, r1, r2⟩ := r
    exact ⟨v, q, e, relD_un x n1 r1, relKd_un x n2 r2⟩
theorem relF_un (x : Ungo R R' H) : ∀ {ds : List (Str × D)} {vs : List (Str × V)}, noSts (ds.map (·.2)) = true → RelF K R H ds vs → RelF K R' H ds vs
  | [], vs, _, r => r
  | (y, d) :: ds, vs, n, r => by
    rw [List.map_cons] at n
    unfold noSts at n
    obtain ⟨n1, n2⟩ := Bool.and_eq_true_iff.mp n
    obtain ⟨v, q, e, r1, r2⟩ := r
    exact ⟨v, q, e, relD_un x n1 r1, relF_un x n2 r2⟩
theorem relO_un {Cl : Cm} (x : Ungo R R' H) {o : O} {u : HO} (n : noSO o = true) (r : RelO K Cl R H o u) : RelO K Cl R' H o u := by
  cases o with
  | lst xs => obtain ⟨vs, e, t⟩ := r; exact ⟨vs, e, relDs_un x n t⟩
  | dic xs => obtain ⟨vs, e, t⟩ := r; exact ⟨vs, e, relKd_un x n t⟩
  | dit xs => obtain ⟨vs, e, t⟩ := r; exact ⟨vs, e, relKd_un x n t⟩
  | fit xs => obtain ⟨o, vs, e, t⟩ := r; exact ⟨o, vs, e, relKd_un x n t⟩
  | fic xs => obtain ⟨o, vs, e, t⟩ := r; exact ⟨o, vs, e, relKd_un x n t⟩
  | ins c xs => obtain ⟨dx, vs, e, t⟩ := r; exact ⟨dx, vs, e, relF_un x n t⟩
/-- the lists that are lent -/
def Lent (R : Rg) (H : Hp) (a : Addr) : Prop := (∃ s vs, H a = some (.lst (V.str s :: vs))) ∧ ¬ R.fz a ∧ Out R a
def lendR (R : Rg) (H : Hp) : Rg := ⟨R.n, R.at_, fun a => R.fz a ∨ Lent R H a⟩
def backR (R : Rg) (R1 : Rg) (H1 : Hp) : Rg := ⟨R.n, R.at_, fun a => R.fz a ∧ ¬ Lent R1 H1 a⟩
theorem mo_lend : Mo0 K R H (lendR R H) H := ⟨Nat.le_refl _, fun _ _ => rfl, fun _ _ z => z, fun a vs z => ⟨.inl z.1, z.2⟩, fun _ _ z => z⟩
theorem ok_lend {Cl : Cm} {h : Hs} (ok : HOk' K Cl R H h) : HOk' K Cl (lendR R H) H h where
  len := ok.len
  obj := fun i o e => by
    obtain ⟨u, hu, r⟩ := ok.obj i o e
    exact ⟨u, hu, relO_mo0 mo_lend r⟩
  inj := ok.inj
  nfz := fun i hi z => by
    rcases z with z | ⟨_, _, z⟩
    · exact ok.nfz i hi z
    · exact z i hi rfl
  fzd := fun a z => by
    rcases z with z | ⟨⟨s, vs, z⟩, _⟩
    · exact ok.fzd a z
    · exact ⟨_, z⟩
  tab := ok.tab
theorem hd_rel {xs : List D} {vs : List V} (n : hdS xs = true) (t : RelDs K R H xs vs) : ∃ s r, vs = V.str s :: r := by
  cases xs with
  | nil => cases n
  | cons d ds =>
    cases d <;> first | (cases n; done) | skip
    obtain ⟨v, q, e, t1, _⟩ := r_cons t
    exact ⟨_, q, by rw [e, r_str t1]⟩
theorem relW_lent {w : W} {v : V} (n : lentW w = true) (r : RelW K H₁ R H w v) : RelD K (lendR R H) H (wD w) v := by
  cases w with
  | d x => exact relD_mo0 mo_lend r
  | fn _ => cases n
  | new xs =>
    obtain ⟨a, vs, rfl, _, q, nf, o, t⟩ := r
    obtain ⟨s, r', e⟩ := hd_rel n t
    subst e
    unfold wD RelD
    exact ⟨a, _, rfl, ⟨.inr ⟨⟨s, r', q⟩, nf, o⟩, q⟩, relDs_mo0 mo_lend t⟩
  | own xs =>
    obtain ⟨a, vs, rfl, q, nf, o, t⟩ := r
    obtain ⟨s, r', e⟩ := hd_rel n t
    subst e
    unfold wD RelD
    exact ⟨a, _, rfl, ⟨.inr ⟨⟨s, r', q⟩, nf, o⟩, q⟩, relDs_mo0 mo_lend t⟩
theorem relWs_lent : ∀ {ws : List W} {vs : List V}, ws.all lentW = true → RelWs K H₁ R H ws vs → RelDs K (lendR R H) H (ws.map wD) vs
  | [], vs, _, r => by cases (show vs = [] from r); exact m_nil
  | w :: ws, vs, n, r => by
    rw [List.map_cons]
    rw [List.all_cons] at n
    obtain ⟨n1, n2⟩ := Bool.and_eq_true_iff.mp n
    obtain ⟨v, q, rfl, r1, r2⟩ := r
    exact m_cons (relW_lent n1 r1) (relWs_lent n2 r2)
end
section
variable {X : Cx} {C : Cn} {Wx : WX}
/-- f(..), own lists lent to it -/
def dCallQ (n : Nat) (f : FnD) (t : TDW) : TDE := fun ds h P Z => t ds h (fun ws h1 => ws.length = n ∧ ws.all lentW = true ∧ f (ws.map wD) h1 (fun d h2 => pureD d = true ∧ noSH h2 = true ∧ P (.d d) h2) (fun _ _ => False)) Z
theorem de_callQ {x : Str} {p pos : Pos} {e : Expr} {es : List Expr} {t : TDW} {f : FnD} {gd : Bool} {k : Nat} {fa : Addr} {fd : FuncData} {ps : List Str} (hK : C.K = X.K) (F : FnG X.prog X.w X.K X.mg X.base gd k fa fd ps (liftF C.K C.Cl ps.length f)) (hr : Room k X.A) (hgd : Gd gd X.A) (tk : Takes X Wx) (hg : Gl X x) (hm : X.mg x = some (.ref fa)) (hk : PySem.W.keepIn X.K (.ref fa) = true)
    (hb : Binds X.K fd ps []) (ha : PA X (e :: es) (liftW C Wx t)) (hdb : (x == ("__debug__" : Str)) = false) (he : starEach (e :: es) X.env = (false, eval e X.env) :: starEach es X.env) (hpl : (backTo pos (starEach es X.env)).any (·.1) = false) :
    PE X (.Call (.Name x p) (e :: es) [] pos) (lift C Wx (dCallQ ps.length f t)) :=
  (pe_callG F hr hgd tk hg hm hk hb .nil ha hdb he hpl).imD fun σ H Q q => by
    obtain ⟨R, ds, h, P, Z, e, p, k, z⟩ := q
    refine ⟨R, ds, h, _, Z, e, p, fun R1 H1 h1 ws vs ⟨hl, hn, p1⟩ x1 e1 r1 => ?_, z⟩
    refine ⟨lendR R1 H1, ws.map wD, h1, _, fun _ _ => False, ok_lend e1.ok, by rw [List.append_nil]; exact relWs_lent hn r1, by simpa using hl, p1, fun R2 H2 h2 d v ⟨hp, hs, p2⟩ x2 ok2 r2 => ?_, fun _ _ _ _ _ _ y => y.elim⟩
    have keep : ∀ a, Lent R1 H1 a → ∃ s vs, H2 a = some (.lst (V.str s :: vs)) := fun a la => by
      obtain ⟨⟨s, vs, e⟩, nf, o⟩ := la
      exact ⟨s, vs, x2.frm a _ e o fun ps => HO.noConfusion⟩
    have ug : Ungo R2 (backR R2 R1 H1) H2 := ⟨rfl, rfl, fun a vs z e n => ⟨z, fun la => by
      obtain ⟨s, r, e2⟩ := keep a la
      rw [e] at e2
      cases e2
      exact n s r rfl⟩⟩
    have x3 : Ex R1 H1 (backR R2 R1 H1) H2 := ⟨x2.le, x2.at_, fun a z => ⟨x2.fz a (.inl z), fun la => la.2.1 z⟩, x2.nat, fun a z => by
      rcases x2.nfz a z.1 with (q | q) | q
      · exact .inl q
      · exact absurd q z.2
      · exact .inr q, x2.frm, x2.dom, x2.lk⟩
    have ok3 : HOk' C.K C.Cl (backR R2 R1 H1) H2 h2 := ⟨ok2.len, fun i o e => by
      obtain ⟨u, hu, r⟩ := ok2.obj i o e
      have hm : noSO o = true := List.all_eq_true.mp hs o (List.mem_of_getElem? e)
      exact ⟨u, hu, relO_un ug hm r⟩, ok2.inj, fun i hi z => ok2.nfz i hi z.1, fun a z => ok2.fzd a z.1, ok2.tab⟩
    exact k (backR R2 R1 H1) H2 h2 (.d d) v p2 (x1.trans x3) (e1.step x3 ok3) (relD_back hp r2)
end
theorem sE_callQ (f : Nat) (es : Es) : SndE (cE_callP f es) (fun F => dCallQ es.len (F.f f) (es.w F)) := by
    intro C G F gd k X Wx e S tk h
    cases es with
    | nil => cases e <;> exact absurd h Bool.false_ne_true
    | cons a es =>
      cases e <;> first | (exact absurd h Bool.false_ne_true) | skip
      rename_i f' ls kw p
      cases f' <;> rcases ls with _ | ⟨l, ls⟩ <;> rcases kw with _ | ⟨k1, kw⟩ <;> first | (exact absurd h Bool.false_ne_true) | skip
      rename_i x p1
      simp only [cE_callP] at h
      obtain ⟨h, g1⟩ := ba2 h
      obtain ⟨h, g2⟩ := ba2 h
      obtain ⟨h, g3⟩ := ba2 h
      obtain ⟨h, g4⟩ := ba2 h
      obtain ⟨h, g5⟩ := ba2 h
      cases q : G.fn[f]? with
      | none => rw [q] at h; cases h
      | some pq =>
        obtain ⟨y, n, g⟩ := pq
        rw [q] at h
        obtain ⟨h, n3⟩ := ba2 h
        obtain ⟨n1, n2⟩ := ba2 h
        cases of_decide_eq_true n1
        have n2 := of_decide_eq_true n2
        obtain ⟨fa, fd, ps, hm, hk, hl, hb, Fg, hg, _⟩ := S.fn f _ q
        have hb := hb (Option.isNone_iff_eq_none.mp n3)
        have hA : PA X (l :: ls) (liftW C Wx ((Es.cons a es).w F)) := dw_cons (E.snd a X Wx l S tk g2) (Es.sndW es X Wx ls S tk g1) (star_ok g3)
        have hl' : ps.length = es.len + 1 := hl.trans n2
        show PE X _ (lift C Wx (dCallQ (es.len + 1) (F.f f) ((Es.cons a es).w F)))
        rw [← hl']
        have Fg' : FnG X.prog X.w X.K X.mg X.base g k fa fd ps (liftF C.K C.Cl ps.length (F.f f)) := by rw [hl]; exact Fg
        exact de_callQ S.hK Fg' S.room (fun z => S.gdA (hg z)) tk (glB_ok g5) hm hk hb hA (okN_ok g4).1 (star_ok g3) (any_ok g1)
def E.callQ (f : Nat) (es : Es) : E := ⟨cE_callP f es, fun F => dCallQ es.len (F.f f) (es.w F), fun _ _ _ _ _ => False, sE_callQ f es, noT⟩
@[simp] theorem rdE_callQ (f : Nat) (es : Es) {F : Fns} : (E.callQ f es).rd F = dCallQ es.len (F.f f) (es.w F) := rfl
@[simp] theorem rtE_callQ (f : Nat) (es : Es) {F : Fns} : (E.callQ f es).rt F = (fun _ _ _ _ => False) := rfl
end DL
set_option maxHeartbeats 8000000
namespace DL
open PySem PySem.Spec PyProof.Rows L2
/-- what the module gives, apart from any frame -/
structure ModD (M : Xm) (G : Gm) (F : Fns) (Cl : Cm) (gd : Bool) (k : Nat) (P : Program) (w : World) (K : Fg) (mg : Str → Option Value) (base : Heap) : Prop where
  sh : G.sh = true → gd = true
  k1 : 1 ≤ k
  free : ∀ x ∈ G.free, mg x = none
  con : ∀ j x, G.con[j]? = some x → ∃ v u, mg x = some u ∧ RelV v u ∧ ∀ R H, RelD K R H (F.c j) v
  fn : ∀ C : Cn, C.K = K → C.Cl = Cl → FnAll G F C gd k P w K mg base
  ho : ∀ C : Cn, C.K = K → C.Cl = Cl → ∀ k2, k ≤ k2 → HoAll G F C gd k2 P w K mg base
  xm : XmOk M K Cl
  xmg : ∀ c x, M.names[c]? = some x → mg x = some (.ref (Cl c))
  xmk : ∀ c x, M.names[c]? = some x → M.rs c = true → (∃ fI, XiC P K mg (Cl c) fI (M.flds c)) ∧ (M.flds c).length ≤ 1000
theorem FnAll.mono {G : Gm} {F : Fns} {C : Cn} {gd : Bool} {j k : Nat} {P : Program} {w : World} {K : Fg} {mg : Str → Option Value} {base : Heap} (h : FnAll G F C gd j P w K mg base) (l : j ≤ k) : FnAll G F C gd k P w K mg base := fun i p e => by
  obtain ⟨fa, fd, ps, a1, a2, a3, a4, a5, a6⟩ := h i p e
  exact ⟨fa, fd, ps, a1, a2, a3, a4, a5.mono l, a6⟩
theorem ModD.mono {M : Xm} {G : Gm} {F : Fns} {Cl : Cm} {gd : Bool} {j k : Nat} {P : Program} {w : World} {K : Fg} {mg : Str → Option Value} {base : Heap} (m : ModD M G F Cl gd j P w K mg base) (l : j ≤ k) : ModD M G F Cl gd k P w K mg base :=
  ⟨m.sh, Nat.le_trans m.k1 l, m.free, m.con, fun C a b => (m.fn C a b).mono l, fun C a b k2 h => m.ho C a b k2 (Nat.le_trans l h), m.xm, m.xmg, m.xmk⟩
/-- the table of a def that makes lambdas, of a def called x, its code object the value cdv -/
def TabX (Cl : Cm) (base : Heap) (mg : Str → Option Value) (cdv : Value) (q : Str) : Prop := ∃ c Pt, LamX.TabB base mg c Pt ∧ cdv = .ref c ∧ (Pt, q) ∈ Cl.T ∧ ∀ p ∈ Cl.T, p.1 = Pt → p.2 = q
def scB (N ps : List Str) (sc : Scope) : Bool := decide (sc.kind = .function) && !sc.isCoroutine && !sc.isGenerator && decide N.Nodup && decide (N.take ps.length = ps) && (ps.all fun x => locB sc x) && (sc.names.all fun y => decide (y.2 ≠ .free))
theorem scB_ok {N ps : List Str} {sc : Scope} (h : scB N ps sc = true) : FnScope N ps sc := by
  unfold scB at h
  simp only [Bool.and_eq_true, decide_eq_true_eq, Bool.not_eq_true', List.all_eq_true] at h
  obtain ⟨⟨⟨⟨⟨⟨h1, h2⟩, h3⟩, h4⟩, h5⟩, h6⟩, h7⟩ := h
  exact ⟨h1, h2, h3, h4, h5, fun x hx => locB_ok (h6 x hx), h7⟩
/-- the whole check of a def -/
def parB (ko : Option (Nat × List (Str × Kq))) (ps : List Str) (a : Arguments) : Bool := match ko with
  | none => decide (posA a = some ps)
  | some (np, dfl) => decide (koA a = some (ps, np)) && decide (dfl.map (·.1)).Nodup
def defB (M : Xm) (G : Gm) (N ps : List Str) (m : Ss) (st : Stmt) (ko : Option (Nat × List (Str × Kq))) : Bool := scB N ps (defScope st) && m.chk M G N (defScope st) (defBody st) && parB ko ps (defArgs st)
theorem funD_binds {K : Fg} {x qual : Str} {st : Stmt} {ps : List Str} {f : Addr} {fd : FuncData} {kws : List (Str × V)} (Fu : FunD K x qual (defArgs st) (defBody st) (defScope st) [] kws f fd) (h : posA (defArgs st) = some ps) : Binds K fd ps [] := by
  obtain ⟨oc, od, dV, kV, doc, pm, an, cdv, ct, osl, rfl, lk, hcd, hdv, hkw⟩ := Fu.ex
  have hd : dV = .none := by
    rcases hdv with ⟨_, z⟩ | ⟨z, _⟩
    · exact z
    · exact absurd rfl z
  subst hd
  exact .all fun us hl => posA_bind (fd := PySem.W.fnOf x qual (defArgs st) (defBody st) (defScope st) .none kV doc pm an cdv ct) h rfl us hl
theorem fun_of {K : Fg} {x qual : Str} {st : Stmt} {f : Addr} {fd : FuncData} {kws : List (Str × V)} (Fu : FunD K x qual (defArgs st) (defBody st) (defScope st) [] kws f fd) : Fun K x qual st f fd := by
  obtain ⟨oc, od, dV, kV, doc, pm, an, cdv, ct, osl, e, lk, hcd, hdv, hkw⟩ := Fu.ex
  have hd : dV = .none := by
    rcases hdv with ⟨_, z⟩ | ⟨z, _⟩
    · exact z
    · exact absurd rfl z
  subst hd
  exact ⟨⟨oc, od, kV, doc, pm, an, cdv, ct, osl, e, lk, hcd⟩, Fu.kp⟩
section
variable {M : Xm} {G : Gm} {F : Fns} {Cl : Cm} {gd : Bool} {k : Nat} {P : Program} {w : World} {K : Fg} {mg : Str → Option Value} {base : Heap}
theorem ModD.stat (md : ModD M G F Cl gd k P w K mg base) {C : Cn} (hK : C.K = K) (hC : C.Cl = Cl) {N ps : List Str} {qual : Str} {scope : Scope} (S : FnScope N ps scope) {f : Addr} {cdv : Value} {A : Around} {outer : List PySem.Env} {s : Shared} {H : Hp} {E : XK} (hr : Room k (A.deeper (envOfC qual scope s.heap.objs.size f cdv))) (hg : Gd gd A)
    (hlm : G.lm = true → ∃ k', k' + 2 ≤ k ∧ ModD M G F Cl gd k' P w K mg base ∧ TabX Cl base mg cdv ((envOfC qual scope s.heap.objs.size f cdv).qual ++ "<lambda>")) (ha : F.a = noA) :
    StatS M G F C gd k (cxOf (CX K P w) P w K mg base N qual scope f cdv A outer s H E) := by
  subst hC
  subst hK
  exact { toStat := ⟨rfl, rfl, S.nd, (room65 hr), hr, fun z => hg z, md.sh, md.free, md.con, md.fn C rfl rfl, fun _ _ _ _ _ _ _ _ _ _ _ => by rw [ha]; exact de_noact, fun z => by
            obtain ⟨k', l, md', c, Pt, t1, t2, t3, t4⟩ := hlm z
            exact ⟨k', l, md'.fn C rfl rfl, md'.ho C rfl rfl _ (by omega), c, Pt, t1, t2, t3, t4⟩⟩, k1 := md.k1, pass := passes_of rfl, stk := rfl, frm := rfl, blk := by
            show (if scope.kind.isAnnotationScope then ScopeKind.function else scope.kind) = .function
            rw [S.kind]; rfl
          , fnA := fun _ => rfl, xm := md.xm, xmg := md.xmg, xmk := md.xmk }
/-- a def keeps its promise over trees -/
theorem def_ok {x qual : Str} {st : Stmt} {f : Addr} {fd : FuncData} {N ps : List Str} {m : Ss} {sp : FnD} {kws : List (Str × V)} (md : ModD M G F Cl gd k P w K mg base) (Fu : FunD K x qual (defArgs st) (defBody st) (defScope st) [] kws f fd) {ko : Option (Nat × List (Str × Kq))} (hc : defB M G N ps m st ko = true)
    (hsp : ∀ xs h Q Z, xs.length = ps.length → sp xs h Q Z → m.d M F (startD N.length xs) h ⟨fun _ h' => Q .non h', Q, fun y _ h' => Z y h', fun _ _ => False, fun _ _ => False⟩) (hlm : G.lm = false) (ha : F.a = noA) :
    FnG P w K mg base gd (k + 1) f fd ps (liftF K Cl ps.length sp) ∧ (ko = none → Binds K fd ps []) := by
  unfold defB at hc
  obtain ⟨hc, h3⟩ := ba2 hc
  obtain ⟨h1, h2⟩ := ba2 hc
  refine ⟨fnG_body (fun_of Fu) (scB_ok h1) (t := m.d M F) (fun C cdv A outer s H E lk hK hC hr hg => ?_) hsp, fun z => by subst z; exact funD_binds Fu (of_decide_eq_true h3)⟩
  exact Ss.snd m _ _ _ (md.stat hK hC (scB_ok h1) hr hg (fun z => by rw [hlm] at z; cases z) ha) (takes_of rfl rfl rfl rfl) h2
/-- one that makes lambdas -/
theorem def_okL {x qual : Str} {st : Stmt} {f : Addr} {fd : FuncData} {N ps : List Str} {m : Ss} {sp : FnD} {kws : List (Str × V)} (md : ModD M G F Cl gd k P w K mg base) (Fu : FunD K x qual (defArgs st) (defBody st) (defScope st) [] kws f fd) {ko : Option (Nat × List (Str × Kq))} (hc : defB M G N ps m st ko = true)
    (hsp : ∀ xs h Q Z, xs.length = ps.length → sp xs h Q Z → m.d M F (startD N.length xs) h ⟨fun _ h' => Q .non h', Q, fun y _ h' => Z y h', fun _ _ => False, fun _ _ => False⟩) (ha : F.a = noA)
    (htab : ∀ cdv, (∃ oc od osl fd0, K.lookup f = some ⟨oc, od, .func fd0, osl⟩ ∧ fd0.code = cdv ∧ PySem.W.codeIn K cdv qual = true) → TabX Cl base mg cdv (qual ++ ".<locals>." ++ "<lambda>")) :
    FnG P w K mg base gd (k + 3) f fd ps (liftF K Cl ps.length sp) ∧ (ko = none → Binds K fd ps []) := by
  unfold defB at hc
  obtain ⟨hc, h3⟩ := ba2 hc
  obtain ⟨h1, h2⟩ := ba2 hc
  refine ⟨fnG_body (k := k + 2) (fun_of Fu) (scB_ok h1) (t := m.d M F) (fun C cdv A outer s H E lk hK hC hr hg => ?_) hsp, fun z => by subst z; exact funD_binds Fu (of_decide_eq_true h3)⟩
  exact Ss.snd m _ _ _ ((md.mono (by omega)).stat hK hC (scB_ok h1) hr hg (fun z => ⟨k, Nat.le_refl _, md, htab cdv lk⟩) ha) (takes_of rfl rfl rfl rfl) h2
/-- one that calls what it is handed -/
theorem def_okH {x qual a : Str} {st : Stmt} {g : Addr} {fd : FuncData} {N : List Str} {m : Ss} {sp : HFn} {kws : List (Str × V)} (md : ModD M G F Cl gd k P w K mg base) (Fu : FunD K x qual (defArgs st) (defBody st) (defScope st) [] kws g fd) (hc : defB M G N [a] m st none = true)
    (hsp : ∀ f act h Q Z, sp act h Q Z → m.d M { F with a := onlyA f act } (startF N.length f) h ⟨fun _ h' => Q .non h', Q, fun y _ h' => Z y h', fun _ _ => False, fun _ _ => False⟩) (hlm : G.lm = false) :
    (∀ k2, k ≤ k2 → HoG P w K mg base gd k2 g fd a Cl sp) ∧ Binds K fd [a] [] := by
  unfold defB at hc
  obtain ⟨hc, h3⟩ := ba2 hc
  obtain ⟨h1, h2⟩ := ba2 hc
  refine ⟨fun k2 hk2 => ⟨fun A outer s H R h f o act Pd Zd Q E hr hg e0 hb hfo hfd hfn hff hact ok hq p1 p2 => ?_⟩, funD_binds Fu (of_decide_eq_true h3)⟩
  have S := scB_ok h1
  have Fu' := fun_of Fu
  obtain ⟨oc, od, kV, doc, pm, an, cdv, ct, osl, rfl, lk, hcd⟩ := Fu'.ex
  have hN : 0 < N.length := by
    have := S.pre
    cases N with
    | nil => simp at this
    | cons a b => simp
  refine LamX.run_ofS (CX := CX K P w) (N := N) (ps := [a]) (us := [.ref f]) (vs := [.ref f]) lk hcd S hr e0 hb (.cons rfl .nil) rfl fun hr' => ?_
  have md2 := md.mono hk2
  have Z : StatS M G { F with a := onlyA f act } ⟨K, Cl, R, H⟩ gd k2 (cxOf (CX K P w) P w K mg base N qual (defScope st) g cdv A outer s H E) :=
    { toStat := ⟨rfl, rfl, S.nd, (room65 hr'), hr', fun z => hg z, md2.sh, md2.free, md2.con, md2.fn ⟨K, Cl, R, H⟩ rfl rfl, fun pn xe Wx i y q1 q2 tk hi hv hn => de_act (Z := (cxOf (CX K P w) P w K mg base N qual (defScope st) g cdv A outer s H E).tr pn xe) (C := ⟨K, Cl, R, H⟩) (k := k2) (gd := gd) rfl rfl hact rfl hr' (fun z => hg z) tk hfo hfd hfn hff hi hv (okN_ok hn).1 (okN_ok hn).2.1, fun z => by rw [hlm] at z; cases z⟩
      k1 := md2.k1, pass := passes_of rfl, stk := rfl, frm := rfl
      blk := by
        show (if (defScope st).kind.isAnnotationScope then ScopeKind.function else (defScope st).kind) = .function
        rw [S.kind]; rfl
      fnA := fun _ => rfl, xm := md2.xm, xmg := md2.xmg, xmk := md2.xmk }
  refine ⟨_, Ss.snd m _ _ _ Z (takes_of rfl rfl rfl rfl) h2, R, _, h, _, env_startF hN ok, hsp f act h Pd Zd hq, ?_⟩
  exact ⟨fun R' ds σ H' h' e _ p => p1 R' H' h' .non .non p e.ex e.ok m_non, fun _ _ _ _ _ _ _ p => p.elim, fun _ _ _ _ _ _ _ p => p.elim, fun R' H' h' d v ok' x' r' p => p1 R' H' h' d v p x' ok' r',
    fun R' ds σ H' h' y cls dd e _ r' p => p2 R' H' h' y cls dd p e.ex e.ok r'⟩
end
theorem rel0 {K : Fg} {Cl : Cm} {H : Hp} (hT : LamX.Tabs Cl.T H) : HOk' K Cl ⟨0, fun _ => 0, fun _ => False⟩ H [] :=
  ⟨rfl, fun i o z => by simp at z, fun i j z => absurd z (Nat.not_lt_zero _), fun i z => absurd z (Nat.not_lt_zero _), fun a z => z.elim, hT⟩
theorem end_sp {K : Fg} {Cl : Cm} {H : Hp} {f : FnD} {a : Addr} {ns : List Int} (hT : LamX.Tabs Cl.T H) (hf : FoL K H a (ns.map V.int)) (spec : f [.fro (ns.map D.int)] [] (fun d _ => d = .bl true) fun _ _ => False) : liftF K Cl 1 f [.ref a] H (fun v _ => v = .bl true) fun _ _ _ => False := by
  refine ⟨⟨0, fun _ => 0, fun _ => False⟩, [.fro (ns.map D.int)], [], _, _, rel0 hT, ?_, rfl, spec, fun R' H' h' d v hd _ _ r => ?_, fun _ _ _ _ _ _ z => z.elim⟩
  · exact m_cons (by unfold RelD; exact ⟨a, ns.map V.int, rfl, hf, relDs_mkints ns⟩) m_nil
  · subst hd; exact r_bl r
abbrev emptyT : Obj := { cls := .none, data := .fields #[] }
theorem end_call {P : Program} {w : World} {K : Fg} {Cl : Cm} {mg mb : Str → Option Value} {gd : Bool} {k : Nat} {fa a : Addr} {fd : FuncData} {x : Str} {f : FnD} {st : Shared} {us : List Value} {ns : List Int} {cs : List (Addr × Addr)}
    (kin : K.In st.heap) (gl : st.heap.Ns mainGlobals mg) (bl : st.heap.Ns builtinsNs mb) (bb : ∀ y : Str, y ≠ "__name__" → mb y = bootBuiltins y) (nl : st.heap.NoLimit) (ge : st.gens = #[])
    (hT : ∀ p ∈ cs, st.heap.get? p.2 = some emptyT) (nT : ∀ p ∈ cs, K.lookup p.2 = none) (hC : ∀ p ∈ cs, PySem.W.CodeHd st.heap p.1 p.2) (hTl : ∀ q ∈ Cl.T, ∃ p ∈ cs, p.2 = q.1)
    (hbm : ∃ (bm : Addr) (ob : Obj), mg "__builtins__" = some (.ref bm) ∧ bm ≠ builtinsNs ∧ st.heap.get? bm = some ob ∧ ob.cls = .type "module" ∧ ob.dict = some builtinsNs ∧ ob.data = .plain)
    (oa : st.heap.get? a = some { cls := .type "list", data := .seq us.toArray }) (ia : IntsAre us ns) (sz : ns.length ≤ sizeLine) (rm : Room k callerA)
    (Fg : ∀ base : Heap, K.In base → base.Ns mainGlobals mg → (∀ p ∈ cs, LamX.TabB base mg p.1 p.2) → FnG P w K mg base gd k fa fd [x] (liftF K Cl 1 f)) (bd : ∀ (s : Shared) (u : Value), BindsTo s fd ⟨[u], []⟩ [(x, u)])
    (spec : f [.fro (ns.map D.int)] [] (fun d _ => d = .bl true) fun _ _ => False) :
    codeAny (model P w) callerA (.call (.ref fa) ⟨[.ref a], []⟩) (fun r s' => r = .ok (.ret (.bool true)) ∧ OldK st.heap s'.heap ∧ s'.os = st.os ∧ AllBare s'.gens) st := by
  have rv := vals_ints ia
  have tob : ∀ b, b ∈ cs.map (·.2) → st.heap.get? b = some emptyT := fun b hb => by
    obtain ⟨p, hp, rfl⟩ := List.mem_map.mp hb
    exact hT p hp
  have na : a ∉ cs.map (·.2) := fun z => by
    have q := tob a z
    rw [oa] at q
    cases q
  have main : ∀ H : Hp, (∀ b u, H b = some u → (b = a ∧ K.lookup a = none ∧ u = .frz { cls := .type "list", data := .seq us.toArray } (.lst (ns.map V.int))) ∨ (b ∈ cs.map (·.2) ∧ u = .tbl #[])) → (∀ b ∈ cs.map (·.2), H b = some (.tbl #[])) → FoL K H a (ns.map V.int) → HOk P w H st.heap →
      codeAny (model P w) callerA (.call (.ref fa) ⟨[.ref a], []⟩) (fun r s' => r = .ok (.ret (.bool true)) ∧ OldK st.heap s'.heap ∧ s'.os = st.os ∧ AllBare s'.gens) st := by
    intro H only tabs fo hok
    have up : ∀ {b : Addr} {o : Obj}, st.heap.get? b = some o → H b = none → (hidT st.heap H).get? b = some o := fun z n => hidT_get z n
    have free : ∀ {b : Addr} {o : Obj}, st.heap.get? b = some o → (∀ us n, o.data ≠ .seq us n) → o.data ≠ .fields #[] → H b = none := fun {b o} z n1 n2 => by
      cases q : H b with
      | none => rfl
      | some u =>
        rcases only b u q with ⟨rfl, _⟩ | ⟨m, _⟩
        · rw [oa] at z; cases z; exact absurd rfl (n1 _ _)
        · rw [tob b m] at z; cases z; exact absurd rfl n2
    have nsU : ∀ {b : Addr} {m : Str → Option Value}, st.heap.Ns b m → (hidT st.heap H).Ns b m := fun {b m} z => by
      obtain ⟨o, es, ep, e1, e2, r⟩ := z
      refine ⟨o, es, ep, up e1 (free e1 (fun _ _ y => ?_) fun y => ?_), e2, r⟩
      · rw [e2] at y; cases y
      · rw [e2] at y; cases y
    have kinU : K.In (hidT st.heap H) := fun b o z => up (kin b o z) (by
      cases q : H b with
      | none => rfl
      | some u =>
        rcases only b u q with ⟨rfl, kn, _⟩ | ⟨m, _⟩
        · rw [kn] at z; cases z
        · obtain ⟨p, hp, rfl⟩ := List.mem_map.mp m
          rw [nT p hp] at z; cases z)
    have limU : (hidT st.heap H).NoLimit := by
      obtain ⟨mc, z1, z2⟩ := nl
      exact ⟨mc, nsU z1, z2⟩
    have tabU : ∀ p ∈ cs, LamX.TabB (hidT st.heap H) mg p.1 p.2 := fun p hp => by
      have tp := hT p hp
      refine ⟨?_, ?_, fun z => ?_⟩
      · obtain ⟨o, vs, file, tf, flags, tg, inF, text, tt, e1, r1, r2, r3, r4⟩ := hC p hp
        refine ⟨o, vs, file, tf, flags, tg, inF, text, tt, up e1 (free e1 (fun _ _ y => ?_) fun y => ?_), r1, r2, r3, r4⟩
        · rw [r2] at y; cases y
        · rw [r2] at y; cases y; simp at r3
      · obtain ⟨bm, ob, b1, b2, b3, b4, b5, b6⟩ := hbm
        refine ⟨bm, ob, b1, b2, fun y => ?_, fun y => ?_, up b3 (free b3 (fun _ _ y => ?_) fun y => ?_), b4, b5, b6⟩
        · obtain ⟨o, es, ep, e1, e2, _⟩ := gl
          rw [y, e1] at b3; cases b3; rw [e2] at b6; cases b6
        · rw [y, tp] at b3; cases b3; cases b6
        · rw [b6] at y; cases y
        · rw [b6] at y; cases y
      · obtain ⟨o, es, ep, e1, e2, _⟩ := gl
        rw [z, tp] at e1; cases e1; cases e2
    have tabs0 : LamX.Tabs Cl.T H := fun q hq => by
      obtain ⟨p, hp, e⟩ := hTl q hq
      exact LamX.TabS.nil (tabs q.1 (List.mem_map.mpr ⟨p, hp, e⟩))
    have env : Env0 P w K mg (hidT st.heap H) callerA [] st H := ⟨rfl, ⟨kinU, nsU gl, ⟨mb, nsU bl, bb⟩, limU⟩, fun _ _ z => of_hidT z, Nat.le_of_eq (hidT_size _ _), trivial, fun b z => (by simp [frs] at z), hok, .of_eq ge⟩
    have go := (Fg _ kinU (nsU gl) tabU).run callerA [] st H ⟨[.ref a], []⟩ [.ref a] [.ref a] _ _ rm (fun _ => rfl) env (bd st (.ref a)) (.cons rfl .nil) (end_sp (Cl := Cl) tabs0 fo spec)
    refine codeAny_mono go fun r s' z => ?_
    cases r with
    | error er =>
      rcases z with z | z
      · obtain ⟨_, _, _, _, _, _, _, _, _, _, _, _, q⟩ := z
        exact q.2.elim
      · obtain ⟨_, _, _, _, _, _, _, _, _, _, _, _, q⟩ := z
        exact q.2.elim
    | ok fl =>
      cases fl with
      | next => exact False.elim z
      | brk => exact False.elim z
      | cont => exact False.elim z
      | ret u =>
        obtain ⟨v, H', eo, ba, un, hok', rl, q⟩ := z
        have q' : v = .bl true := q
        subst q'
        cases (show u = Value.bool true from rl)
        have same : ∀ b o, b ∉ cs.map (·.2) → st.heap.get? b = some o → s'.heap.get? b = some o := fun b o nb e => by
          cases qb : H b with
          | none => exact un.keep b o e qb (by simp [frs]) (by simp)
          | some y =>
            rcases only b y qb with ⟨_, _, rfl⟩ | ⟨m, _⟩
            · obtain ⟨w1, _⟩ := hok b _ qb
              obtain ⟨w2, _⟩ := hok' b _ (un.frzs b _ _ qb)
              rw [e] at w1
              cases w1
              exact w2
            · exact absurd m nb
        have grow : ∀ p ∈ cs, ∃ more : Array Value, s'.heap.get? p.2 = some { cls := .none, data := .fields more } := fun p hp => by
          obtain ⟨more, y⟩ := un.tbls p.2 #[] (tabs p.2 (List.mem_map.mpr ⟨p, hp, rfl⟩))
          exact ⟨_, hok' p.2 _ y⟩
        refine ⟨rfl, ⟨fun b o e => ?_, fun b o e => ?_⟩, eo, ba⟩
        · by_cases hb : b ∈ cs.map (·.2)
          · obtain ⟨p, hp, rfl⟩ := List.mem_map.mp hb
            obtain ⟨more, hm⟩ := grow p hp
            rw [hT p hp] at e
            cases e
            exact .inr (.inl ⟨((hC p hp).tab (hT p hp)).isCodeTable, rfl, #[], more, rfl, by rw [Array.empty_append]; exact hm⟩)
          · exact .inl (same b o hb e)
        · by_cases hb : b ∈ cs.map (·.2)
          · obtain ⟨p, hp, rfl⟩ := List.mem_map.mp hb
            obtain ⟨more, hm⟩ := grow p hp
            exact ⟨_, hm⟩
          · exact ⟨o, same b o hb e⟩
  cases hk : K.lookup a with
  | some o =>
    have z := kin a o hk
    rw [oa] at z
    cases z
    refine main (fun b => if b ∈ cs.map (·.2) then some (.tbl #[]) else none) (fun b u y => ?_) (fun b hb => if_pos hb) (.inr ⟨_, us.toArray, _, hk, rfl, rfl, rfl, by rw [List.size_toArray, ia.length]; exact sz, by simpa using rv⟩) (fun b u y => ?_)
    · by_cases hb : b ∈ cs.map (·.2)
      · have y' := (if_pos hb).symm.trans y; cases y'; exact .inr ⟨hb, rfl⟩
      · have y' := (if_neg hb).symm.trans y; cases y'
    · by_cases hb : b ∈ cs.map (·.2)
      · have y' := (if_pos hb).symm.trans y; cases y'; exact tob b hb
      · have y' := (if_neg hb).symm.trans y; cases y'
  | none =>
    refine main (fun b => if b = a then some (.frz { cls := .type "list", data := .seq us.toArray } (.lst (ns.map V.int))) else if b ∈ cs.map (·.2) then some (.tbl #[]) else none) (fun b u y => ?_) (fun b hb => ?_) (.inl ⟨_, if_pos rfl⟩) (fun b u y => ?_)
    · by_cases hb : b = a
      · have y' := (if_pos hb).symm.trans y; cases y'; exact .inl ⟨hb, hk, rfl⟩
      · have y1 := (if_neg hb).symm.trans y
        by_cases hb2 : b ∈ cs.map (·.2)
        · have y' := (if_pos hb2).symm.trans y1; cases y'; exact .inr ⟨hb2, rfl⟩
        · have y' := (if_neg hb2).symm.trans y1; cases y'
    · have hba : ¬ b = a := fun z => na (z ▸ hb)
      exact (if_neg hba).trans (if_pos hb)
    · by_cases hb : b = a
      · have y' := (if_pos hb).symm.trans y
        cases y'
        subst hb
        exact ⟨oa, by rw [List.length_map]; exact sz, us, _, rv, oa⟩
      · have y1 := (if_neg hb).symm.trans y
        by_cases hb2 : b ∈ cs.map (·.2)
        · have y' := (if_pos hb2).symm.trans y1; cases y'; exact tob b hb2
        · have y' := (if_neg hb2).symm.trans y1; cases y'
/-- a law by its own def's promise over trees -/
theorem walk_D {l : PySem.W.OpenLaw} {n k : Nat} {q : Program} {loose : List Str} {XP : (Str → Option Value) → Heap → Prop} {YP : World → Heap → Prop} {d : DefRec} {x : Str} {gd : Bool} {f : FnD}
    (hn : l.most = some n) (hn2 : n ≤ sizeLine) (hdf : d.params.defaults = []) (rm : Room k callerA)
    (spec : ∀ ns : List Int, ns.length ≤ n → f [.fro (ns.map D.int)] [] (fun d _ => d = .bl true) fun _ _ => False)
    (F : ∀ (w : World) (mg : Str → Option Value) (fa : Addr) (h : Heap), YP w h → h.Ns mainGlobals mg → mg d.name = some (.ref fa) → ∃ (K : Fg) (fd : FuncData) (Cl : Cm) (cs : List (Addr × Addr)), K.In h ∧ (∀ (s : Shared) (u : Value), BindsTo s fd ⟨[u], []⟩ [(x, u)]) ∧
      (∀ p ∈ cs, h.get? p.2 = some emptyT) ∧ (∀ p ∈ cs, K.lookup p.2 = none) ∧ (∀ p ∈ cs, PySem.W.codeHdIn K p.1 p.2 = true) ∧ (∀ q ∈ Cl.T, ∃ p ∈ cs, p.2 = q.1) ∧
      ∀ base : Heap, K.In base → base.Ns mainGlobals mg → (∀ p ∈ cs, LamX.TabB base mg p.1 p.2) → FnG l.prog w K mg base gd k fa fd [x] (liftF K Cl 1 f)) :
    PySem.W.WalkO q loose XP YP l.row.toRowW d [] (fun f vs => PySem.call f vs) := by
  refine Att.attach_call hn hdf fun w t₀ t₁ mg mb fa o pm cd doc a us ns Gr Y ho hd hcd hm hobj hints hlen hgn => ?_
  obtain ⟨K, fd, Cl, cs, kx, hb, c1, c2, c3, c4, hF⟩ := F w mg fa _ Y Gr.T.g hm
  exact end_call kx Gr.T.g Gr.T.b Gr.T.builtins Gr.T.nolimit hgn c1 c2 (fun p hp => PySem.W.codeHd_of_K kx (c3 p hp)) c4 Gr.T.bmain hobj hints (Nat.le_trans hlen hn2) rm hF hb (spec ns hlen)
end DL
set_option maxHeartbeats 8000000
namespace DL
open PySem PySem.Spec PyProof.Rows L2
def frX (n : Nat) (g : Addr → Option Obj) : Fg := He.frT g (He.asD g n ++ [PySem.cStatics])
def obsX (n : Nat) (fa : List He.Fa) (fn : List He.DefD) (xt : Fg → Bool) (tf : List He.Defn) (g : Addr → Option Obj) : He.AlD := ((He.obsD fa fn (frX n g)).1 && (xt (frX n g) && He.tabsB g tf (frX n g)), (He.obsD fa fn (frX n g)).2)
structure SaysX (fa : List He.Fa) (fn : List He.DefD) (xt : Fg → Bool) (tf : List He.Defn) (h : Heap) (K : Fg) : Prop where
  d : He.SaysD fa fn K
  x : xt K = true
  hd : ∀ p ∈ tf, PySem.W.codeHdIn K (He.cT K p).1 (He.cT K p).2 = true
  out : ∀ p ∈ tf, K.lookup (He.cT K p).2 = none
  emp : ∀ p ∈ tf, h.get? (He.cT K p).2 = some { cls := .none, data := .fields #[] }
def hookX (n : Nat) (fa : List He.Fa) (fn : List He.DefD) (xt : Fg → Bool) (tf : List He.Defn) : PySem.W.Hook where
  α := He.AlD
  obs := fun s => obsX n fa fn xt tf s.heap.get?
  val := fun _ => He.valD fn
  says := fun _ h => ∃ K : Fg, K.In h ∧ SaysX fa fn xt tf h K
  of := fun _ s e => by
    refine ⟨frX n s.heap.get?, He.frT_in, ?_⟩
    have e0 : (((He.obsD fa fn (frX n s.heap.get?)).1 && (xt (frX n s.heap.get?) && He.tabsB s.heap.get? tf (frX n s.heap.get?)), (He.obsD fa fn (frX n s.heap.get?)).2) : He.AlD) = He.valD fn := e
    have e1 : ((He.obsD fa fn (frX n s.heap.get?)).1 && (xt (frX n s.heap.get?) && He.tabsB s.heap.get? tf (frX n s.heap.get?))) = true := (Prod.mk.inj e0).1
    have e2 : (He.obsD fa fn (frX n s.heap.get?)).2 = (He.valD fn).2 := (Prod.mk.inj e0).2
    obtain ⟨a, b⟩ := ba2 e1
    obtain ⟨b, c⟩ := ba2 b
    have key : ∀ p ∈ tf, PySem.W.codeHdIn (frX n s.heap.get?) (He.cT (frX n s.heap.get?) p).1 (He.cT (frX n s.heap.get?) p).2 = true ∧ ∃ o, s.heap.get? (He.cT (frX n s.heap.get?) p).2 = some o ∧ He.emptyTab o = true := fun p hp => by
      obtain ⟨k1, k2⟩ := ba2 (List.all_eq_true.mp c p hp)
      refine ⟨k1, ?_⟩
      split at k2
      · rename_i o ho; exact ⟨o, ho, k2⟩
      · cases k2
    exact ⟨Prod.ext a e2, b, fun p hp => (key p hp).1, fun p hp => by obtain ⟨_, o, q, z⟩ := key p hp; exact He.frT_none q z, fun p hp => by obtain ⟨_, o, q, z⟩ := key p hp; rw [q, He.emptyTab_eq z]⟩
  keeps := fun _ _ _ ⟨K, hK, c⟩ k => ⟨K, PySem.W.Frag.In.keeps hK k, ⟨c.d, c.x, c.hd, c.out, fun p hp => k _ _ (c.emp p hp)⟩⟩
theorem obsX_eq {n : Nat} {fa : List He.Fa} {fn : List He.DefD} {xt : Fg → Bool} {tf : List He.Defn} {g : Addr → Option Obj} {s : Shared} (h : ∀ a, g a = s.heap.get? a) : obsX n fa fn xt tf g = (hookX n fa fn xt tf).obs s := by
  have e : g = s.heap.get? := funext h
  rw [e]; rfl
end DL
set_option maxHeartbeats 4000000
namespace DL
open PySem PySem.Spec PyProof.Rows L2
section
variable {ds : DSt} {h : Hs} {P : W → Hs → Prop} {Pv : D → Hs → Prop} {Pa : List D → Hs → Prop} {Pt : Bool → Hs → Prop} {Z : XD} {Q : DEnds} {t u : TDE} {i : Nat}
@[simp] theorem x_dD : dD t ds h Pv Z = t ds h (fun w h' => ∃ d, toD w = some d ∧ Pv d h') Z := rfl
@[simp] theorem x_var : dVar i ds h P Z = ∃ w, ds[i]? = some (some w) ∧ P w h := rfl
@[simp] theorem x_c {d : D} : dC d ds h P Z = P (.d d) h := rfl
@[simp] theorem x_op2 {r : W → W → (W → Prop) → Prop} : dOp2 r t u ds h P Z = t ds h (fun x h1 => u ds h1 (fun y h2 => r x y fun z => P z h2) Z) Z := rfl
@[simp] theorem x_op1 {r : W → (W → Prop) → Prop} : dOp1 r t ds h P Z = t ds h (fun x h1 => r x fun z => P z h1) Z := rfl
@[simp] theorem x_and : dAnd t u ds h P Z = t ds h (fun x h1 => ∃ b, truW x = some b ∧ if b = true then u ds h1 P Z else P x h1) Z := rfl
@[simp] theorem x_or : dOr t u ds h P Z = t ds h (fun x h1 => ∃ b, truW x = some b ∧ if b = true then P x h1 else u ds h1 P Z) Z := rfl
@[simp] theorem x_notV : dNotV t ds h P Z = t ds h (fun x h1 => ∃ b, truW x = some b ∧ P (.d (.bl (!b))) h1) Z := rfl
@[simp] theorem x_if {c : TDT} : dIf c t u ds h P Z = c ds h (fun b h1 => if b = true then t ds h1 P Z else u ds h1 P Z) Z := rfl
@[simp] theorem x_ifT {c a b : TDT} : dIfT c a b ds h Pt Z = c ds h (fun x h1 => if x = true then a ds h1 Pt Z else b ds h1 Pt Z) Z := rfl
@[simp] theorem x_tru : dTru t ds h Pt Z = t ds h (fun w h' => ∃ b, truW w = some b ∧ Pt b h') Z := rfl
@[simp] theorem x_andT {a b : TDT} : dAndT a b ds h Pt Z = a ds h (fun x h1 => if x = true then b ds h1 Pt Z else Pt false h1) Z := rfl
@[simp] theorem x_orT {a b : TDT} : dOrT a b ds h Pt Z = a ds h (fun x h1 => if x = true then Pt true h1 else b ds h1 Pt Z) Z := rfl
@[simp] theorem x_notT {a : TDT} : dNotT a ds h Pt Z = a ds h (fun b h1 => Pt (!b) h1) Z := rfl
@[simp] theorem x_cmpT {op : Cop} : dCmpT op t u ds h Pt Z = t ds h (fun x h1 => u ds h1 (fun y h2 => wCmp op x y fun z => ∃ b, z = .d (.bl b) ∧ Pt b h2) Z) Z := rfl
@[simp] theorem x_isT {n : Bool} : dIsT n t ds h Pt Z = t ds h (fun x h1 => Pt (xor n (isNon x)) h1) Z := rfl
@[simp] theorem x_nil : dNil ds h Pa Z = Pa [] h := rfl
@[simp] theorem x_cons {a : TDA} : dCons t a ds h Pa Z = dD t ds h (fun x h1 => a ds h1 (fun xs h2 => Pa (x :: xs) h2) Z) Z := rfl
@[simp] theorem x_tup {a : TDA} : dTup a ds h P Z = a ds h (fun xs h1 => xs.length ≤ sizeLine ∧ P (.d (.tup xs)) h1) Z := rfl
@[simp] theorem x_lst {a : TDA} : dLst a ds h P Z = a ds h (fun xs h1 => xs.length ≤ sizeLine ∧ P (.new xs) h1) Z := rfl
@[simp] theorem x_call {n : Nat} {f : FnD} {a : TDA} : dCall n f a ds h P Z = a ds h (fun xs h1 => xs.length = n ∧ f xs h1 (fun d h2 => P (.d d) h2) Z) Z := rfl
@[simp] theorem x_mm {mx : Bool} : dMM mx t u ds h P Z = dCons t (dCons u dNil) ds h (fun xs h' => ∃ i j, xs = [.int i, .int j] ∧ P (.d (.int (mmI mx i j))) h') Z := rfl
@[simp] theorem x_join : dJoin t u ds h P Z = t ds h (fun x h1 => (∃ a, x = .d (.str a)) ∧ u ds h1 (fun y h2 => wJoin x y fun z => P z h2) Z) Z := rfl
@[simp] theorem x_act {a : Addr → ActD} : dAct i a ds h P Z = ∃ f, ds[i]? = some (some (.fn f)) ∧ a f h (fun d h' => P (.d d) h') Z := rfl
@[simp] theorem x_only {f g : Addr} {act : ActD} : onlyA f act g h Pv Z = (g = f ∧ act h Pv Z) := rfl
@[simp] theorem x_lam {sp : HFn} : dLam sp t ds h P Z = sp (fun h' P' Z' => dD t ds h' P' Z') h (fun d h' => P (.d d) h') Z := rfl
@[simp] theorem x_dic {ks : List Str} {a : TDA} : dDic ks a ds h P Z = a ds h (fun xs h1 => xs.length = ks.length ∧ P (.d (.ref h1.length)) (h1 ++ [.dic ((ks.map Sum.inr).zip xs)])) Z := rfl
@[simp] theorem x_next : dNext ds h Q = Q.nx ds h := rfl
@[simp] theorem x_seq {a b : TDS} : dSeq a b ds h Q = a ds h { Q with nx := fun ds' h' => b ds' h' Q } := rfl
@[simp] theorem x_ret : dRet t ds h Q = dD t ds h (fun d h' => Q.rt d h') (fun x h' => Q.ex x ds h') := rfl
@[simp] theorem x_set : dSet i t ds h Q = dD t ds h (fun d h' => Q.nx (ds.set i (some (.d d))) h') (fun x h' => Q.ex x ds h') := rfl
@[simp] theorem x_own : dOwn i t ds h Q = t ds h (fun w h' => ∃ xs, w = .new xs ∧ Q.nx (ds.set i (some (.own xs))) h') (fun x h' => Q.ex x ds h') := rfl
@[simp] theorem x_ite {c : TDT} {a b : TDS} : dIte c a b ds h Q = c ds h (fun b' h' => if b' = true then a ds h' Q else b ds h' Q) (fun x h' => Q.ex x ds h') := rfl
@[simp] theorem x_asg {g : Tg} : dAsg g t ds h Q = dD t ds h (fun d h' => g.put d ds fun ds' => Q.nx ds' h') (fun x h' => Q.ex x ds h') := rfl
@[simp] theorem x_for {it : TDI} {g : Tg} {b : TDS} : dFor it g b ds h Q = it ds h (fun xs h' => forD g b Q xs ds h') (fun x h' => Q.ex x ds h') := rfl
@[simp] theorem toD_d {x : D} : toD (.d x) = some x := rfl
@[simp] theorem toD_new {xs : List D} : toD (.new xs) = some (.lst xs) := rfl
@[simp] theorem tru_non : truW (.d .non) = some false := rfl
@[simp] theorem tru_bl {b : Bool} : truW (.d (.bl b)) = some b := rfl
@[simp] theorem tru_int {i : Int} : truW (.d (.int i)) = some (i != 0) := rfl
@[simp] theorem isNon_d {x : D} : isNon (.d x) = (match x with | .non => true | _ => false) := by cases x <;> rfl
@[simp] theorem wIs_d {n : Bool} {x : W} {Qw : W → Prop} : wIs n x Qw = Qw (.d (.bl (xor n (isNon x)))) := rfl
@[simp] theorem put_nm {j : Nat} {d : D} {Pp : DSt → Prop} : (Tg.nm j).put d ds Pp = Pp (ds.set j (some (.d d))) := by unfold Tg.put; rfl
@[simp] theorem put_tp {ts : Tgs} {d : D} {Pp : DSt → Prop} : (Tg.tp ts).put d ds Pp = ∃ xs, d = .tup xs ∧ xs.length = ts.len ∧ ts.put xs ds Pp := by rw [Tg.put]
@[simp] theorem puts_nil {xs : List D} {Pp : DSt → Prop} : Tgs.nil.put xs ds Pp = (xs = [] ∧ Pp ds) := by rw [Tgs.put]
@[simp] theorem puts_cons {a : Tg} {ts : Tgs} {x : D} {xs : List D} {Pp : DSt → Prop} : (Tgs.cons a ts).put (x :: xs) ds Pp = a.put x ds fun ds' => ts.put xs ds' Pp := by
  rw [Tgs.put]
  apply propext
  constructor
  · rintro ⟨y, r, e, p⟩; cases e; exact p
  · intro p; exact ⟨x, xs, rfl, p⟩
end
end DL
set_option maxHeartbeats 4000000
namespace DL
open PySem PySem.Spec PyProof.Rows L2
mutual
/-- at least as long as the text of it -/
def szD : D → Nat
  | .non => 4
  | .bl _ => 5
  | .int i => i.natAbs.log2 + 3
  | .str s => 10 * s.cps.size + 2
  | .ty _ => 0
  | .ref _ => 0
  | .tup xs => szDs xs + 3
  | .lst xs => szDs xs + 3
  | .fro xs => szDs xs + 3
  | .wtp xs => szDs xs + 3
def szDs : List D → Nat
  | [] => 0
  | x :: xs => szD x + 2 + szDs xs
end
mutual
def dpD : D → Nat
  | .tup xs => dpDs xs + 1
  | .lst xs => dpDs xs + 1
  | .fro xs => dpDs xs + 1
  | .wtp xs => dpDs xs + 1
  | _ => 0
def dpDs : List D → Nat
  | [] => 0
  | x :: xs => max (dpD x) (dpDs xs)
end
mutual
/-- plain data: what can be shown and compared -/
def plD : D → Bool
  | .non => true
  | .bl _ => true
  | .int i => decide (i.natAbs.log2 < 1920)
  | .str s => PyData.strOk s
  | .ty _ => false
  | .ref _ => false
  | .tup xs => plDs xs
  | .lst xs => plDs xs
  | .fro xs => plDs xs
  | .wtp xs => plDs xs
def plDs : List D → Bool
  | [] => true
  | x :: xs => plD x && plDs xs
end
mutual
def pyD : D → PyData
  | .non => .none
  | .bl b => .bool b
  | .int i => .int i
  | .str s => .str s
  | .ty _ => .none
  | .ref _ => .none
  | .tup xs => .tuple (pyDs xs)
  | .lst xs => .list (pyDs xs)
  | .fro xs => .list (pyDs xs)
  | .wtp xs => .tuple (pyDs xs)
def pyDs : List D → List PyData
  | [] => []
  | x :: xs => pyD x :: pyDs xs
end
mutual
theorem toPy_pl : ∀ {x : D}, plD x = true → toPy x = some (pyD x)
  | .non, _ => by simp [toPy, pyD]
  | .bl _, _ => by simp [toPy, pyD]
  | .int _, _ => by simp [toPy, pyD]
  | .str _, _ => by simp [toPy, pyD]
  | .ty _, h => by simp [plD] at h
  | .ref _, h => by simp [plD] at h
  | .tup xs, h => by simp [toPy, pyD, toPys_pl (xs := xs) (by simpa [plD] using h)]
  | .lst xs, h => by simp [toPy, pyD, toPys_pl (xs := xs) (by simpa [plD] using h)]
  | .fro xs, h => by simp [toPy, pyD, toPys_pl (xs := xs) (by simpa [plD] using h)]
  | .wtp xs, h => by simp [toPy, pyD, toPys_pl (xs := xs) (by simpa [plD] using h)]
theorem toPys_pl : ∀ {xs : List D}, plDs xs = true → toPys xs = some (pyDs xs)
  | [], _ => by simp [toPys, pyDs]
  | x :: xs, h => by
    simp [plDs] at h
    simp [toPys, pyDs, toPy_pl h.1, toPys_pl h.2]
end
mutual
theorem shw_pl : ∀ {x : D}, plD x = true → (pyD x).showable = true
  | .non, _ => by simp [pyD, PyData.showable]
  | .bl _, _ => by simp [pyD, PyData.showable]
  | .int _, h => by simpa [pyD, PyData.showable, plD] using h
  | .str _, _ => by simp [pyD, PyData.showable]
  | .ty _, h => by simp [plD] at h
  | .ref _, h => by simp [plD] at h
  | .tup xs, h => by simpa [pyD, PyData.showable] using shws_pl (xs := xs) (by simpa [plD] using h)
  | .lst xs, h => by simpa [pyD, PyData.showable] using shws_pl (xs := xs) (by simpa [plD] using h)
  | .fro xs, h => by simpa [pyD, PyData.showable] using shws_pl (xs := xs) (by simpa [plD] using h)
  | .wtp xs, h => by simpa [pyD, PyData.showable] using shws_pl (xs := xs) (by simpa [plD] using h)
theorem shws_pl : ∀ {xs : List D}, plDs xs = true → PyData.showableAll (pyDs xs) = true
  | [], _ => by simp [PyData.showableAll, pyDs]
  | x :: xs, h => by
    simp [plDs] at h
    simp [PyData.showableAll, pyDs, shw_pl h.1, shws_pl h.2]
end
mutual
theorem dep_pl : ∀ (x : D), (pyD x).depth = dpD x
  | .non => by simp [pyD, PyData.depth, dpD]
  | .bl _ => by simp [pyD, PyData.depth, dpD]
  | .int _ => by simp [pyD, PyData.depth, dpD]
  | .str _ => by simp [pyD, PyData.depth, dpD]
  | .ty _ => by simp [pyD, PyData.depth, dpD]
  | .ref _ => by simp [pyD, PyData.depth, dpD]
  | .tup xs => by simp [pyD, PyData.depth, dpD, deps_pl xs]
  | .lst xs => by simp [pyD, PyData.depth, dpD, deps_pl xs]
  | .fro xs => by simp [pyD, PyData.depth, dpD, deps_pl xs]
  | .wtp xs => by simp [pyD, PyData.depth, dpD, deps_pl xs]
theorem deps_pl : ∀ (xs : List D), PyData.depthAll (pyDs xs) = dpDs xs
  | [] => by simp [PyData.depthAll, pyDs, dpDs]
  | x :: xs => by simp [PyData.depthAll, pyDs, dpDs, dep_pl x, deps_pl xs]
end
mutual
theorem lay_pl : ∀ {x : D}, plD x = true → (pyD x).canLay0 = true
  | .non, _ => by simp [pyD, PyData.canLay0]
  | .bl _, _ => by simp [pyD, PyData.canLay0]
  | .int _, h => by simp [pyD, PyData.canLay0]
  | .str _, h => by simpa [pyD, PyData.canLay0, plD] using h
  | .ty _, h => by simp [plD] at h
  | .ref _, h => by simp [plD] at h
  | .tup xs, h => by simpa [pyD, PyData.canLay0] using lays_pl (xs := xs) (by simpa [plD] using h)
  | .lst xs, h => by simpa [pyD, PyData.canLay0] using lays_pl (xs := xs) (by simpa [plD] using h)
  | .fro xs, h => by simpa [pyD, PyData.canLay0] using lays_pl (xs := xs) (by simpa [plD] using h)
  | .wtp xs, h => by simpa [pyD, PyData.canLay0] using lays_pl (xs := xs) (by simpa [plD] using h)
theorem lays_pl : ∀ {xs : List D}, plDs xs = true → PyData.canLayAll0 (pyDs xs) = true
  | [], _ => by simp [PyData.canLayAll0, pyDs]
  | x :: xs, h => by
    simp [plDs] at h
    simp [PyData.canLayAll0, pyDs, lay_pl h.1, lays_pl h.2]
end
theorem sAll_len : ∀ (xs : List D), (PyData.shownAll (pyDs xs)).length = xs.length
  | [] => by simp [pyDs, PyData.shownAll]
  | x :: xs => by simp [pyDs, PyData.shownAll, sAll_len xs]
mutual
theorem len_pl : ∀ {x : D}, plD x = true → (pyD x).shown.length ≤ szD x
  | .non, _ => by simp only [pyD, szD]; decide
  | .bl b, _ => by simp only [pyD, szD]; cases b <;> decide
  | .int i, h => by
    simp only [pyD, szD, PyData.shown]
    have := int_text_length_le (a := i) (k := i.natAbs.log2 + 1) (by omega) (by omega)
    rw [PySem.ofString_length]
    omega
  | .str s, h => by
    simp only [pyD, szD, PyData.shown]
    refine StrLaws.reprText_len s fun c hc => ?_
    have h0 : s.cps.all (· < 0x110000) = true := by simpa only [plD, PyData.strOk] using h
    have := (Array.all_eq_true_iff_forall_mem.mp h0) c (Array.mem_toList_iff.mp hc)
    have e : (16 : Nat) ^ 8 = 4294967296 := by decide
    have : c < 0x110000 := by simpa using this
    omega
  | .ty _, h => by simp [plD] at h
  | .ref _, h => by simp [plD] at h
  | .tup xs, h => by
    have h1 := lens_pl (xs := xs) (by simpa [plD] using h)
    have h2 := tupleText_len_le (PyData.shownAll (pyDs xs))
    have h3 := sAll_len xs
    simp only [pyD, szD, PyData.shown]
    omega
  | .lst xs, h => by
    have h1 := lens_pl (xs := xs) (by simpa [plD] using h)
    have h2 := listText_len_le (PyData.shownAll (pyDs xs))
    have h3 := sAll_len xs
    simp only [pyD, szD, PyData.shown]
    omega
  | .wtp xs, h => by
    have h1 := lens_pl (xs := xs) (by simpa [plD] using h)
    have h2 := tupleText_len_le (PyData.shownAll (pyDs xs))
    have h3 := sAll_len xs
    simp only [pyD, szD, PyData.shown]
    omega
  | .fro xs, h => by
    have h1 := lens_pl (xs := xs) (by simpa [plD] using h)
    have h2 := listText_len_le (PyData.shownAll (pyDs xs))
    have h3 := sAll_len xs
    simp only [pyD, szD, PyData.shown]
    omega
theorem lens_pl : ∀ {xs : List D}, plDs xs = true → ((PyData.shownAll (pyDs xs)).map (·.length)).sum + 2 * xs.length ≤ szDs xs
  | [], _ => by simp [pyDs, PyData.shownAll, szDs]
  | x :: xs, h => by
    simp [plDs] at h
    have h1 := len_pl h.1
    have h2 := lens_pl h.2
    simp only [pyDs, PyData.shownAll, szDs, List.map_cons, List.sum_cons, List.length_cons]
    omega
end
/-- plain, not longer than n, not deeper than d -/
structure Bd (n d : Nat) (x : D) : Prop where
  pl : plD x = true
  sz : szD x ≤ n
  dp : dpD x ≤ d
structure Bds (n d : Nat) (xs : List D) : Prop where
  pl : plDs xs = true
  sz : szDs xs ≤ n
  dp : dpDs xs ≤ d
theorem Bd.mono {n d n' d' : Nat} {x : D} (h : Bd n d x) (hn : n ≤ n' := by omega) (hd : d ≤ d' := by omega) : Bd n' d' x := ⟨h.pl, Nat.le_trans h.sz hn, Nat.le_trans h.dp hd⟩
theorem Bds.mono {n d n' d' : Nat} {x : List D} (h : Bds n d x) (hn : n ≤ n' := by omega) (hd : d ≤ d' := by omega) : Bds n' d' x := ⟨h.pl, Nat.le_trans h.sz hn, Nat.le_trans h.dp hd⟩
theorem Bds.nil {d : Nat} : Bds 0 d [] := ⟨by simp [plDs], by simp [szDs], by simp [dpDs]⟩
theorem Bds.cons {n m d e : Nat} {x : D} {xs : List D} (h : Bd n d x) (hs : Bds m e xs) : Bds (n + 2 + m) (max d e) (x :: xs) :=
  ⟨by simp [plDs, h.pl, hs.pl], by have := h.sz; have := hs.sz; simp only [szDs]; omega, by have := h.dp; have := hs.dp; simp only [dpDs]; omega⟩
theorem Bds.tup {n d : Nat} {xs : List D} (h : Bds n d xs) : Bd (n + 3) (d + 1) (.tup xs) := ⟨by simpa [plD] using h.pl, by simp only [szD]; have := h.sz; omega, by simp only [dpD]; have := h.dp; omega⟩
theorem Bds.lst {n d : Nat} {xs : List D} (h : Bds n d xs) : Bd (n + 3) (d + 1) (.lst xs) := ⟨by simpa [plD] using h.pl, by simp only [szD]; have := h.sz; omega, by simp only [dpD]; have := h.dp; omega⟩
theorem Bds.head {n d : Nat} {x : D} {xs : List D} (h : Bds n d (x :: xs)) : Bd n d x := by
  have a := h.pl; have b := h.sz; have c := h.dp
  simp only [plDs, Bool.and_eq_true] at a; simp only [szDs] at b; simp only [dpDs] at c
  exact ⟨a.1, by omega, by omega⟩
theorem Bds.tail {n d : Nat} {x : D} {xs : List D} (h : Bds n d (x :: xs)) : Bds n d xs := by
  have a := h.pl; have b := h.sz; have c := h.dp
  simp only [plDs, Bool.and_eq_true] at a; simp only [szDs] at b; simp only [dpDs] at c
  exact ⟨a.2, by omega, by omega⟩
theorem Bds.get {n d : Nat} : ∀ {xs : List D} {x : D}, Bds n d xs → x ∈ xs → Bd n d x
  | [], x, _, h => by simp at h
  | y :: xs, x, b, h => by
    rcases List.mem_cons.mp h with rfl | h
    · exact b.head
    · exact b.tail.get h
theorem plDs_app : ∀ {xs ys : List D}, plDs (xs ++ ys) = (plDs xs && plDs ys)
  | [], ys => by simp [plDs]
  | x :: xs, ys => by simp [plDs, plDs_app (xs := xs), Bool.and_assoc]
theorem szDs_app : ∀ {xs ys : List D}, szDs (xs ++ ys) = szDs xs + szDs ys
  | [], ys => by simp [szDs]
  | x :: xs, ys => by simp only [List.cons_append, szDs, szDs_app (xs := xs)]; omega
theorem dpDs_app : ∀ {xs ys : List D}, dpDs (xs ++ ys) = max (dpDs xs) (dpDs ys)
  | [], ys => by simp [dpDs]
  | x :: xs, ys => by simp only [List.cons_append, dpDs, dpDs_app (xs := xs)]; omega
theorem Bds.app {n m d e : Nat} {xs ys : List D} (h : Bds n d xs) (g : Bds m e ys) : Bds (n + m) (max d e) (xs ++ ys) :=
  ⟨by simp [plDs_app, h.pl, g.pl], by rw [szDs_app]; have := h.sz; have := g.sz; omega, by rw [dpDs_app]; have := h.dp; have := g.dp; omega⟩
theorem Bds.appL {n d : Nat} {xs ys : List D} (h : Bds n d (xs ++ ys)) : Bds n d xs := by
  have a := h.pl; have b := h.sz; have c := h.dp
  rw [plDs_app, Bool.and_eq_true] at a; rw [szDs_app] at b; rw [dpDs_app] at c
  exact ⟨a.1, by omega, by omega⟩
theorem Bds.appR {n d : Nat} {xs ys : List D} (h : Bds n d (xs ++ ys)) : Bds n d ys := by
  have a := h.pl; have b := h.sz; have c := h.dp
  rw [plDs_app, Bool.and_eq_true] at a; rw [szDs_app] at b; rw [dpDs_app] at c
  exact ⟨a.2, by omega, by omega⟩
theorem Bds.take {n d : Nat} {xs : List D} (k : Nat) (h : Bds n d xs) : Bds n d (xs.take k) := Bds.appL (ys := xs.drop k) (by rw [List.take_append_drop]; exact h)
theorem Bds.drop {n d : Nat} {xs : List D} (k : Nat) (h : Bds n d xs) : Bds n d (xs.drop k) := Bds.appR (xs := xs.take k) (by rw [List.take_append_drop]; exact h)
theorem Bds.reverse {n d : Nat} : ∀ {xs : List D}, Bds n d xs → Bds n d xs.reverse := by
  intro xs
  have e1 : ∀ l : List D, plDs l.reverse = plDs l := by intro l; induction l with | nil => rfl | cons x l ih => rw [List.reverse_cons, plDs_app, ih]; simp [plDs, Bool.and_comm]
  have e2 : ∀ l : List D, szDs l.reverse = szDs l := by intro l; induction l with | nil => rfl | cons x l ih => rw [List.reverse_cons, szDs_app, ih]; simp [szDs]; omega
  have e3 : ∀ l : List D, dpDs l.reverse = dpDs l := by intro l; induction l with | nil => rfl | cons x l ih => rw [List.reverse_cons, dpDs_app, ih]; simp [dpDs]; omega
  intro h
  exact ⟨by rw [e1]; exact h.pl, by rw [e2]; exact h.sz, by rw [e3]; exact h.dp⟩
theorem Bds.len {n d : Nat} : ∀ {xs : List D}, Bds n d xs → 2 * xs.length ≤ n := by
  have : ∀ xs : List D, 2 * xs.length ≤ szDs xs := by
    intro xs; induction xs with
    | nil => simp
    | cons x xs ih => simp only [szDs, List.length_cons]; omega
  intro xs h
  exact Nat.le_trans (this xs) h.sz
theorem Bds.all {n d : Nat} : ∀ {xs : List D}, (∀ x ∈ xs, Bd n d x) → Bds (xs.length * (n + 2)) d xs
  | [], _ => by simpa using Bds.nil
  | x :: xs, h => by
    have := Bds.cons (h x (by simp)) (Bds.all (fun y hy => h y (List.mem_cons_of_mem _ hy)))
    refine this.mono ?_ (by omega)
    rw [List.length_cons, Nat.add_mul]; omega
theorem bd_non : Bd 4 0 .non := ⟨rfl, by simp [szD], by simp [dpD]⟩
theorem bd_int {i : Int} {k : Nat} (hk : k < 1920) (h : i.natAbs.log2 ≤ k) : Bd (k + 3) 0 (.int i) := ⟨by simp [plD]; omega, by simp [szD]; omega, by simp [dpD]⟩
theorem bd_int64 {i : Int} (h0 : -(2 ^ 64) < i) (h1 : i < 2 ^ 64) : Bd 67 0 (.int i) := bd_int (k := 64) (by decide) (by
  by_cases hz : i.natAbs = 0
  · rw [hz]; decide
  · have : i.natAbs.log2 < 64 := (Nat.log2_lt hz).mpr (by omega)
    omega)
/-- repr -/
theorem repr_bd {n d : Nat} {x : D} {Q : W → Prop} (h : Bd n d x) (hn : n ≤ sizeLine) (hd : d ≤ 40) (q : Q (.d (.str (pyD x).shown))) : wB1 .repr (.d x) Q :=
  ⟨pyD x, toPy_pl h.pl, shw_pl h.pl, by rw [dep_pl]; have := h.dp; omega, by have := len_pl h.pl; have := h.sz; omega, q⟩
end DL
set_option maxHeartbeats 8000000
namespace DL
open PySem PySem.Spec PyProof.Rows L2
def fin (Q : D → Hs → Prop) (Z : XD) : DEnds := ⟨fun _ h' => Q .non h', Q, fun y _ h' => Z y h', fun _ _ => False, fun _ _ => False⟩
/-- a def keeps its promise, over trees -/
def Kp (M : Xm) (F : Fns) (m : Ss) (n : Nat) (sp : FnD) : Prop := ∀ xs h Q Z, sp xs h Q Z → m.d M F (startD n xs) h (fin Q Z)
def never : FnD := fun _ _ _ _ => False
def Fns.up (F : Fns) (i : Nat) (sp : FnD) : Fns := { F with f := fun j => if j = i then sp else F.f j }
def Fns.upH (F : Fns) (i : Nat) (sp : HFn) : Fns := { F with g := fun j => if j = i then sp else F.g j }
/-- a def that calls what it is handed keeps its promise -/
def KpH (M : Xm) (F : Fns) (m : Ss) (n : Nat) (sp : HFn) : Prop := ∀ f act h Q Z, sp act h Q Z → m.d M { F with a := onlyA f act } (startF n f) h (fin Q Z)
structure Df where
  name : Str
  st : Stmt
  N : List Str
  ps : List Str
  m : Ss
structure Lw where
  M : Xm
  defs : List Df
  free : List Str
  con : List (Str × D)
  hos : List Df := []
  lam : List Str := []
  ko : List (Str × Nat × List (Str × Kq)) := []
def Lw.koN (L : Lw) (x : Str) : Option (Nat × List (Str × Kq)) := (L.ko.find? fun p => decide (p.1 = x)).map (·.2)
def Lw.G (L : Lw) : Gm := ⟨true, L.defs.map fun d => (d.name, d.ps.length, true), L.free, L.con.map (·.1), L.hos.map (·.name), L.defs.map (·.ps), false, L.defs.map fun d => L.koN d.name⟩
def Lw.GL (L : Lw) (d : Df) : Gm := if d.name ∈ L.lam then { L.G with lm := true } else L.G
def Lw.chk (L : Lw) : Bool := (L.defs.all fun d => defB L.M (L.GL d) d.N d.ps d.m d.st (L.koN d.name)) && L.hos.all fun d => defB L.M L.G d.N d.ps d.m d.st none && decide (d.ps.length = 1)
def Df.he (d : Df) : He.DefD := ⟨(d.name, none), d.name, d.name, defArgs d.st, defBody d.st, defScope d.st, [], []⟩
def kqL : Option (Nat × List (Str × Kq)) → List (Str × Kq)
  | some p => p.2
  | none => []
def Lw.he (L : Lw) (d : Df) : He.DefD := ⟨(d.name, none), d.name, d.name, defArgs d.st, defBody d.st, defScope d.st, [], (kqL (L.koN d.name)).map fun p => (p.1, p.2.dv)⟩
def Lw.kv (L : Lw) (d : Df) : List (Str × V) := (kqL (L.koN d.name)).map fun p => (p.1, p.2.v)
theorem Lw.he_kws (L : Lw) (d : Df) (K : Fg) : (L.he d).kws K = L.kv d := by
  unfold Lw.he Lw.kv He.DefD.kws
  rw [List.map_map]
  exact List.map_congr_left fun p _ => by simp [Kq.dv_v]
def Lw.fn (L : Lw) : List He.DefD := L.defs.map L.he ++ L.hos.map Df.he
def Lw.tf (L : Lw) : List He.Defn := L.lam.map fun x => (x, none)
def Lw.cs (L : Lw) (K : Fg) : List (Addr × Addr) := L.lam.map fun x => He.cT K (x, none)
def lamQ (x : Str) : Str := x ++ ".<locals>." ++ "<lambda>"
def Lw.fa (L : Lw) : List He.Fa := (L.defs.map fun d => .glo d.name) ++ (L.M.names.map .glo) ++ L.free.map .free ++ (L.hos.map fun d => .glo d.name)
def Lw.F0 (L : Lw) : Fns := { f := fun _ => never, c := fun j => ((L.con[j]?).map (·.2)).getD .non }
mutual
def rdB (K : Fg) : D → Value → Bool
  | .non, .none => true
  | .bl b, .bool c => b == c
  | .int i, .int j _ => decide (i = j)
  | .str x, .str y _ => decide (x = y)
  | .wtp ds, .ref a => (match K.lookup a with
    | some ⟨.type c, _, .seq its _, _⟩ => decide (c = "tuple") && (decide (its.size ≤ sizeLine) && rdBs K ds its.toList)
    | _ => false)
  | .fro ds, .ref a => (match K.lookup a with
    | some ⟨.type c, none, .seq its _, _⟩ => decide (c = "list") && (decide (its.size ≤ sizeLine) && rdBs K ds its.toList)
    | _ => false)
  | _, _ => false
def rdBs (K : Fg) : List D → List Value → Bool
  | [], [] => true
  | d :: ds, u :: us => rdB K d u && rdBs K ds us
  | _, _ => false
end
mutual
theorem rdB_ok {K : Fg} : ∀ {d : D} {u : Value}, rdB K d u = true → ∃ v, RelV v u ∧ ∀ R H, RelD K R H d v
  | .non, u, h => by cases u <;> first | (simp [rdB] at h; done) | exact ⟨.non, rfl, fun _ _ => m_non⟩
  | .bl b, u, h => by
    cases u <;> first | (simp [rdB] at h; done) | skip
    simp [rdB] at h; subst h
    exact ⟨.bl b, rfl, fun _ _ => m_bl⟩
  | .int b, u, h => by
    cases u <;> first | (simp [rdB] at h; done) | skip
    simp [rdB] at h; subst h
    exact ⟨.int b, ⟨_, rfl⟩, fun _ _ => m_int⟩
  | .str b, u, h => by
    cases u <;> first | (simp [rdB] at h; done) | skip
    simp [rdB] at h; subst h
    exact ⟨.str b, ⟨_, rfl⟩, fun _ _ => m_str⟩
  | .ty _, u, h => by cases u <;> simp [rdB] at h
  | .ref _, u, h => by cases u <;> simp [rdB] at h
  | .lst _, u, h => by cases u <;> simp [rdB] at h
  | .tup _, u, h => by cases u <;> simp [rdB] at h
  | .wtp ds, u, h => by
    cases u <;> first | (simp [rdB] at h; done) | skip
    rename_i a
    unfold rdB at h
    split at h
    · rename_i c dd its n sl e
      obtain ⟨h1, h⟩ := ba2 h
      obtain ⟨h2, h3⟩ := ba2 h
      cases of_decide_eq_true h1
      obtain ⟨vs, r, t⟩ := rdBs_ok h3
      exact ⟨.ref a, rfl, fun R H => m_wtp (fun _ => .inr ⟨_, its, n, e, rfl, rfl, of_decide_eq_true h2, r⟩) (t R H)⟩
    · cases h
  | .fro ds, u, h => by
    cases u <;> first | (simp [rdB] at h; done) | skip
    rename_i a
    unfold rdB at h
    split at h
    · rename_i c its n sl e
      obtain ⟨h1, h⟩ := ba2 h
      obtain ⟨h2, h3⟩ := ba2 h
      cases of_decide_eq_true h1
      obtain ⟨vs, r, t⟩ := rdBs_ok h3
      refine ⟨.ref a, rfl, fun R H => ?_⟩
      unfold RelD
      exact ⟨a, vs, rfl, .inr ⟨_, its, n, e, rfl, rfl, rfl, of_decide_eq_true h2, r⟩, t R H⟩
    · cases h
theorem rdBs_ok {K : Fg} : ∀ {ds : List D} {us : List Value}, rdBs K ds us = true → ∃ vs, Vals vs us ∧ ∀ R H, RelDs K R H ds vs
  | [], [], _ => ⟨[], .nil, fun _ _ => m_nil⟩
  | [], _ :: _, h => by simp [rdBs] at h
  | _ :: _, [], h => by simp [rdBs] at h
  | d :: ds, u :: us, h => by
    unfold rdBs at h
    obtain ⟨h1, h2⟩ := ba2 h
    obtain ⟨v, r1, t1⟩ := rdB_ok h1
    obtain ⟨vs, r2, t2⟩ := rdBs_ok h2
    exact ⟨v :: vs, .cons r1 r2, fun R H => m_cons (t1 R H) (t2 R H)⟩
end
/-- the module's name x is the constant d -/
def conB (K : Fg) (x : Str) (d : D) : Bool := match PySem.W.nsIn K mainGlobals x with
  | some (some u) => rdB K d u
  | _ => false
def xmB (prog : Program) (M : Xm) (K : Fg) : Bool := decide (M.names.length = M.n) && (List.range M.n).all fun c => xfB K (He.ga K (M.names.getD c "")) && ((List.range M.n).all fun c' =>
    ((M.flds c').all fun f => He.eqO (PySem.W.findIn K (.ref (He.ga K (M.names.getD c ""))) f) (some none)) && decide (PySem.W.exmOne K (.ref (He.ga K (M.names.getD c ""))) (.ref (He.ga K (M.names.getD c' ""))) = some (M.sub c c')) && (decide (c = c') || decide (He.ga K (M.names.getD c "") ≠ He.ga K (M.names.getD c' "")))) &&
  (!M.rs c || (xiB prog K (M.names.getD c "") (M.flds c) && decide ((M.flds c).length ≤ 1000))) && (decide (cold K (.ref (He.ga K (M.names.getD c ""))) = !hotN.contains (M.names.getD c "")) && excB K (He.ga K (M.names.getD c "")))
def Lw.xt (L : Lw) (prog : Program) (K : Fg) : Bool := xmB prog L.M K && ((L.con.all fun p => conB K p.1 p.2) && L.lam.all fun x => L.lam.all fun y => decide (x = y) || decide ((He.cT K (x, none)).2 ≠ (He.cT K (y, none)).2))
def Lw.Cl (L : Lw) (K : Fg) : Cm := ⟨fun c => He.ga K (L.M.names.getD c ""), L.lam.map fun x => ((He.cT K (x, none)).2, lamQ x)⟩
/-- what the head says -/
structure Hd (L : Lw) (P : Program) (K : Fg) (mg : Str → Option Value) : Prop where
  def_ : ∀ (i : Nat) (d : Df), L.defs[i]? = some d → ∃ fd, FunD K d.name d.name (defArgs d.st) (defBody d.st) (defScope d.st) [] (L.kv d) (He.ga K d.name) fd ∧ mg d.name = some (.ref (He.ga K d.name))
  hdef : ∀ (i : Nat) (d : Df), L.hos[i]? = some d → ∃ fd, FunD K d.name d.name (defArgs d.st) (defBody d.st) (defScope d.st) [] [] (He.ga K d.name) fd ∧ mg d.name = some (.ref (He.ga K d.name))
  one : ∀ x ∈ L.lam, ∀ y ∈ L.lam, (He.cT K (x, none)).2 = (He.cT K (y, none)).2 → x = y
  free : ∀ x ∈ L.free, mg x = none
  con : ∀ (j : Nat) (x : Str), (L.con.map (·.1))[j]? = some x → ∃ v u, mg x = some u ∧ RelV v u ∧ ∀ R H, RelD K R H (L.F0.c j) v
  xm : XmOk L.M K (L.Cl K)
  xmg : ∀ (c : Nat) (x : Str), L.M.names[c]? = some x → mg x = some (.ref (L.Cl K c))
  xmk : ∀ (c : Nat) (x : Str), L.M.names[c]? = some x → L.M.rs c = true → (∃ fI, XiC P K mg (L.Cl K c) fI (L.M.flds c)) ∧ (L.M.flds c).length ≤ 1000
theorem Hd.of {L : Lw} {P : Program} {K : Fg} {mg : Str → Option Value} {h : Heap} (kin : K.In h) (ns : h.Ns mainGlobals mg) (hsup : ("super" : Str) ∈ L.free) (c : SaysX L.fa L.fn (L.xt P) L.tf h K) : Hd L P K mg := by
  obtain ⟨c, x, _, _, _⟩ := c
  obtain ⟨x1, x2⟩ := ba2 x
  obtain ⟨x2, x3⟩ := ba2 x2
  have hfr : ∀ y ∈ L.free, mg y = none := fun y hy => by
    have hm : He.Fa.free y ∈ L.fa := by unfold Lw.fa; simp [hy]
    obtain ⟨i, hi⟩ := List.getElem?_of_mem hm
    exact He.free_ok kin ns (c.fact i hi)
  unfold xmB at x1
  obtain ⟨y1, y2⟩ := ba2 x1
  have hn : L.M.names.length = L.M.n := of_decide_eq_true y1
  have y3 : ∀ c, c < L.M.n → (xfB K (He.ga K (L.M.names.getD c "")) && ((List.range L.M.n).all fun c' =>
    ((L.M.flds c').all fun f => He.eqO (PySem.W.findIn K (.ref (He.ga K (L.M.names.getD c ""))) f) (some none)) && decide (PySem.W.exmOne K (.ref (He.ga K (L.M.names.getD c ""))) (.ref (He.ga K (L.M.names.getD c' ""))) = some (L.M.sub c c')) && (decide (c = c') || decide (He.ga K (L.M.names.getD c "") ≠ He.ga K (L.M.names.getD c' "")))) &&
  (!L.M.rs c || (xiB P K (L.M.names.getD c "") (L.M.flds c) && decide ((L.M.flds c).length ≤ 1000)))) = true := fun c hc => (ba2 (List.all_eq_true.mp y2 c (List.mem_range.mpr hc))).1
  have y4 : ∀ c, c < L.M.n → cold K (.ref (He.ga K (L.M.names.getD c ""))) = !hotN.contains (L.M.names.getD c "") := fun c hc => of_decide_eq_true (ba2 (ba2 (List.all_eq_true.mp y2 c (List.mem_range.mpr hc))).2).1
  have y5 : ∀ c, c < L.M.n → excB K (He.ga K (L.M.names.getD c "")) = true := fun c hc => (ba2 (ba2 (List.all_eq_true.mp y2 c (List.mem_range.mpr hc))).2).2
  have gd : ∀ (c : Nat) (x : Str), L.M.names[c]? = some x → L.M.names.getD c "" = x := fun c x e => by simp [List.getD, e]
  refine ⟨fun i d e => ?_, fun i d e => ?_, fun x hx y hy e => ?_, hfr, fun j y e => ?_, ⟨fun c hc => ?_, fun c c' f hc hc' hf => ?_, fun c c' hc hc' => ?_, fun c c' hc hc' he => ?_, fun c hc => y4 c hc, fun c hc => excB_ok (xfB_ok (ba2 (ba2 (y3 c hc)).1).1) (y5 c hc)⟩, fun cc y e => ?_, fun cc y e hr => ?_⟩
  · have hm : He.Fa.glo d.name ∈ L.fa := by
      unfold Lw.fa
      simp only [List.mem_append, List.mem_map]
      exact .inl (.inl (.inl ⟨d, List.mem_of_getElem? e, rfl⟩))
    obtain ⟨j, hj⟩ := List.getElem?_of_mem hm
    obtain ⟨fd, F⟩ := c.defs (d := L.he d) (by unfold Lw.fn; exact List.mem_append_left _ (List.mem_map.mpr ⟨d, List.mem_of_getElem? e, rfl⟩))
    rw [L.he_kws] at F
    exact ⟨fd, F, He.glo_ok kin ns (c.fact j hj)⟩
  · have hm : He.Fa.glo d.name ∈ L.fa := by
      unfold Lw.fa
      simp only [List.mem_append, List.mem_map]
      exact .inr ⟨d, List.mem_of_getElem? e, rfl⟩
    obtain ⟨j, hj⟩ := List.getElem?_of_mem hm
    obtain ⟨fd, F⟩ := c.defs (d := d.he) (by unfold Lw.fn; exact List.mem_append_right _ (List.mem_map.mpr ⟨d, List.mem_of_getElem? e, rfl⟩))
    exact ⟨fd, F, He.glo_ok kin ns (c.fact j hj)⟩
  · have z := List.all_eq_true.mp (List.all_eq_true.mp x3 x hx) y hy
    simp only [Bool.or_eq_true, decide_eq_true_eq] at z
    rcases z with z | z
    · exact z
    · exact absurd e z
  · rw [List.getElem?_map] at e
    obtain ⟨p, e1, rfl⟩ := Option.map_eq_some_iff.mp e
    have q := List.all_eq_true.mp x2 p (List.mem_of_getElem? e1)
    unfold conB at q
    split at q
    · rename_i u hu
      obtain ⟨v, r, t⟩ := rdB_ok q
      refine ⟨v, u, PySem.W.mg_of kin ns hu, r, fun R H => ?_⟩
      have : L.F0.c j = p.2 := by unfold Lw.F0; simp [e1]
      rw [this]
      exact t R H
    · cases q
  · exact xfB_ok (ba2 (ba2 (y3 c hc)).1).1
  · have z := List.all_eq_true.mp (ba2 (ba2 (y3 c hc)).1).2 c' (List.mem_range.mpr hc')
    exact He.eqO_ok (List.all_eq_true.mp (ba2 (ba2 z).1).1 f hf)
  · have z := List.all_eq_true.mp (ba2 (ba2 (y3 c hc)).1).2 c' (List.mem_range.mpr hc')
    exact of_decide_eq_true (ba2 (ba2 z).1).2
  · have z := List.all_eq_true.mp (ba2 (ba2 (y3 c hc)).1).2 c' (List.mem_range.mpr hc')
    have z2 := (ba2 z).2
    simp only [Bool.or_eq_true, decide_eq_true_eq] at z2
    rcases z2 with z2 | z2
    · exact z2
    · exact absurd he z2
  · have hm : He.Fa.glo y ∈ L.fa := by
      unfold Lw.fa
      simp only [List.mem_append, List.mem_map]
      exact .inl (.inl (.inr ⟨y, List.mem_of_getElem? e, rfl⟩))
    obtain ⟨j, hj⟩ := List.getElem?_of_mem hm
    show mg y = some (.ref (He.ga K (L.M.names.getD cc "")))
    rw [gd cc y e]
    exact He.glo_ok kin ns (c.fact j hj)
  · have hc : cc < L.M.n := by rw [← hn]; exact (List.getElem?_eq_some_iff.mp e).1
    have z := (ba2 (y3 cc hc)).2
    rw [hr] at z
    simp only [Bool.not_true, Bool.false_or] at z
    obtain ⟨z1, z2⟩ := ba2 z
    exact ⟨⟨_, xiB_ok z1 (hfr _ hsup)⟩, of_decide_eq_true z2⟩
section
variable {L : Lw} {P : Program} {w : World} {K : Fg} {mg : Str → Option Value} {base : Heap} {F : Fns} {k : Nat}
theorem Lw.cs_emp {h : Heap} (c : SaysX L.fa L.fn (L.xt P) L.tf h K) : ∀ p ∈ L.cs K, h.get? p.2 = some emptyT := fun p hp => by
  obtain ⟨x, hx, rfl⟩ := List.mem_map.mp hp
  exact c.emp _ (List.mem_map.mpr ⟨x, hx, rfl⟩)
theorem Lw.cs_out {h : Heap} (c : SaysX L.fa L.fn (L.xt P) L.tf h K) : ∀ p ∈ L.cs K, K.lookup p.2 = none := fun p hp => by
  obtain ⟨x, hx, rfl⟩ := List.mem_map.mp hp
  exact c.out _ (List.mem_map.mpr ⟨x, hx, rfl⟩)
theorem Lw.cs_hd {h : Heap} (c : SaysX L.fa L.fn (L.xt P) L.tf h K) : ∀ p ∈ L.cs K, PySem.W.codeHdIn K p.1 p.2 = true := fun p hp => by
  obtain ⟨x, hx, rfl⟩ := List.mem_map.mp hp
  exact c.hd _ (List.mem_map.mpr ⟨x, hx, rfl⟩)
theorem Lw.cs_T : ∀ q ∈ (L.Cl K).T, ∃ p ∈ L.cs K, p.2 = q.1 := fun q hq => by
  obtain ⟨x, hx, rfl⟩ := List.mem_map.mp hq
  exact ⟨_, List.mem_map.mpr ⟨x, hx, rfl⟩, rfl⟩
theorem Lw.g_fn {i : Nat} {p : Str × Nat × Bool} (h : L.G.fn[i]? = some p) : ∃ d, L.defs[i]? = some d ∧ p = (d.name, d.ps.length, true) := by
  unfold Lw.G at h
  rw [List.getElem?_map] at h
  obtain ⟨d, e, rfl⟩ := Option.map_eq_some_iff.mp h
  exact ⟨d, e, rfl⟩
theorem Lw.g_hn {i : Nat} {x : Str} (h : L.G.hn[i]? = some x) : ∃ d, L.hos[i]? = some d ∧ x = d.name := by
  unfold Lw.G at h
  rw [List.getElem?_map] at h
  obtain ⟨d, e, rfl⟩ := Option.map_eq_some_iff.mp h
  exact ⟨d, e, rfl⟩
theorem Lw.g_ps {i : Nat} {qs : List Str} {d : Df} (h : L.G.ps[i]? = some qs) (e : L.defs[i]? = some d) : qs = d.ps := by
  unfold Lw.G at h
  rw [List.getElem?_map, e] at h
  cases h; rfl
theorem Lw.chk_at (h : L.chk = true) {i : Nat} {d : Df} (e : L.defs[i]? = some d) : defB L.M (L.GL d) d.N d.ps d.m d.st (L.koN d.name) = true := List.all_eq_true.mp (ba2 h).1 d (List.mem_of_getElem? e)
theorem Lw.chk_h (h : L.chk = true) {i : Nat} {d : Df} (e : L.hos[i]? = some d) : defB L.M L.G d.N d.ps d.m d.st none = true ∧ d.ps.length = 1 := by
  obtain ⟨a, b⟩ := ba2 (List.all_eq_true.mp (ba2 h).2 d (List.mem_of_getElem? e))
  exact ⟨a, of_decide_eq_true b⟩
theorem chk_pos {M : Xm} {G : Gm} {N ps : List Str} {m : Ss} {st : Stmt} {ko : Option (Nat × List (Str × Kq))} (h : defB M G N ps m st ko = true) (hk : ko = none) : posA (defArgs st) = some ps := by
  subst hk
  unfold defB at h
  exact of_decide_eq_true (ba2 h).2
theorem chk_ko {M : Xm} {G : Gm} {N ps : List Str} {m : Ss} {st : Stmt} {np : Nat} {dfl : List (Str × Kq)} {K : Fg} {x qual : Str} {f : Addr} {fd : FuncData} (h : defB M G N ps m st (some (np, dfl)) = true) (Fu : FunD K x qual (defArgs st) (defBody st) (defScope st) [] (dfl.map fun p => (p.1, p.2.v)) f fd) : KoB K fd ps np dfl := by
  unfold defB at h
  obtain ⟨h1, h2⟩ := ba2 (ba2 h).2
  exact koB_of Fu (of_decide_eq_true h1) (of_decide_eq_true h2) fun p hp => List.mem_map.mpr ⟨p, hp, rfl⟩
theorem Lw.g_ko {L : Lw} {i : Nat} {d : Df} (e : L.defs[i]? = some d) : L.G.koA i = L.koN d.name := by
  unfold Lw.G Gm.koA
  rw [List.getElem?_map, e] <;> rfl
theorem Lw.kvs {L : Lw} {d : Df} {np : Nat} {dfl : List (Str × Kq)} (h : L.koN d.name = some (np, dfl)) : L.kv d = dfl.map fun p => (p.1, p.2.v) := by
  unfold Lw.kv
  rw [h] <;> rfl
theorem posA_bindsTo {K : Fg} {x qual y : Str} {st : Stmt} {f : Addr} {fd : FuncData} {kws : List (Str × V)} (Fu : FunD K x qual (defArgs st) (defBody st) (defScope st) [] kws f fd) (h : posA (defArgs st) = some [y]) (s : Shared) (u : Value) : BindsTo s fd ⟨[u], []⟩ [(y, u)] := by
  obtain ⟨oc, od, dV, kV, doc, pm, an, cdv, ct, osl, rfl, lk, hcd, hdv, hkw⟩ := Fu.ex
  have hd : dV = .none := by
    rcases hdv with ⟨_, z⟩ | ⟨z, _⟩
    · exact z
    · exact absurd rfl z
  subst hd
  exact .of_eq (posA_bind (fd := PySem.W.fnOf x qual (defArgs st) (defBody st) (defScope st) .none kV doc pm an cdv ct) h rfl [u] rfl)
theorem funD_bk {K : Fg} {x qual : Str} {st : Stmt} {ps : List Str} {f : Addr} {fd : FuncData} {kws : List (Str × V)} (Fu : FunD K x qual (defArgs st) (defBody st) (defScope st) [] kws f fd) (h : posA (defArgs st) = some ps) : BK fd ps := by
  obtain ⟨oc, od, dV, kV, doc, pm, an, cdv, ct, osl, rfl, lk, hcd, hdv, hkw⟩ := Fu.ex
  have hd : dV = .none := by
    rcases hdv with ⟨_, z⟩ | ⟨z, _⟩
    · exact z
    · exact absurd rfl z
  subst hd
  exact fun ks pi us ws h1 h2 => bind_kw (fd := PySem.W.fnOf x qual (defArgs st) (defBody st) (defScope st) .none kV doc pm an cdv ct) h rfl h1 h2
theorem one_of {ps : List Str} (h : ps.length = 1) : ∃ a, ps = [a] := by
  match ps, h with
  | [a], _ => exact ⟨a, rfl⟩
/-- ahead of all defs -/
theorem Hd.first (hd : Hd L P K mg) (hc : L.chk = true) : ModD L.M L.G L.F0 (L.Cl K) true 1 P w K mg base where
  sh := fun _ => rfl
  k1 := Nat.le_refl _
  free := hd.free
  con := hd.con
  fn := fun C hK hC i p e => by
    obtain ⟨d, e1, rfl⟩ := Lw.g_fn e
    obtain ⟨fd, Fu, hg⟩ := hd.def_ i d e1
    have ck := L.chk_at hc e1
    refine ⟨_, fd, d.ps, hg, Fu.kp, rfl, fun z => funD_binds Fu (chk_pos ck ((L.g_ko e1).symm.trans z)), ⟨fun vs H Q E z => ?_, fun A o s H a us vs Q E _ _ _ _ _ z => ?_⟩, fun _ => rfl, fun z => funD_bk Fu (chk_pos ck ((L.g_ko e1).symm.trans z)), fun qs h => Lw.g_ps h e1, fun np dfl z => by
      have z2 := (L.g_ko e1).symm.trans z
      rw [z2] at ck
      rw [Lw.kvs z2] at Fu
      exact chk_ko ck Fu⟩
    · obtain ⟨R, xs, h, P, Z, _, _, _, q, _⟩ := z; exact q.elim
    · obtain ⟨R, xs, h, P, Z, _, _, _, q, _⟩ := z; exact q.elim
  ho := fun C hK hC k2 _ i x e => by
    obtain ⟨d, e1, rfl⟩ := Lw.g_hn e
    obtain ⟨fd, Fu, hg⟩ := hd.hdef i d e1
    obtain ⟨ck, l1⟩ := L.chk_h hc e1
    obtain ⟨a, ha⟩ := one_of l1
    exact ⟨_, fd, a, hg, Fu.kp, by rw [← ha]; exact funD_binds Fu (chk_pos ck rfl), ⟨fun _ _ _ _ _ _ _ _ _ _ _ _ _ _ _ _ _ _ _ _ _ _ _ q _ _ => q.elim⟩⟩
  xm := hd.xm
  xmg := hd.xmg
  xmk := hd.xmk
theorem ModD.lmT {M : Xm} {G : Gm} {Cl : Cm} {gd : Bool} (md : ModD M G F Cl gd k P w K mg base) : ModD M { G with lm := true } F Cl gd k P w K mg base :=
  ⟨md.sh, md.k1, md.free, md.con, md.fn, md.ho, md.xm, md.xmg, md.xmk⟩
/-- the next def's promise -/
theorem Hd.one_ (hd : Hd L P K mg) (hc : L.chk = true) (md : ModD L.M L.G F (L.Cl K) true k P w K mg base) (ha : F.a = noA) (htb : ∀ p ∈ L.cs K, LamX.TabB base mg p.1 p.2) {i : Nat} {d : Df} (e : L.defs[i]? = some d) {sp : FnD} (hsp : Kp L.M F d.m d.N.length sp) {fd : FuncData} (Fu : FunD K d.name d.name (defArgs d.st) (defBody d.st) (defScope d.st) [] (L.kv d) (He.ga K d.name) fd) :
    FnG P w K mg base true (k + 3) (He.ga K d.name) fd d.ps (liftF K (L.Cl K) d.ps.length sp) ∧ (L.koN d.name = none → Binds K fd d.ps []) := by
  have ck := L.chk_at hc e
  by_cases hl : d.name ∈ L.lam
  · have eG : L.GL d = { L.G with lm := true } := if_pos hl
    rw [eG] at ck
    refine def_okL md.lmT Fu ck (fun xs h Q Z _ q => hsp xs h Q Z q) ha fun cdv lk => ?_
    obtain ⟨oc, od, osl, fd0, l1, l2, l3⟩ := lk
    obtain ⟨c, rfl⟩ := He.codeIn_ref l3
    have ec : He.codeOf K (d.name, none) = c := He.codeOf_eq (p := (d.name, none)) l1 l2
    refine ⟨c, (He.cT K (d.name, none)).2, ?_, rfl, List.mem_map.mpr ⟨d.name, hl, rfl⟩, fun p hp e2 => ?_⟩
    · have := htb (He.cT K (d.name, none)) (List.mem_map.mpr ⟨d.name, hl, rfl⟩)
      have e1 : (He.cT K (d.name, none)).1 = c := ec
      rw [e1] at this
      exact this
    · obtain ⟨y, hy, rfl⟩ := List.mem_map.mp hp
      rw [hd.one y hy d.name hl e2]; rfl
  · have eG : L.GL d = L.G := if_neg hl
    rw [eG] at ck
    obtain ⟨a, b⟩ := def_ok md Fu ck (fun xs h Q Z _ q => hsp xs h Q Z q) rfl ha
    exact ⟨a.mono (by omega), b⟩
theorem Hd.add (hd : Hd L P K mg) (hc : L.chk = true) (htb : ∀ p ∈ L.cs K, LamX.TabB base mg p.1 p.2) (md : ModD L.M L.G F (L.Cl K) true k P w K mg base) (ha : F.a = noA) (i : Nat) {d : Df} (e : L.defs[i]? = some d) (sp : FnD) (hsp : Kp L.M F d.m d.N.length sp) (hl : d.name ∉ L.lam) : ModD L.M L.G (F.up i sp) (L.Cl K) true (k + 1) P w K mg base where
  sh := fun _ => rfl
  k1 := by omega
  free := md.free
  con := md.con
  fn := fun C hK hC j p ej => by
    by_cases hj : j = i
    · subst hj
      obtain ⟨d', e1, rfl⟩ := Lw.g_fn ej
      rw [e] at e1; cases e1
      obtain ⟨fd, Fu, hg⟩ := hd.def_ j d e
      have ck := L.chk_at hc e
      rw [show L.GL d = L.G from if_neg hl] at ck
      obtain ⟨f1, f2⟩ := def_ok md Fu ck (fun xs h Q Z _ q => hsp xs h Q Z q) rfl ha
      refine ⟨_, fd, d.ps, hg, Fu.kp, rfl, fun z => f2 ((L.g_ko e).symm.trans z), ?_, fun _ => rfl, fun z => funD_bk Fu (chk_pos ck ((L.g_ko e).symm.trans z)), fun qs h => Lw.g_ps h e, fun np dfl z => by
        have z2 := (L.g_ko e).symm.trans z
        rw [z2] at ck
        rw [Lw.kvs z2] at Fu
        exact chk_ko ck Fu⟩
      rw [hK, hC]
      simpa [Fns.up] using f1
    · obtain ⟨fa, fd, ps, a1, a2, a3, a4, a5, a6⟩ := md.fn C hK hC j p ej
      refine ⟨fa, fd, ps, a1, a2, a3, a4, ?_, a6⟩
      simpa [Fns.up, hj] using a5.mono (Nat.le_succ k)
  ho := fun C hK hC k2 h2 => md.ho C hK hC k2 (by omega)
  xm := md.xm
  xmg := md.xmg
  xmk := md.xmk
theorem Hd.addH (hd : Hd L P K mg) (hc : L.chk = true) (md : ModD L.M L.G F (L.Cl K) true k P w K mg base) (i : Nat) {d : Df} (e : L.hos[i]? = some d) (sp : HFn) (hsp : KpH L.M F d.m d.N.length sp) : ModD L.M L.G (F.upH i sp) (L.Cl K) true k P w K mg base where
  sh := fun _ => rfl
  k1 := md.k1
  free := md.free
  con := md.con
  fn := md.fn
  ho := fun C hK hC k2 h2 j x ej => by
    by_cases hj : j = i
    · subst hj
      obtain ⟨d', e1, rfl⟩ := Lw.g_hn ej
      rw [e] at e1; cases e1
      obtain ⟨fd, Fu, hg⟩ := hd.hdef j d e
      obtain ⟨ck, l1⟩ := L.chk_h hc e
      obtain ⟨a, ha⟩ := one_of l1
      rw [ha] at ck
      obtain ⟨f1, f2⟩ := def_okH md Fu ck (fun f act h Q Z q => hsp f act h Q Z q) rfl
      refine ⟨_, fd, a, hg, Fu.kp, f2, ?_⟩
      rw [hK, hC]
      simpa [Fns.upH] using f1 k2 h2
    · obtain ⟨fa, fd, a, a1, a2, a3, a4⟩ := md.ho C hK hC k2 h2 j x ej
      exact ⟨fa, fd, a, a1, a2, a3, by simpa [Fns.upH, hj] using a4⟩
  xm := md.xm
  xmg := md.xmg
  xmk := md.xmk
end
end DL
set_option maxHeartbeats 4000000
namespace DL
open PySem PySem.Spec PyProof.Rows L2
/-- a comprehension without a test, by an invariant over what is kept and the objects -/
theorem lc_inv {ds : DSt} {vs : List Nat} {g : Tg} {te : TDE} {P : List D → Hs → Prop} (I : Nat → List D → Hs → Prop) (xs : List D) (hl : xs.length ≤ sizeLine) (turn : ∀ (i : Nat) (x : D) (acc : List D) (h : Hs) (Kp : D → Hs → Prop), xs[i]? = some x → I i acc h → acc.length = i → (∀ y h', I (i + 1) (acc ++ [y]) h' → Kp y h') → g.put x (wipeD ds vs) fun ds2 => dD te ds2 h Kp noX)
    {h : Hs} (h0 : I 0 [] h) (he : ∀ acc h', I xs.length acc h' → acc.length = xs.length → P acc h') : lcD ds vs g dYes te P xs [] h := by
  have go : ∀ (n i : Nat) (acc : List D) (h : Hs), i + n = xs.length → acc.length = i → I i acc h → lcD ds vs g dYes te P (xs.drop i) acc h := by
    intro n
    induction n with
    | zero =>
      intro i acc h hi ha hI
      rw [List.drop_eq_nil_of_le (by omega)]
      unfold lcD
      have : i = xs.length := by omega
      subst this
      exact he acc h hI ha
    | succ n ih =>
      intro i acc h hi ha hI
      have hlt : i < xs.length := by omega
      rw [List.drop_eq_getElem_cons hlt]
      unfold lcD
      show g.put xs[i] (wipeD ds vs) fun ds2 => if true = true then dD te ds2 h (fun y h3 => acc.length < sizeLine ∧ lcD ds vs g dYes te P (xs.drop (i + 1)) (acc ++ [y]) h3) noX else lcD ds vs g dYes te P (xs.drop (i + 1)) acc h
      simp only [if_true]
      exact turn i xs[i] acc h _ (List.getElem?_eq_getElem hlt) hI ha fun y h' hI' => ⟨by omega, ih (i + 1) (acc ++ [y]) h' (by omega) (by simp [ha]) hI'⟩
  have := go xs.length 0 [] h (by omega) rfl h0
  simpa using this
@[simp] theorem rng_len {lo : Int} {n : Nat} : (rngD lo n).length = n := by unfold rngD; simp
theorem atI_n {α : Type} {xs : List α} {k : Nat} (h : k < xs.length) : L2.atI xs (k : Int) = some xs[k] := by
  unfold L2.atI L2.ixN
  rw [if_pos (by omega), if_pos (by omega)]
  simp [h]
theorem atI_of {α : Type} {xs : List α} {k : Int} (h0 : 0 ≤ k) (h : k < xs.length) : L2.atI xs k = some (xs[k.toNat]'(by omega)) := by
  obtain ⟨j, rfl⟩ := Int.eq_ofNat_of_zero_le h0
  exact atI_n (by omega)
theorem cutD_take {α : Type} {xs : List α} {k : Nat} : cutD xs none (some (k : Int)) = xs.take k := by
  unfold cutD
  rw [HT.sIx_none, HT.sIx_nat]
  simp
theorem cutD_drop {α : Type} {xs : List α} {k : Nat} : cutD xs (some (k : Int)) none = xs.drop k := by
  unfold cutD
  rw [HT.sIx_none, HT.sIx_nat]
  by_cases h : k ≤ xs.length
  · rw [Nat.min_eq_left h, List.take_of_length_le (by simp)]
  · rw [Nat.min_eq_right (by omega)]
    rw [List.drop_eq_nil_of_le (Nat.le_refl _), List.drop_eq_nil_of_le (by omega)]
    simp
theorem Bds.cut {n d : Nat} {xs : List D} {lo hi : Option Int} (h : Bds n d xs) : Bds n d (cutD xs lo hi) := (h.drop _).take _
theorem eqv_nilL {l : List PyData} : PyData.eqv (.list l) (.list []) = l.isEmpty := by cases l <;> simp [PyData.eqv, PyData.eqvAll]
end DL
set_option maxHeartbeats 0
namespace K
open PySem PySem.Spec PyProof.Rows L2 DL
def top (i : Nat) : Stmt := PySem.Challenge.pw_bitspans_k07_whole_readers_errors.main.body.getD i (.Pass ⟨0, 0, 0, 0⟩)
def M : Xm := ⟨1, ["InvalidText"], fun c => match c with | 0 => ["line", "field"] | _ => [], fun a b => decide ((a, b) ∈ ([(0, 0)] : List (Nat × Nat))), fun c => decide (c ∈ ([0] : List Nat))⟩
def N_is_letters : List Str := ["thing", "sign"]
def P_is_letters : List Str := ["thing"]
def m_is_letters : Ss :=
  .cons (.ret (.and (.isi "str" "str" (.var 0)) (.b1 .all (.lc (.nm 1) (.s (.var 0)) .no (.cmp .in_ (.var 1) (.glb 1)) [("sign", 1)]))))
  (.nil)
abbrev s_is_letters : Stmt := top 9
def N_is_letter : List Str := ["thing"]
def P_is_letter : List Str := ["thing"]
def m_is_letter : Ss :=
  .cons (.ret (.and (.call 0 (.cons (.var 0) (.nil))) (.cmp .eq (.b1 .len (.var 0)) (.int 1))))
  (.nil)
abbrev s_is_letter : Stmt := top 10
def N_is_division : List Str := ["thing"]
def P_is_division : List Str := ["thing"]
def m_is_division : Ss :=
  .cons (.ret (.and (.isi "str" "str" (.var 0)) (.inA false (.var 0) (.glb 2))))
  (.nil)
abbrev s_is_division : Stmt := top 11
def N_is_manner : List Str := ["thing"]
def P_is_manner : List Str := ["thing"]
def m_is_manner : Ss :=
  .cons (.ret (.and (.isi "str" "str" (.var 0)) (.inA false (.var 0) (.glb 3))))
  (.nil)
abbrev s_is_manner : Stmt := top 12
def N_is_number_word : List Str := ["word", "sign"]
def P_is_number_word : List Str := ["word"]
def m_is_number_word : Ss :=
  .cons (.ite (.or (.cmp .eq (.var 0) (.str "")) (.not (.b1 .all (.lc (.nm 1) (.s (.var 0)) .no (.cmp .in_ (.var 1) (.glb 4)) [("sign", 1)])))) (.cons (.ret (.bl false))
  (.nil)) (.nil))
  (.cons (.ret (.or (.cmp .eq (.var 0) (.str "0")) (.cmp .ne (.ix (.var 0) (.int 0)) (.str "0"))))
  (.nil))
abbrev s_is_number_word : Stmt := top 19
def N_numbers_in : List Str := ["word"]
def P_numbers_in : List Str := ["word"]
def m_numbers_in : Ss :=
  .cons (.ret (.ite (.and (.call 4 (.cons (.var 0) (.nil))) (.cmp .le (.b1 .len (.var 0)) (.glb 5))) (.lst (.cons (.b1 .int (.var 0)) (.nil))) (.lst (.nil))))
  (.nil)
abbrev s_numbers_in : Stmt := top 20
def N_written_in : List Str := ["word", "part", "number"]
def P_written_in : List Str := ["word", "part"]
def m_written_in : Ss :=
  .cons (.mch (.var 1) [("letter", .cons (.ret (.ite (.call 1 (.cons (.var 0) (.nil))) (.lst (.cons (.var 0) (.nil))) (.lst (.nil))))
  (.nil)), ("number", .cons (.ret (.call 5 (.cons (.var 0) (.nil))))
  (.nil)), ("count", .cons (.ret (.lc (.nm 2) (.l (.call 5 (.cons (.var 0) (.nil)))) (.some (.cmp .gt (.var 2) (.int 0))) (.var 2) [("number", 2)]))
  (.nil)), ("next", .cons (.ret (.ite (.cmp .eq (.var 0) (.glb 0)) (.lst (.cons (.non) (.nil))) (.call 5 (.cons (.var 0) (.nil)))))
  (.nil)), ("one division", .cons (.ret (.ite (.call 2 (.cons (.var 0) (.nil))) (.lst (.cons (.var 0) (.nil))) (.lst (.nil))))
  (.nil)), ("one manner", .cons (.ret (.ite (.call 3 (.cons (.var 0) (.nil))) (.lst (.cons (.var 0) (.nil))) (.lst (.nil))))
  (.nil))] (.cons (.ret (.ite (.cmp .eq (.var 0) (.var 1)) (.lst (.cons (.var 0) (.nil))) (.lst (.nil))))
  (.nil)))
  (.nil)
abbrev s_written_in : Stmt := top 21
def N_values_of : List Str := ["words", "parts", "line", "field", "found", "k", "part", "values"]
def P_values_of : List Str := ["words", "parts", "line", "field"]
def m_values_of_T1 : Ss :=
  .cons (.ext 4 (.var 7))
  (.nil)
def m_values_of_B1 : Ss :=
  .cons (.set 7 (.ite (.cmp .lt (.var 5) (.b1 .len (.var 0))) (.call 6 (.cons (.ix (.var 0) (.var 5)) (.cons (.var 6) (.nil)))) (.lst (.nil))))
  (.cons (.ite (.cmp .eq (.var 7) (.lst (.nil))) (.cons (.raise 0 (.cons (.var 2) (.cons (.bin .add (.var 3) (.var 5)) (.nil))))
  (.nil)) (.nil))
  m_values_of_T1)
def m_values_of_T3 : Ss :=
  .cons (.frz 4 (.ret (.var 4)))
  (.nil)
def m_values_of_T2 : Ss :=
  .cons (.ite (.cmp .gt (.b1 .len (.var 0)) (.lenW (.var 1))) (.cons (.raise 0 (.cons (.var 2) (.cons (.bin .add (.var 3) (.lenW (.var 1))) (.nil))))
  (.nil)) (.nil))
  m_values_of_T3
def m_values_of : Ss :=
  .cons (.own 4 (.lst (.nil)))
  (.cons (.for_ (.tp (.cons (.nm 5) (.cons (.nm 6) (.nil)))) (.enw (.var 1)) m_values_of_B1)
  m_values_of_T2)
abbrev s_values_of : Stmt := top 22
def N_entry_read : List Str := ["text", "line", "field"]
def P_entry_read : List Str := ["text", "line", "field"]
def m_entry_read : Ss :=
  .cons (.ret (.b1 .tuple (.callO 7 4 ["line", "field"] [0, 1, 2, 3] [] (.cons (.spl (.var 0) (.str " ")) (.cons (.glb 6) (.nil))) (.cons (.var 1) (.cons (.var 2) (.nil))))))
  (.nil)
abbrev s_entry_read : Stmt := top 23
def N_contexts_in : List Str := ["rows", "first", "found", "line", "words", "entry"]
def P_contexts_in : List Str := ["rows", "first"]
def m_contexts_in_B1 : Ss :=
  .cons (.set 4 (.ix (.var 0) (.var 3)))
  (.cons (.ite (.or (.cmp .eq (.ix (.var 4) (.int 0)) (.str "context")) (.cmp .eq (.var 2) (.lst (.nil)))) (.cons (.drop (.callO 7 4 ["line"] [0, 1, 2, 3] [.int 0] (.cons (.var 4) (.cons (.glb 8) (.nil))) (.cons (.var 3) (.nil))))
  (.cons (.app 2 (.tup (.nil)))
  (.nil))) (.cons (.set 5 (.b1 .tuple (.callO 7 4 ["line"] [0, 1, 2, 3] [.int 0] (.cons (.var 4) (.cons (.glb 6) (.nil))) (.cons (.var 3) (.nil)))))
  (.cons (.six 2 (.neg (.int 1)) (.tupM [(true, .ix (.var 2) (.neg (.int 1))), (false, .var 5)]))
  (.nil))))
  (.nil))
def m_contexts_in_T1 : Ss :=
  .cons (.ret (.b1 .tuple (.var 2)))
  (.nil)
def m_contexts_in : Ss :=
  .cons (.own 2 (.lst (.nil)))
  (.cons (.for_ (.nm 3) (.r2 (.var 1) (.b1 .len (.var 0))) m_contexts_in_B1)
  m_contexts_in_T1)
abbrev s_contexts_in : Stmt := top 24
def N_coder_read : List Str := ["text", "rows", "heads", "line", "parts", "word", "value", "size", "division", "manner", "row"]
def P_coder_read : List Str := ["text"]
def m_coder_read_T1 : Ss :=
  .cons (.asgL (.cons (.nm 5) (.cons (.nm 6) (.nil))) (.callO 7 4 ["line"] [0, 1, 2, 3] [.int 0] (.cons (.ix (.var 1) (.var 3)) (.cons (.var 4) (.nil))) (.cons (.var 3) (.nil))))
  (.cons (.app 2 (.var 6))
  (.nil))
def m_coder_read_B1 : Ss :=
  .cons (.ite (.cmp .eq (.var 3) (.b1 .len (.var 1))) (.cons (.raise 0 (.cons (.var 3) (.cons (.int 0) (.nil))))
  (.nil)) (.nil))
  m_coder_read_T1
def m_coder_read_T2 : Ss :=
  .cons (.frz 2 (.asgL (.cons (.nm 7) (.cons (.nm 8) (.cons (.nm 9) (.nil)))) (.var 2)))
  (.cons (.ret (.tup (.cons (.var 7) (.cons (.call 9 (.cons (.var 1) (.cons (.lenW (.glb 7)) (.nil)))) (.cons (.var 8) (.cons (.var 9) (.nil)))))))
  (.nil))
def m_coder_read : Ss :=
  .cons (.setLc false 1 (.nm 10) (.l (.spl (.var 0) (.str "\n"))) .no (.spl (.var 10) (.str " ")) [("row", 10)])
  (.cons (.own 2 (.lst (.nil)))
  (.cons (.for_ (.tp (.cons (.nm 3) (.cons (.nm 4) (.nil)))) (.enw (.glb 7)) m_coder_read_B1)
  m_coder_read_T2))
abbrev s_coder_read : Stmt := top 25
def N_law_source : List Str := ["_law_script"]
def P_law_source : List Str := ["_law_script"]
def m_law_source : Ss :=
  .cons (.ret (.newL (.cons (.sl (.var 0) .no (.some (.int 63))) (.cons (.int 0) (.cons (.int 0) (.cons (.int 0) (.nil)))))))
  (.nil)
abbrev s_law_source : Stmt := top 27
def N_law_draw : List Str := ["_law_source_here", "_law_size", "_law_found", "_law_spot", "_law_cell", "_law_mixed"]
def P_law_draw : List Str := ["_law_source_here", "_law_size"]
def m_law_draw : Ss :=
  .cons (.hset (.var 0) (.int 3) (.bin .add (.hix (.var 0) (.int 3)) (.int 1)))
  (.cons (.ite (.cmp .gt (.hix (.var 0) (.int 2)) (.int 0)) (.cons (.set 2 (.bin .mod (.b1 .int (.hix (.var 0) (.int 2))) (.var 1)))
  (.cons (.hset (.var 0) (.int 2) (.bin .fdiv (.hix (.var 0) (.int 2)) (.var 1)))
  (.cons (.ret (.var 2))
  (.nil)))) (.nil))
  (.cons (.set 3 (.hix (.var 0) (.int 1)))
  (.cons (.hset (.var 0) (.int 1) (.bin .add (.var 3) (.int 1)))
  (.cons (.set 4 (.ite (.cmp .ne (.hix (.var 0) (.int 0)) (.lst (.nil))) (.ix (.hix (.var 0) (.int 0)) (.bin .mod (.b1 .int (.var 3)) (.b1 .len (.hix (.var 0) (.int 0))))) (.int 53)))
  (.cons (.ite (.and (.cmp .ge (.var 4) (.bin .pow (.int 10) (.int 18))) (.cmp .lt (.var 3) (.b1 .len (.hix (.var 0) (.int 0))))) (.cons (.hset (.var 0) (.int 2) (.bin .fdiv (.var 4) (.var 1)))
  (.cons (.ret (.bin .mod (.b1 .int (.var 4)) (.var 1)))
  (.nil))) (.nil))
  (.cons (.set 5 (.bin .mod (.b1 .int (.bin .pow (.bin .add (.bin .add (.bin .mod (.b1 .int (.var 4)) (.int 1999999973)) (.bin .mul (.int 60103) (.hix (.var 0) (.int 3)))) (.int 307)) (.int 3))) (.int 2147483549)))
  (.cons (.set 5 (.bin .mod (.b1 .int (.bin .pow (.bin .add (.bin .add (.var 5) (.bin .mul (.bin .mul (.int 4987) (.hix (.var 0) (.int 3))) (.hix (.var 0) (.int 3)))) (.int 71)) (.int 5))) (.int 2147483563)))
  (.cons (.ret (.bin .mod (.b1 .int (.bin .fdiv (.var 5) (.int 128))) (.var 1)))
  (.nil)))))))))
abbrev s_law_draw : Stmt := top 28
def N_law_pick : List Str := ["_law_source_here", "_law_rows"]
def P_law_pick : List Str := ["_law_source_here", "_law_rows"]
def m_law_pick : Ss :=
  .cons (.ret (.ix (.var 1) (.call 12 (.cons (.var 0) (.cons (.b1 .len (.var 1)) (.nil))))))
  (.nil)
abbrev s_law_pick : Stmt := top 29
def N_law_context : List Str := ["_law_source_here", "_law_many", "_law_shapes", "_law_counts", "_law_letters", "_law_found", "_law_count", "_law_letter", "_law_follow"]
def P_law_context : List Str := ["_law_source_here", "_law_many"]
def m_law_context_B1 : Ss :=
  .cons (.pop 4 7 (.call 12 (.cons (.var 0) (.cons (.b1 .len (.var 4)) (.nil)))))
  (.cons (.set 8 (.call 12 (.cons (.var 0) (.cons (.bin .add (.var 1) (.int 1)) (.nil)))))
  (.cons (.app 5 (.tup (.cons (.var 7) (.cons (.var 6) (.cons (.ite (.cmp .lt (.var 8) (.var 1)) (.var 8) (.non)) (.nil))))))
  (.nil)))
def m_law_context_T1 : Ss :=
  .cons (.ret (.b1 .tuple (.var 5)))
  (.nil)
def m_law_context : Ss :=
  .cons (.own 2 (.lst (.cons (.lst (.cons (.int 1) (.cons (.int 1) (.nil)))) (.cons (.lst (.cons (.int 2) (.cons (.int 1) (.nil)))) (.cons (.lst (.cons (.int 2) (.cons (.int 1) (.cons (.int 1) (.nil))))) (.cons (.lst (.cons (.int 9) (.cons (.int 1) (.nil)))) (.cons (.lst (.cons (.int 1) (.cons (.int 9) (.nil)))) (.cons (.lst (.cons (.int 1) (.cons (.int 2) (.cons (.int 1) (.nil))))) (.cons (.lst (.cons (.int 3) (.cons (.int 1) (.cons (.int 2) (.nil))))) (.cons (.lst (.cons (.int 1) (.cons (.int 1) (.cons (.int 1) (.cons (.int 1) (.nil)))))) (.cons (.lst (.cons (.int 5) (.cons (.int 3) (.cons (.int 2) (.cons (.int 2) (.nil)))))) (.nil))))))))))))
  (.cons (.app 2 (.lst (.cons (.int 7) (.cons (.bin .pow (.int 10) (.int 40)) (.nil)))))
  (.cons (.frz 2 (.par3 false 3 (.call 13 (.cons (.var 0) (.cons (.var 2) (.nil)))) true 4 (.lstS (.str "abcehxyz")) true 5 (.lst (.nil))))
  (.cons (.for_ (.nm 6) (.l (.var 3)) m_law_context_B1)
  m_law_context_T1)))
abbrev s_law_context : Stmt := top 30
def N_law_coder : List Str := ["_law_source_here", "_law_many", "_law_size", "_law_parting", "_law_contexts", "_law_k"]
def P_law_coder : List Str := ["_law_source_here"]
def m_law_coder : Ss :=
  .cons (.set 1 (.bin .add (.int 1) (.call 12 (.cons (.var 0) (.cons (.int 3) (.nil))))))
  (.cons (.par2 false 2 (.bin .add (.int 2) (.call 12 (.cons (.var 0) (.cons (.int 4) (.nil))))) false 3 (.call 13 (.cons (.var 0) (.cons (.lst (.cons (.str "fine") (.cons (.str "coarse") (.nil)))) (.nil)))))
  (.cons (.setLc false 4 (.nm 5) (.r1 (.var 1)) .no (.call 14 (.cons (.var 0) (.cons (.var 1) (.nil)))) [("_law_k", 5)])
  (.cons (.ret (.tup (.cons (.var 2) (.cons (.b1 .tuple (.var 4)) (.cons (.var 3) (.cons (.call 13 (.cons (.var 0) (.cons (.lst (.cons (.str "plain") (.cons (.str "pending") (.cons (.str "cut") (.cons (.str "late") (.nil)))))) (.nil)))) (.nil)))))))
  (.nil))))
abbrev s_law_coder : Stmt := top 31
def N_law_entry_text : List Str := ["_law_entry_here"]
def P_law_entry_text : List Str := ["_law_entry_here"]
def m_law_entry_text : Ss :=
  .cons (.ret (.bin .add (.bin .add (.bin .add (.bin .add (.ix (.var 0) (.int 0)) (.str " ")) (.b1 .str (.ix (.var 0) (.int 1)))) (.str " ")) (.ite (.isN false (.ix (.var 0) (.int 2))) (.str "end") (.b1 .str (.ix (.var 0) (.int 2))))))
  (.nil)
abbrev s_law_entry_text : Stmt := top 32
def N_law_coder_text : List Str := ["_law_coder_here", "_law_rows", "_law_context_here", "_law_entry_here"]
def P_law_coder_text : List Str := ["_law_coder_here"]
def m_law_coder_text_B1 : Ss :=
  .cons (.set 1 (.bin .add (.bin .add (.var 1) (.lst (.cons (.str "context") (.nil)))) (.lc (.nm 3) (.t (.var 2)) .no (.call 16 (.cons (.var 3) (.nil))) [("_law_entry_here", 3)])))
  (.nil)
def m_law_coder_text_T1 : Ss :=
  .cons (.ret (.join (.str "\n") (.var 1)))
  (.nil)
def m_law_coder_text : Ss :=
  .cons (.set 1 (.lst (.cons (.bin .add (.str "size ") (.b1 .str (.ix (.var 0) (.int 0)))) (.cons (.bin .add (.str "division ") (.ix (.var 0) (.int 2))) (.cons (.bin .add (.str "manner ") (.ix (.var 0) (.int 3))) (.nil))))))
  (.cons (.for_ (.nm 2) (.t (.ix (.var 0) (.int 1))) m_law_coder_text_B1)
  m_law_coder_text_T1)
abbrev s_law_coder_text : Stmt := top 33
def N_law_is_number_word : List Str := ["_law_text", "_law_sign"]
def P_law_is_number_word : List Str := ["_law_text"]
def m_law_is_number_word_T1 : Ss :=
  .cons (.ret (.or (.cmp .eq (.var 0) (.str "0")) (.cmp .ne (.ix (.var 0) (.int 0)) (.str "0"))))
  (.nil)
def m_law_is_number_word : Ss :=
  .cons (.ite (.or (.cmp .eq (.var 0) (.str "")) (.or (.cmp .gt (.b1 .len (.var 0)) (.int 60)) (.cmp .ne (.lc (.nm 1) (.s (.var 0)) (.some (.cmp .nin (.var 1) (.str "0123456789"))) (.var 1) [("_law_sign", 1)]) (.lst (.nil))))) (.cons (.ret (.bl false))
  (.nil)) (.nil))
  m_law_is_number_word_T1
abbrev s_law_is_number_word : Stmt := top 34
def N_law_can_stand : List Str := ["_law_text", "_law_at"]
def P_law_can_stand : List Str := ["_law_text", "_law_at"]
def m_law_can_stand : Ss :=
  .cons (.ite (.cmp .eq (.var 1) (.int 0)) (.cons (.ret (.and (.cmp .eq (.b1 .len (.var 0)) (.int 1)) (.chn .le .le (.str "a") (.var 0) (.str "z"))))
  (.nil)) (.nil))
  (.cons (.ret (.ite (.cmp .eq (.var 1) (.int 1)) (.and (.call 18 (.cons (.var 0) (.nil))) (.cmp .ne (.var 0) (.str "0"))) (.or (.cmp .eq (.var 0) (.str "end")) (.call 18 (.cons (.var 0) (.nil))))))
  (.nil))
abbrev s_law_can_stand : Stmt := top 35
def N_law_entry_fault : List Str := ["_law_text", "_law_words", "_law_at"]
def P_law_entry_fault : List Str := ["_law_text"]
def m_law_entry_fault_B1 : Ss :=
  .cons (.ite (.or (.cmp .gt (.var 2) (.int 2)) (.not (.call 19 (.cons (.ix (.var 1) (.var 2)) (.cons (.var 2) (.nil)))))) (.cons (.ret (.var 2))
  (.nil)) (.nil))
  (.nil)
def m_law_entry_fault_T1 : Ss :=
  .cons (.ret (.ite (.cmp .lt (.b1 .len (.var 1)) (.int 3)) (.b1 .len (.var 1)) (.non)))
  (.nil)
def m_law_entry_fault : Ss :=
  .cons (.set 1 (.spl (.var 0) (.str " ")))
  (.cons (.for_ (.nm 2) (.r1 (.b1 .len (.var 1))) m_law_entry_fault_B1)
  m_law_entry_fault_T1)
abbrev s_law_entry_fault : Stmt := top 36
def N_law_entry : List Str := ["_law_text", "_law_words"]
def P_law_entry : List Str := ["_law_text"]
def m_law_entry : Ss :=
  .cons (.set 1 (.spl (.var 0) (.str " ")))
  (.cons (.ret (.tup (.cons (.ix (.var 1) (.int 0)) (.cons (.b1 .int (.ix (.var 1) (.int 1))) (.cons (.ite (.cmp .eq (.ix (.var 1) (.int 2)) (.str "end")) (.non) (.b1 .int (.ix (.var 1) (.int 2)))) (.nil))))))
  (.nil))
abbrev s_law_entry : Stmt := top 37
def N_law_line_fault : List Str := ["_law_text", "_law_n", "_law_has_context", "_law_words", "_law_name", "_law_sorts"]
def P_law_line_fault : List Str := ["_law_text", "_law_n", "_law_has_context"]
def m_law_line_fault_T5 : Ss :=
  .cons (.ret (.ite (.cmp .gt (.b1 .len (.var 3)) (.int 2)) (.int 2) (.non)))
  (.nil)
def m_law_line_fault_T4 : Ss :=
  .cons (.set 5 (.ite (.cmp .eq (.var 1) (.int 1)) (.tup (.cons (.str "fine") (.cons (.str "coarse") (.nil)))) (.tup (.cons (.str "plain") (.cons (.str "pending") (.cons (.str "cut") (.cons (.str "late") (.nil))))))))
  (.cons (.ite (.or (.and (.cmp .eq (.var 1) (.int 0)) (.not (.call 18 (.cons (.ix (.var 3) (.int 1)) (.nil))))) (.and (.cmp .gt (.var 1) (.int 0)) (.cmp .nin (.ix (.var 3) (.int 1)) (.var 5)))) (.cons (.ret (.int 1))
  (.nil)) (.nil))
  m_law_line_fault_T5)
def m_law_line_fault_T3 : Ss :=
  .cons (.ite (.cmp .eq (.b1 .len (.var 3)) (.int 1)) (.cons (.ret (.int 1))
  (.nil)) (.nil))
  m_law_line_fault_T4
def m_law_line_fault_T2 : Ss :=
  .cons (.ite (.cmp .gt (.var 1) (.int 2)) (.cons (.ret (.ite (.cmp .gt (.b1 .len (.var 3)) (.int 1)) (.int 1) (.non)))
  (.nil)) (.nil))
  m_law_line_fault_T3
def m_law_line_fault_T1 : Ss :=
  .cons (.set 4 (.ite (.cmp .lt (.var 1) (.int 3)) (.ix (.lst (.cons (.str "size") (.cons (.str "division") (.cons (.str "manner") (.nil))))) (.var 1)) (.str "context")))
  (.cons (.ite (.cmp .ne (.ix (.var 3) (.int 0)) (.var 4)) (.cons (.ret (.int 0))
  (.nil)) (.nil))
  m_law_line_fault_T2)
def m_law_line_fault : Ss :=
  .cons (.set 3 (.spl (.var 0) (.str " ")))
  (.cons (.ite (.and (.cmp .gt (.var 1) (.int 2)) (.cmp .ne (.ix (.var 3) (.int 0)) (.str "context"))) (.cons (.ret (.ite (.var 2) (.call 20 (.cons (.var 0) (.nil))) (.int 0)))
  (.nil)) (.nil))
  m_law_line_fault_T1)
abbrev s_law_line_fault : Stmt := top 38
def N_law_coder_fault : List Str := ["_law_text", "_law_lines", "_law_has_context", "_law_n", "_law_fault"]
def P_law_coder_fault : List Str := ["_law_text"]
def m_law_coder_fault_T1 : Ss :=
  .cons (.set 2 (.or (.var 2) (.and (.cmp .gt (.var 3) (.int 2)) (.cmp .eq (.ix (.var 1) (.var 3)) (.str "context")))))
  (.nil)
def m_law_coder_fault_B1 : Ss :=
  .cons (.set 4 (.call 22 (.cons (.ix (.var 1) (.var 3)) (.cons (.var 3) (.cons (.var 2) (.nil))))))
  (.cons (.ite (.isN true (.var 4)) (.cons (.ret (.tup (.cons (.var 3) (.cons (.var 4) (.nil)))))
  (.nil)) (.nil))
  m_law_coder_fault_T1)
def m_law_coder_fault_T2 : Ss :=
  .cons (.ret (.ite (.cmp .lt (.b1 .len (.var 1)) (.int 3)) (.tup (.cons (.b1 .len (.var 1)) (.cons (.int 0) (.nil)))) (.non)))
  (.nil)
def m_law_coder_fault : Ss :=
  .cons (.par2 false 1 (.spl (.var 0) (.str "\n")) false 2 (.bl false))
  (.cons (.for_ (.nm 3) (.r1 (.b1 .len (.var 1))) m_law_coder_fault_B1)
  m_law_coder_fault_T2)
abbrev s_law_coder_fault : Stmt := top 39
def N_law_read : List Str := ["_law_text", "_law_lines", "_law_contexts", "_law_one", "_law_words"]
def P_law_read : List Str := ["_law_text"]
def m_law_read_B1 : Ss :=
  .cons (.ite (.cmp .eq (.var 3) (.str "context")) (.cons (.app 2 (.tup (.nil)))
  (.nil)) (.cons (.six 2 (.neg (.int 1)) (.bin .add (.ix (.var 2) (.neg (.int 1))) (.tup (.cons (.call 21 (.cons (.var 3) (.nil))) (.nil)))))
  (.nil)))
  (.nil)
def m_law_read_T1 : Ss :=
  .cons (.setLc false 4 (.nm 3) (.l (.sl (.var 1) .no (.some (.int 3)))) .no (.ix (.spl (.var 3) (.str " ")) (.int 1)) [("_law_one", 3)])
  (.cons (.ret (.tup (.cons (.b1 .int (.ix (.var 4) (.int 0))) (.cons (.b1 .tuple (.var 2)) (.cons (.ix (.var 4) (.int 1)) (.cons (.ix (.var 4) (.int 2)) (.nil)))))))
  (.nil))
def m_law_read : Ss :=
  .cons (.par2 false 1 (.spl (.var 0) (.str "\n")) true 2 (.lst (.nil)))
  (.cons (.for_ (.nm 3) (.l (.sl (.var 1) (.some (.int 3)) .no)) m_law_read_B1)
  m_law_read_T1)
abbrev s_law_read : Stmt := top 40
def N_law_spoilt_line : List Str := ["_law_source_here", "_law_text", "_law_words", "_law_at", "_law_way", "_law_odds"]
def P_law_spoilt_line : List Str := ["_law_source_here", "_law_text"]
def m_law_spoilt_line_T5 : Ss :=
  .cons (.frz 2 (.ret (.join (.str " ") (.var 2))))
  (.nil)
def m_law_spoilt_line_T4 : Ss :=
  .cons (.ite (.cmp .eq (.var 4) (.int 5)) (.cons (.six 2 (.var 3) (.sl (.ix (.var 2) (.var 3)) .no (.some (.neg (.int 1)))))
  (.nil)) (.nil))
  m_law_spoilt_line_T5
def m_law_spoilt_line_T3 : Ss :=
  .cons (.ite (.cmp .eq (.var 4) (.int 4)) (.cons (.app 2 (.call 13 (.cons (.var 0) (.cons (.var 5) (.nil)))))
  (.nil)) (.nil))
  m_law_spoilt_line_T4
def m_law_spoilt_line_T2 : Ss :=
  .cons (.ite (.cmp .in_ (.var 4) (.tup (.cons (.int 2) (.cons (.int 3) (.nil))))) (.cons (.six 2 (.var 3) (.call 13 (.cons (.var 0) (.cons (.var 5) (.nil)))))
  (.nil)) (.nil))
  m_law_spoilt_line_T3
def m_law_spoilt_line_T1 : Ss :=
  .cons (.ite (.cmp .eq (.var 4) (.int 1)) (.cons (.ins 2 (.var 3) (.callQ 13 (.cons (.var 0) (.cons (.var 2) (.nil)))))
  (.nil)) (.nil))
  m_law_spoilt_line_T2
def m_law_spoilt_line : Ss :=
  .cons (.own 2 (.spl (.var 1) (.str " ")))
  (.cons (.par2 false 3 (.call 12 (.cons (.var 0) (.cons (.b1 .len (.var 2)) (.nil)))) false 4 (.call 12 (.cons (.var 0) (.cons (.int 6) (.nil)))))
  (.cons (.set 5 (.lst (.cons (.str "") (.cons (.str "0") (.cons (.str "00") (.cons (.str "07") (.cons (.str "7") (.cons (.repS (.str "1") (.int 60)) (.cons (.repS (.str "1") (.int 61)) (.cons (.str "end") (.cons (.str "End") (.cons (.str "context") (.cons (.str "size") (.cons (.str "fine") (.cons (.str "late") (.nil))))))))))))))))
  (.cons (.set 5 (.bin .add (.var 5) (.lst (.cons (.str "a") (.cons (.str "A") (.cons (.str "ab") (.cons (.str "-1") (.cons (.str "1.") (.cons (.str "\n") (.nil))))))))))
  (.cons (.ite (.cmp .eq (.var 4) (.int 0)) (.cons (.popD 2 (.var 3))
  (.nil)) (.nil))
  m_law_spoilt_line_T1))))
abbrev s_law_spoilt_line : Stmt := top 42
def N_law_spoilt : List Str := ["_law_source_here", "_law_text", "_law_lines", "_law_at", "_law_way"]
def P_law_spoilt : List Str := ["_law_source_here", "_law_text"]
def m_law_spoilt_T5 : Ss :=
  .cons (.frz 2 (.ret (.join (.str "\n") (.var 2))))
  (.nil)
def m_law_spoilt_T4 : Ss :=
  .cons (.ite (.cmp .eq (.var 4) (.int 7)) (.cons (.ret (.sl (.var 1) .no (.some (.call 12 (.cons (.var 0) (.cons (.bin .add (.b1 .len (.var 1)) (.int 1)) (.nil)))))))
  (.nil)) (.nil))
  m_law_spoilt_T5
def m_law_spoilt_T3 : Ss :=
  .cons (.ite (.cmp .eq (.var 4) (.int 6)) (.cons (.insP 2 (.int 0) (.var 3))
  (.nil)) (.nil))
  m_law_spoilt_T4
def m_law_spoilt_T2 : Ss :=
  .cons (.ite (.cmp .eq (.var 4) (.int 5)) (.cons (.ins 2 (.call 12 (.cons (.var 0) (.cons (.bin .add (.b1 .len (.var 2)) (.int 1)) (.nil)))) (.call 13 (.cons (.var 0) (.cons (.bin .add (.var 2) (.lst (.cons (.str "") (.cons (.str "context") (.cons (.str "a 1 0") (.cons (.str " ") (.nil))))))) (.nil)))))
  (.nil)) (.nil))
  m_law_spoilt_T3
def m_law_spoilt_T1 : Ss :=
  .cons (.ite (.cmp .eq (.var 4) (.int 4)) (.cons (.popD 2 (.var 3))
  (.nil)) (.nil))
  m_law_spoilt_T2
def m_law_spoilt : Ss :=
  .cons (.own 2 (.spl (.var 1) (.str "\n")))
  (.cons (.par2 false 3 (.call 12 (.cons (.var 0) (.cons (.b1 .len (.var 2)) (.nil)))) false 4 (.call 12 (.cons (.var 0) (.cons (.int 8) (.nil)))))
  (.cons (.ite (.cmp .lt (.var 4) (.int 4)) (.cons (.six 2 (.var 3) (.call 25 (.cons (.var 0) (.cons (.ix (.var 2) (.var 3)) (.nil)))))
  (.nil)) (.nil))
  m_law_spoilt_T1))
abbrev s_law_spoilt : Stmt := top 43
def N_law : List Str := ["_law_script", "_law_source_here", "_law_coder_here", "_law_text", "_law_texts", "_law_one", "_law_fault", "_law_due", "_law_row", "_law_first", "_law_second", "_law_rows"]
def P_law : List Str := ["_law_script"]
def m_law_B1 : Ss :=
  .cons (.set 6 (.call 23 (.cons (.var 5) (.nil))))
  (.cons (.set 7 (.ite (.isN true (.var 6)) (.bin .add (.tup (.cons (.str "InvalidText") (.nil))) (.var 6)) (.tup (.cons (.str "told") (.cons (.call 24 (.cons (.var 5) (.nil))) (.nil))))))
  (.cons (.ite (.cmp .ne (.b1 .repr (.lam 0 (.call 10 (.cons (.var 5) (.nil))))) (.b1 .repr (.var 7))) (.cons (.ret (.bl false))
  (.nil)) (.nil))
  (.nil)))
def m_law_T2 : Ss :=
  .cons (.ite (.and (.isN true (.var 6)) (.cmp .ne (.b1 .repr (.lam 0 (.callO 8 3 [] [0, 1, 2] [.int 0, .int 0] (.cons (.var 5) (.nil)) (.nil)))) (.b1 .repr (.tup (.cons (.str "InvalidText") (.cons (.int 0) (.cons (.var 6) (.nil)))))))) (.cons (.ret (.bl false))
  (.nil)) (.nil))
  (.nil)
def m_law_B2 : Ss :=
  .cons (.set 6 (.call 20 (.cons (.var 5) (.nil))))
  (.cons (.set 7 (.ite (.isN true (.var 6)) (.tup (.cons (.str "InvalidText") (.cons (.var 9) (.cons (.bin .add (.var 10) (.var 6)) (.nil))))) (.tup (.cons (.str "told") (.cons (.call 21 (.cons (.var 5) (.nil))) (.nil))))))
  (.cons (.ite (.cmp .ne (.b1 .repr (.lam 0 (.callO 8 3 ["line", "field"] [0, 1, 2] [] (.cons (.var 5) (.nil)) (.cons (.var 9) (.cons (.var 10) (.nil)))))) (.b1 .repr (.var 7))) (.cons (.ret (.bl false))
  (.nil)) (.nil))
  m_law_T2))
def m_law_T3 : Ss :=
  .cons (.ret (.bl true))
  (.nil)
def m_law_T1 : Ss :=
  .cons (.set 8 (.call 16 (.cons (.call 13 (.cons (.var 1) (.cons (.call 13 (.cons (.var 1) (.cons (.ix (.var 2) (.int 1)) (.nil)))) (.nil)))) (.nil))))
  (.cons (.asg (.tp (.cons (.nm 9) (.cons (.nm 10) (.nil)))) (.tup (.cons (.call 12 (.cons (.var 1) (.cons (.int 5) (.nil)))) (.cons (.call 13 (.cons (.var 1) (.cons (.lst (.cons (.int 0) (.cons (.int 1) (.cons (.int 7) (.nil))))) (.nil)))) (.nil)))))
  (.cons (.own 11 (.lst (.cons (.var 8) (.cons (.call 25 (.cons (.var 1) (.cons (.var 8) (.nil)))) (.cons (.call 25 (.cons (.var 1) (.cons (.var 8) (.nil)))) (.nil))))))
  (.cons (.app 11 (.call 13 (.cons (.var 1) (.cons (.lst (.cons (.str "") (.cons (.str " ") (.cons (.str "a") (.cons (.str "a 1") (.cons (.str "a  1 0") (.nil))))))) (.nil)))))
  (.cons (.frz 11 (.for_ (.nm 5) (.l (.var 11)) m_law_B2))
  m_law_T3))))
def m_law : Ss :=
  .cons (.set 1 (.call 11 (.cons (.var 0) (.nil))))
  (.cons (.set 2 (.call 15 (.cons (.var 1) (.nil))))
  (.cons (.set 3 (.call 17 (.cons (.var 2) (.nil))))
  (.cons (.own 4 (.lst (.cons (.var 3) (.cons (.call 26 (.cons (.var 1) (.cons (.var 3) (.nil)))) (.nil)))))
  (.cons (.app 4 (.call 13 (.cons (.var 1) (.cons (.lst (.cons (.str "") (.cons (.str "\n") (.cons (.str " ") (.cons (.str "size 3") (.cons (.str "size 3\n") (.cons (.str "context") (.cons (.str "size") (.nil))))))))) (.nil)))))
  (.cons (.app 4 (.call 26 (.cons (.var 1) (.cons (.ix (.var 4) (.int 1)) (.nil)))))
  (.cons (.frz 4 (.for_ (.nm 5) (.l (.var 4)) m_law_B1))
  m_law_T1))))))
abbrev s_law : Stmt := top 44
def N_law_made : List Str := ["_law_ask", "_law_found", "e"]
def P_law_made : List Str := ["_law_ask"]
def m_law_made : Ss :=
  .cons (.set 1 (.tup (.cons (.str "told") (.nil))))
  (.cons (.tryAs 0 2 (.set 1) [.s "InvalidText", .f "line", .f "field"] (.cons (.set 1 (.tup (.cons (.str "told") (.cons (.act 0) (.nil)))))
  (.nil)))
  (.cons (.ret (.var 1))
  (.nil)))
abbrev s_law_made : Stmt := top 41
def ds0 : List Df := [⟨"is_letters", s_is_letters, N_is_letters, P_is_letters, m_is_letters⟩,
  ⟨"is_letter", s_is_letter, N_is_letter, P_is_letter, m_is_letter⟩,
  ⟨"is_division", s_is_division, N_is_division, P_is_division, m_is_division⟩,
  ⟨"is_manner", s_is_manner, N_is_manner, P_is_manner, m_is_manner⟩,
  ⟨"is_number_word", s_is_number_word, N_is_number_word, P_is_number_word, m_is_number_word⟩,
  ⟨"numbers_in", s_numbers_in, N_numbers_in, P_numbers_in, m_numbers_in⟩,
  ⟨"written_in", s_written_in, N_written_in, P_written_in, m_written_in⟩,
  ⟨"values_of", s_values_of, N_values_of, P_values_of, m_values_of⟩,
  ⟨"entry_read", s_entry_read, N_entry_read, P_entry_read, m_entry_read⟩,
  ⟨"contexts_in", s_contexts_in, N_contexts_in, P_contexts_in, m_contexts_in⟩,
  ⟨"coder_read", s_coder_read, N_coder_read, P_coder_read, m_coder_read⟩,
  ⟨"_law_source", s_law_source, N_law_source, P_law_source, m_law_source⟩,
  ⟨"_law_draw", s_law_draw, N_law_draw, P_law_draw, m_law_draw⟩,
  ⟨"_law_pick", s_law_pick, N_law_pick, P_law_pick, m_law_pick⟩,
  ⟨"_law_context", s_law_context, N_law_context, P_law_context, m_law_context⟩,
  ⟨"_law_coder", s_law_coder, N_law_coder, P_law_coder, m_law_coder⟩,
  ⟨"_law_entry_text", s_law_entry_text, N_law_entry_text, P_law_entry_text, m_law_entry_text⟩,
  ⟨"_law_coder_text", s_law_coder_text, N_law_coder_text, P_law_coder_text, m_law_coder_text⟩,
  ⟨"_law_is_number_word", s_law_is_number_word, N_law_is_number_word, P_law_is_number_word, m_law_is_number_word⟩,
  ⟨"_law_can_stand", s_law_can_stand, N_law_can_stand, P_law_can_stand, m_law_can_stand⟩,
  ⟨"_law_entry_fault", s_law_entry_fault, N_law_entry_fault, P_law_entry_fault, m_law_entry_fault⟩,
  ⟨"_law_entry", s_law_entry, N_law_entry, P_law_entry, m_law_entry⟩,
  ⟨"_law_line_fault", s_law_line_fault, N_law_line_fault, P_law_line_fault, m_law_line_fault⟩,
  ⟨"_law_coder_fault", s_law_coder_fault, N_law_coder_fault, P_law_coder_fault, m_law_coder_fault⟩,
  ⟨"_law_read", s_law_read, N_law_read, P_law_read, m_law_read⟩]
def ds1 : List Df := [⟨"_law_spoilt_line", s_law_spoilt_line, N_law_spoilt_line, P_law_spoilt_line, m_law_spoilt_line⟩,
  ⟨"_law_spoilt", s_law_spoilt, N_law_spoilt, P_law_spoilt, m_law_spoilt⟩,
  ⟨"law", s_law, N_law, P_law, m_law⟩]
def L : Lw := ⟨M, ds0 ++ ds1, ["len", "int", "repr", "sum", "all", "any", "tuple", "list", "isinstance", "range", "enumerate", "str", "bool", "abs", "super"], [("END", .str "end"), ("LETTERS", .str "abcdefghijklmnopqrstuvwxyz"), ("DIVISIONS", .wtp [.str "fine", .str "coarse"]), ("MANNERS", .wtp [.str "plain", .str "pending", .str "cut", .str "late"]), ("DIGITS", .str "0123456789"), ("MOST_DIGITS", .int (60)), ("ENTRY_PARTS", .wtp [.str "letter", .str "count", .str "next"]), ("HEAD_LINES", .wtp [.wtp [.str "size", .str "number"], .wtp [.str "division", .str "one division"], .wtp [.str "manner", .str "one manner"]]), ("CONTEXT_LINE", .wtp [.str "context"])], [⟨"_law_made", s_law_made, N_law_made, P_law_made, m_law_made⟩], ["law"], [("values_of", 2, [("field", .int 0)]), ("entry_read", 1, [("line", .int 0), ("field", .int 0)])]⟩
theorem chk : L.chk = true := by decide +kernel
end K
set_option maxHeartbeats 0
namespace K
open PySem PySem.Spec PyProof.Rows L2 DL
def nm0 : List Str := ["END", "SpanError", "TextError", "InvalidText", "LETTERS", "DIVISIONS", "MANNERS", "is_letters", "is_letter", "is_division", "is_manner", "DIGITS", "MOST_DIGITS", "ENTRY_PARTS", "HEAD_LINES", "CONTEXT_LINE", "is_number_word", "numbers_in", "written_in", "values_of", "entry_read", "contexts_in", "coder_read", "_law_source", "_law_draw"]
def nm1 : List Str := ["_law_pick", "_law_context", "_law_coder", "_law_entry_text", "_law_coder_text", "_law_is_number_word", "_law_can_stand", "_law_entry_fault", "_law_entry", "_law_line_fault", "_law_coder_fault", "_law_read", "_law_made", "_law_spoilt_line", "_law_spoilt"]
def nm : List Str := nm0 ++ nm1
abbrev R : PySem.W.OpenRow := PySem.W.OpenLaw.row PySem.Challenge.rw_bitspans_k07_whole_readers_errors
abbrev hk : PySem.W.Hook := hookX 5 L.fa L.fn (L.xt R.prog) L.tf
def ob (s : PySem.W.SharedT) : He.AlD := obsX 5 L.fa L.fn (L.xt R.prog) L.tf (HandSHeadRun.getT s)
theorem ob_eq (s : PySem.W.SharedT) : ob s = hk.obs s.abs := obsX_eq (HandSHeadRun.getT_eq s)
theorem run (w : World) : HandSHeadRun.RunEq R (PySem.W.view R.prog [44]) hk ob 4000 nm w := by
  intro os
  kernel_rfl
end K
namespace M17
open PySem DL
/-- how many last bits the two ends differ in -/
def od (a b : Nat) : Nat := Builtin.Int.intBits ((a ^^^ b : Nat) : Int)
/-- the middle -/
def mid (a b : Nat) : Nat := b / 2 ^ (od a b - 1) * 2 ^ (od a b - 1)
end M17
namespace M17
open PySem DL
/-- the d last bits of n, the greatest first, as code points -/
def bs (n : Nat) : Nat → List Nat
  | 0 => []
  | d + 1 => bs (n / 2) d ++ [48 + n % 2]
def bt (n d : Nat) : Str := ⟨(bs n d).toArray⟩
end M17
set_option exponentiation.threshold 2000
namespace BM
open PySem DL M17
inductive Mn where
  | plain | pending | cut | late
deriving DecidableEq
def Mn.s : Mn → Str
  | .plain => "plain"
  | .pending => "pending"
  | .cut => "cut"
  | .late => "late"
structure Ent where
  c : Nat
  n : Nat
  g : Option Nat
structure Rig where
  z : Nat
  cs : List (List Ent)
  fine : Bool
  mn : Mn
structure Ent.ok (m : Nat) (e : Ent) : Prop where
  c0 : 97 ≤ e.c
  c1 : e.c ≤ 122
  n0 : 1 ≤ e.n
  n1 : e.n ≤ 12
  g : ∀ k, e.g = some k → k < m
structure conOk (m : Nat) (es : List Ent) : Prop where
  l0 : 2 ≤ es.length
  l1 : es.length ≤ 4
  ok : ∀ e ∈ es, e.ok m
  nd : (es.map (·.c)).Nodup
structure Rig.ok (r : Rig) : Prop where
  z0 : 2 ≤ r.z
  z1 : r.z ≤ 5
  l0 : 1 ≤ r.cs.length
  l1 : r.cs.length ≤ 3
  ok : ∀ es ∈ r.cs, conOk r.cs.length es
structure Sp where
  l : Nat
  w : Nat
  d : Nat
structure Sp.ok (s : Sp) : Prop where
  w0 : 1 ≤ s.w
  hi : s.l + s.w ≤ 2 ^ s.d
def opn (l w : Nat) : Nat := od l (l + w - 1)
/-- the middle of a span -/
def mdl (l w : Nat) : Nat := mid l (l + w - 1)
def Sp.o (s : Sp) : Nat := opn s.l s.w
def Sp.m (s : Sp) : Nat := mdl s.l s.w
def Sp.lf (s : Sp) : Nat := s.m - s.l
def Sp.rt (s : Sp) : Nat := s.l + s.w - s.m
def mxs (s : Sp) : Nat := max s.lf s.rt
structure Stl where
  s : Sp
  t : Nat
  x : Option Sp
/-- what is settled: its shape by the manner -/
structure Settled (mn : Mn) (z : Nat) (s : Sp) : Prop where
  o : mn ≠ .late → z ≤ s.o
  pd : mn = .pending → 2 ^ (z - 2) < mxs s
  ct : mn = .cut → 2 ^ (z - 2) < s.w
  lt : mn = .late → 2 ^ (z - 1) < s.w
  w : 2 ≤ s.w
theorem Sp.ok.sub {s k : Sp} (h : s.ok) (w : 1 ≤ k.w) (d : k.d = s.d) (a : k.l + k.w ≤ s.l + s.w) : k.ok := ⟨w, by rw [d]; exact Nat.le_trans a h.hi⟩
end BM
set_option maxHeartbeats 4000000
set_option exponentiation.threshold 256
namespace DP
open PySem DL BM M17
theorem sl24 : sizeLine = 2 ^ 24 := by decide +kernel
theorem toPys_ints : ∀ (l : List Int), toPys (l.map D.int) = some (l.map PyData.int)
  | [] => by simp [toPys]
  | i :: l => by simp [toPys, toPy, toPys_ints l]
theorem lay_ints : ∀ (l : List Int), PyData.canLayAll0 (l.map PyData.int) = true
  | [] => by simp [PyData.canLayAll0]
  | i :: l => by simp [PyData.canLayAll0, PyData.canLay0, lay_ints l]
theorem dep_ints : ∀ (l : List Int), PyData.depthAll (l.map PyData.int) ≤ 1
  | [] => by simp [PyData.depthAll]
  | i :: l => by
    have := dep_ints l
    simp [PyData.depthAll, PyData.depth]
    exact this
theorem shp_ints (l : List Int) : SeqAt.shaped (.list (l.map PyData.int)) = true := by
  unfold SeqAt.shaped
  have := dep_ints l
  simp [PyData.canLay0, lay_ints l, PyData.depth]
  omega
theorem ne_nilI {l : List Int} {Q : W → Prop} (q : Q (.d (.bl (!l.isEmpty)))) : wCmp .ne (.d (.lst (l.map D.int))) (.new []) Q := by
  refine ⟨.list (l.map PyData.int), .list [], by simp [pyW, toPy, toPys_ints], by simp [pyW, toPys], shp_ints _, by decide +kernel, ?_⟩
  rw [if_pos rfl, eqv_nilL]
  simpa using q
mutual
def good : D → Bool
  | .ref _ => false
  | .ty _ => false
  | .tup xs => goods xs
  | .lst xs => goods xs
  | .fro xs => goods xs
  | .wtp _ => false
  | _ => true
def goods : List D → Bool
  | [] => true
  | x :: xs => good x && goods xs
end
def isS : D → Bool
  | .str _ => true
  | _ => false
theorem isi_of {T t : String} {b : Bool} {x : D} {Q : W → Prop} (h1 : tyD x = some t) (h2 : L2.kitB t T = some b) : wIsi T (.d x) Q ↔ Q (.d (.bl b)) := by
  unfold wIsi tyW
  constructor
  · rintro ⟨t', b', e1, e2, q⟩
    replace e1 : tyD x = some t' := e1
    rw [h1] at e1; cases e1; rw [h2] at e2; cases e2; exact q
  · intro q; exact ⟨t, b, h1, h2, q⟩
theorem w_str {x : D} {Q : W → Prop} (h : good x = true) : wIsi "str" (.d x) Q ↔ Q (.d (.bl (isS x))) := by
  cases x <;> first | (simp [good] at h; done) | (refine isi_of rfl ?_; show L2.kitB _ _ = some true; decide +kernel) | (refine isi_of rfl ?_; show L2.kitB _ _ = some false; decide +kernel)
theorem lc_map {ds : DSt} {vs : List Nat} {g : Tg} {te : TDE} {P : List D → Hs → Prop} {h : Hs} (f : D → D) : ∀ (xs acc : List D), (∀ x ∈ xs, ∀ Kp : D → Hs → Prop, Kp (f x) h → g.put x (wipeD ds vs) fun ds2 => dD te ds2 h Kp noX) → acc.length + xs.length ≤ sizeLine → P (acc ++ xs.map f) h → lcD ds vs g dYes te P xs acc h
  | [], acc, _, _, p => by unfold lcD; simpa using p
  | x :: xs, acc, H, hl, p => by
    unfold lcD
    show g.put x (wipeD ds vs) fun ds2 => if true = true then dD te ds2 h (fun y h3 => acc.length < sizeLine ∧ lcD ds vs g dYes te P xs (acc ++ [y]) h3) noX else lcD ds vs g dYes te P xs acc h
    simp only [if_true]
    refine H x (by simp) _ ⟨by simp at hl; omega, lc_map f xs (acc ++ [f x]) (fun y hy => H y (List.mem_cons_of_mem _ hy)) (by simp at hl ⊢; omega) (by simpa using p)⟩
theorem log2_lt {a b : Nat} (h : a < 2 ^ b) (hb : 1 ≤ b) : a.log2 < b := by
  by_cases e : a = 0
  · subst e; simp; omega
  · exact (Nat.log2_lt e).mpr h
section
variable {α : Type} {a b c d : α} {xs : List α}
@[simp] theorem at0 : L2.atI (a :: xs) 0 = some a := atI_n (k := 0) (by simp)
@[simp] theorem at1 : L2.atI (a :: b :: xs) 1 = some b := atI_n (k := 1) (by simp)
@[simp] theorem at2 : L2.atI (a :: b :: c :: xs) 2 = some c := atI_n (k := 2) (by simp)
@[simp] theorem at3 : L2.atI (a :: b :: c :: d :: xs) 3 = some d := atI_n (k := 3) (by simp)
end
@[simp] theorem ex_ij {a b : Int} {P : Int → Int → Prop} : (∃ i j, (a = i ∧ b = j) ∧ P i j) = P a b := propext ⟨fun ⟨_, _, ⟨e1, e2⟩, p⟩ => e1 ▸ e2 ▸ p, fun p => ⟨a, b, ⟨rfl, rfl⟩, p⟩⟩
@[simp] theorem mm_max {a b : Int} : mmI true a b = max a b := rfl
@[simp] theorem mm_min {a b : Int} : mmI false a b = min a b := rfl
/-- a comprehension with a test, without objects -/
theorem lc_fil {ds : DSt} {vs : List Nat} {g : Tg} {tt : TDT} {te : TDE} {P : List D → Hs → Prop} {h : Hs} (p : D → Bool) (f : D → D) : ∀ (xs acc : List D),
    (∀ x ∈ xs, ∀ (Kt : D → Hs → Prop) (Kf : Hs → Prop), (p x = true → Kt (f x) h) → (p x = false → Kf h) → g.put x (wipeD ds vs) fun ds2 => tt ds2 h (fun b h2 => if b = true then dD te ds2 h2 Kt noX else Kf h2) noX) →
    acc.length + xs.length ≤ sizeLine → P (acc ++ (xs.filter p).map f) h → lcD ds vs g tt te P xs acc h
  | [], acc, _, _, q => by unfold lcD; simpa using q
  | x :: xs, acc, H, hl, q => by
    unfold lcD
    refine H x (by simp) _ _ (fun hp => ?_) (fun hp => ?_)
    · refine ⟨by simp at hl; omega, lc_fil p f xs (acc ++ [f x]) (fun y hy => H y (List.mem_cons_of_mem _ hy)) (by simp at hl ⊢; omega) ?_⟩
      simpa [List.filter_cons, hp] using q
    · refine lc_fil p f xs acc (fun y hy => H y (List.mem_cons_of_mem _ hy)) (by simp at hl ⊢; omega) ?_
      simpa [List.filter_cons, hp] using q
theorem bd_nat {n : Nat} (h : n < 2 ^ 1000) : Bd 1003 0 (.int n) := bd_int (k := 1000) (by decide) (by
  rw [Int.natAbs_natCast]
  exact Nat.le_of_lt (log2_lt h (by decide)))
theorem neS {a : Str} {Q : W → Prop} (q : Q (.d (.bl false))) : wCmp .ne (.d (.str a)) (.d (.str a)) Q := by
  show Q (.d (.bl (if true = true then !decide (a = a) else decide (a = a))))
  simpa using q
end DP
set_option maxHeartbeats 4000000
namespace CO
open PySem DL DP
def lts : List Nat := ("abcdefghijklmnopqrstuvwxyz" : Str).cps.toList
def isLets : D → Bool
  | .str s => s.cps.toList.all fun c => decide (c ∈ lts)
  | _ => false
def isL (s : Str) : Bool := decide (s.cps.size = 1) && s.cps.toList.all fun c => decide (c ∈ lts)
structure En where
  l : Str
  c : Int
  n : Option Nat
structure Co where
  z : Int
  cs : List (List En)
  dv : Str
  mn : Str
def nxD : Option Nat → D
  | none => .non
  | some k => .int k
def enD (e : En) : D := .tup [.str e.l, .int e.c, nxD e.n]
def cxD (es : List En) : D := .tup (es.map enD)
def coD (c : Co) : D := .tup [.int c.z, .tup (c.cs.map cxD), .str c.dv, .str c.mn]
def enOk (m : Nat) (e : En) : Prop := isL e.l = true ∧ 0 < e.c ∧ ∀ k, e.n = some k → k < m
structure cxOk (m : Nat) (es : List En) : Prop where
  two : 2 ≤ es.length
  en : ∀ e ∈ es, enOk m e
  nd : (es.map (·.l)).Nodup
structure Co.ok (c : Co) : Prop where
  z0 : 2 ≤ c.z
  z1 : c.z ≤ 5
  c0 : 0 < c.cs.length
  c1 : c.cs.length ≤ 10
  cx : ∀ es ∈ c.cs, cxOk c.cs.length es
  dv : c.dv ∈ (["fine", "coarse"] : List Str)
  mn : c.mn ∈ (["plain", "pending", "cut", "late"] : List Str)
/-- counts below a power of two -/
def Co.cb (b : Nat) (c : Co) : Prop := ∀ es ∈ c.cs, ∀ e ∈ es, e.c < 2 ^ b
theorem isL_one {s : Str} (h : isL s = true) : ∃ c ∈ lts, s = ⟨#[c]⟩ := by
  obtain ⟨⟨l⟩⟩ := s
  simp only [isL, Bool.and_eq_true, decide_eq_true_eq, List.all_eq_true] at h
  obtain ⟨h1, h2⟩ := h
  match l, h1, h2 with
  | [c], _, h2 => exact ⟨c, h2 c (by simp), rfl⟩
theorem sub_len {α : Type} [DecidableEq α] : ∀ {l m : List α}, l.Nodup → (∀ x ∈ l, x ∈ m) → l.length ≤ m.length
  | [], m, _, _ => Nat.zero_le _
  | a :: l, m, nd, h => by
    rw [List.nodup_cons] at nd
    have ha := h a (by simp)
    have := sub_len (l := l) (m := m.erase a) nd.2 fun x hx => (List.mem_erase_of_ne (fun e => nd.1 (by rw [← e]; exact hx))).mpr (h x (List.mem_cons_of_mem _ hx))
    rw [List.length_erase_of_mem ha] at this
    have hp : 0 < m.length := List.length_pos_of_mem ha
    simp only [List.length_cons]
    omega
def ltS : List Str := lts.map fun c => ⟨#[c]⟩
theorem ltS_len : ltS.length = 26 := by decide +kernel
theorem isL_mem {s : Str} (h : isL s = true) : s ∈ ltS := by
  obtain ⟨c, hc, rfl⟩ := isL_one h
  exact List.mem_map.mpr ⟨c, hc, rfl⟩
theorem cxOk.few {m : Nat} {es : List En} (h : cxOk m es) : es.length ≤ 26 := by
  have := sub_len (m := ltS) h.nd fun x hx => by
    obtain ⟨e, he, rfl⟩ := List.mem_map.mp hx
    exact isL_mem (h.en e he).1
  rw [ltS_len] at this
  simpa using this
theorem lts_ok : ∀ c ∈ lts, PyData.strOk ⟨#[c]⟩ = true := by decide +kernel
theorem isL_strOk {s : Str} (h : isL s = true) : PyData.strOk s = true := by
  obtain ⟨c, hc, rfl⟩ := isL_one h
  exact lts_ok c hc
end CO
set_option maxHeartbeats 4000000
set_option exponentiation.threshold 2000
namespace CO
open PySem DL DP
theorem bd_l {s : Str} (h : isL s = true) : Bd 12 0 (.str s) := by
  have h1 := isL_strOk h
  have h2 : s.cps.size = 1 := by simp only [isL, Bool.and_eq_true, decide_eq_true_eq] at h; exact h.1
  exact ⟨by simpa [plD] using h1, by simp [szD, h2], by simp [dpD]⟩
theorem dv_bd : ∀ s ∈ (["fine", "coarse"] : List Str), Bd 80 0 (.str s) := by
  intro s h
  simp only [List.mem_cons, List.not_mem_nil, or_false] at h
  rcases h with rfl | rfl <;> exact ⟨by decide +kernel, by decide +kernel, by decide +kernel⟩
theorem mn_bd : ∀ s ∈ (["plain", "pending", "cut", "late"] : List Str), Bd 80 0 (.str s) := by
  intro s h
  simp only [List.mem_cons, List.not_mem_nil, or_false] at h
  rcases h with rfl | rfl | rfl | rfl <;> exact ⟨by decide +kernel, by decide +kernel, by decide +kernel⟩
end CO
set_option maxHeartbeats 4000000
namespace CO
open PySem DL DP
theorem spl_ne {S acc l : List Nat} : TL.spl S 0 acc l ≠ [] := by
  induction l generalizing acc with
  | nil => simp [TL.spl_nil]
  | cons c r ih =>
    cases h : TL.pre S (c :: r) with
    | true => rw [TL.spl_hit h]; simp
    | false => rw [TL.spl_miss h]; exact ih
theorem pre1 {c d : Nat} {r : List Nat} : TL.pre [c] (d :: r) = decide (d = c) := by
  show (([d] : List Nat) == [c]) = _
  by_cases h : d = c <;> simp [h]
theorem spl1_cons {c d : Nat} {acc r : List Nat} : TL.spl [c] 0 acc (d :: r) = if d = c then acc :: TL.spl [c] 0 [] r else TL.spl [c] 0 (acc ++ [d]) r := by
  by_cases h : d = c
  · rw [if_pos h, TL.spl_hit (by rw [pre1, decide_eq_true h])] <;> rfl
  · rw [if_neg h, TL.spl_miss (by rw [pre1, decide_eq_false h])]
theorem join_spl1 {c : Nat} : ∀ (l acc : List Nat), TL.joinL [c] (TL.spl [c] 0 acc l) = acc ++ l
  | [], acc => by rw [TL.spl_nil]; simp [TL.joinL]
  | d :: r, acc => by
    rw [spl1_cons]
    by_cases h : d = c
    · rw [if_pos h]
      have ih := join_spl1 (c := c) r []
      cases e : TL.spl [c] 0 [] r with
      | nil => exact absurd e spl_ne
      | cons p q =>
        rw [e] at ih
        show acc ++ ([c] ++ TL.joinL [c] (p :: q)) = _
        rw [ih, h]; simp
    · rw [if_neg h, join_spl1 r (acc ++ [d])]; simp
theorem spl1_len {c : Nat} : ∀ (l acc : List Nat), (TL.spl [c] 0 acc l).length ≤ l.length + 1
  | [], acc => by rw [TL.spl_nil]; simp
  | d :: r, acc => by
    rw [spl1_cons]
    by_cases h : d = c
    · rw [if_pos h]; have := spl1_len (c := c) r []; simp; omega
    · rw [if_neg h]; have := spl1_len (c := c) r (acc ++ [d]); simp; omega
theorem spl1_part {c : Nat} : ∀ (l acc : List Nat), ∀ p ∈ TL.spl [c] 0 acc l, p.length ≤ acc.length + l.length ∧ (c ∉ acc → c ∉ p) ∧ ∀ x ∈ p, x ∈ acc ∨ x ∈ l
  | [], acc => by
    rw [TL.spl_nil]
    intro p hp
    rw [List.mem_singleton.mp hp]
    exact ⟨by simp, fun h => h, fun x hx => .inl hx⟩
  | d :: r, acc => by
    rw [spl1_cons]
    intro p hp
    by_cases h : d = c
    · rw [if_pos h] at hp
      rcases List.mem_cons.mp hp with rfl | hp
      · exact ⟨by simp, fun h => h, fun x hx => .inl hx⟩
      · obtain ⟨a, b, e⟩ := spl1_part r [] p hp
        exact ⟨by simp at a ⊢; omega, fun _ => b (by simp), fun x hx => .inr (by have := e x hx; simp at this; simp [this])⟩
    · rw [if_neg h] at hp
      obtain ⟨a, b, e⟩ := spl1_part r (acc ++ [d]) p hp
      refine ⟨by simp at a ⊢; omega, fun hc => b (by simp [hc]; exact fun e => h e.symm), fun x hx => ?_⟩
      have := e x hx
      simp at this
      rcases this with (h1 | h1) | h1
      · exact .inl h1
      · exact .inr (by simp [h1])
      · exact .inr (by simp [h1])
theorem split1 {x y : Str} {c : Nat} (ey : TL.tl y = [c]) (hk : y.cps.all (· < 256) = true) : (Txt.split x y).map TL.tl = TL.spl [c] 0 [] (TL.tl x) := by
  rw [TL.split_spl _ y (by rw [ey]; simp) (TL.kind_ok hk), ey]
theorem join_split {x y : Str} {c : Nat} (ey : TL.tl y = [c]) (hk : y.cps.all (· < 256) = true) : Txt.join y (Txt.split x y) = x := by
  refine TL.ext_tl ?_
  rw [TL.join_eq, TL.tl_join, split1 ey hk, ey, join_spl1]; simp
theorem split_inj {x x' y : Str} {c : Nat} (ey : TL.tl y = [c]) (hk : y.cps.all (· < 256) = true) (h : Txt.split x y = Txt.split x' y) : x = x' := by
  rw [← join_split ey hk (x := x), h, join_split ey hk]
theorem split_ne {x y : Str} {c : Nat} (ey : TL.tl y = [c]) (hk : y.cps.all (· < 256) = true) : Txt.split x y ≠ [] := fun h => by
  have := split1 (x := x) ey hk
  rw [h] at this
  exact spl_ne this.symm
theorem split_len {x y : Str} {c : Nat} (ey : TL.tl y = [c]) (hk : y.cps.all (· < 256) = true) : (Txt.split x y).length ≤ x.length + 1 := by
  have := congrArg List.length (split1 (x := x) ey hk)
  rw [List.length_map] at this
  rw [this, TL.len_tl]
  exact spl1_len _ _
theorem split_mem {x y w : Str} {c : Nat} (ey : TL.tl y = [c]) (hk : y.cps.all (· < 256) = true) (h : w ∈ Txt.split x y) : w.length ≤ x.length ∧ c ∉ TL.tl w ∧ ∀ a ∈ TL.tl w, a ∈ TL.tl x := by
  have : TL.tl w ∈ TL.spl [c] 0 [] (TL.tl x) := by
    rw [← split1 ey hk]; exact List.mem_map_of_mem h
  obtain ⟨a, b, e⟩ := spl1_part _ _ _ this
  refine ⟨by rw [TL.len_tl, TL.len_tl]; simpa using a, b (by simp), fun z hz => ?_⟩
  have := e z hz
  simpa using this
def wd (t : Str) : List Str := Txt.split t " "
def ln (t : Str) : List Str := Txt.split t "\n"
theorem ey_sp : TL.tl (" " : Str) = [32] := by decide +kernel
theorem hk_sp : (" " : Str).cps.all (· < 256) = true := by decide +kernel
theorem ey_nl : TL.tl ("\n" : Str) = [10] := by decide +kernel
theorem hk_nl : ("\n" : Str).cps.all (· < 256) = true := by decide +kernel
theorem wd_ne (t : Str) : wd t ≠ [] := split_ne ey_sp hk_sp
theorem ln_ne (t : Str) : ln t ≠ [] := split_ne ey_nl hk_nl
theorem wd_len (t : Str) : (wd t).length ≤ t.length + 1 := split_len ey_sp hk_sp
theorem ln_len (t : Str) : (ln t).length ≤ t.length + 1 := split_len ey_nl hk_nl
theorem wd_inj {t u : Str} (h : wd t = wd u) : t = u := split_inj ey_sp hk_sp h
theorem ln_mem {t w : Str} (h : w ∈ ln t) : w.length ≤ t.length := (split_mem ey_nl hk_nl h).1
def digs : List Nat := ("0123456789" : Str).cps.toList
def isNL (l : List Nat) : Bool := (l.all fun c => decide (c ∈ digs)) && (match l with
  | [] => false
  | [c] => true
  | c :: _ => decide (c ≠ 48))
def isNW (w : Str) : Bool := isNL w.cps.toList
def numW (w : Str) : Option Nat := if isNW w = true ∧ w.length ≤ 60 then some (NumText.digitsVal w.cps.toList) else none
theorem dig_iff : ∀ {c : Nat}, c ∈ digs ↔ 48 ≤ c ∧ c ≤ 57 := by
  intro c
  have e : digs = [48, 49, 50, 51, 52, 53, 54, 55, 56, 57] := by decide +kernel
  rw [e]; simp; omega
theorem nw_digits {w : Str} (h : isNW w = true) : NumText.AllDigits w.cps.toList ∧ w.cps.toList ≠ [] := by
  unfold isNW isNL at h
  simp only [Bool.and_eq_true, List.all_eq_true, decide_eq_true_eq] at h
  refine ⟨fun c hc => dig_iff.mp (h.1 c hc), fun e => ?_⟩
  rw [e] at h
  simp at h
theorem numW_int {w : Str} {n : Nat} (h : numW w = some n) : PySem.intText? w = some (n : Int) ∧ w.length ≤ 60 := by
  unfold numW at h
  split at h
  · rename_i hh
    obtain ⟨h1, h2⟩ := hh
    cases h
    exact ⟨PySem.intText_digits (nw_digits h1).1 (nw_digits h1).2 (by omega), h2⟩
  · cases h
def intD (n : Nat) : D := .int (n : Int)
def writ (p w : Str) : Option D :=
  if p = "letter" then (if isL w = true then some (.str w) else none)
  else if p = "number" then (numW w).map intD
  else if p = "count" then (numW w).bind (fun n => if 0 < n then some (intD n) else none)
  else if p = "next" then (if w = "end" then some .non else (numW w).map intD)
  else if p = "one division" then (if w ∈ (["fine", "coarse"] : List Str) then some (.str w) else none)
  else if p = "one manner" then (if w ∈ (["plain", "pending", "cut", "late"] : List Str) then some (.str w) else none)
  else if w = p then some (.str w) else none
theorem wr_let (w : Str) : writ "letter" w = if isL w = true then some (.str w) else none := by unfold writ; rw [if_pos rfl]
theorem wr_num (w : Str) : writ "number" w = (numW w).map intD := by unfold writ; rw [if_neg (by decide +kernel), if_pos rfl]
theorem wr_cnt (w : Str) : writ "count" w = (numW w).bind fun n => if 0 < n then some (intD n) else none := by unfold writ; rw [if_neg (by decide +kernel), if_neg (by decide +kernel), if_pos rfl]
theorem wr_nxt (w : Str) : writ "next" w = if w = "end" then some .non else (numW w).map intD := by unfold writ; rw [if_neg (by decide +kernel), if_neg (by decide +kernel), if_neg (by decide +kernel), if_pos rfl]
theorem wr_div (w : Str) : writ "one division" w = if w ∈ (["fine", "coarse"] : List Str) then some (.str w) else none := by unfold writ; rw [if_neg (by decide +kernel), if_neg (by decide +kernel), if_neg (by decide +kernel), if_neg (by decide +kernel), if_pos rfl]
theorem wr_man (w : Str) : writ "one manner" w = if w ∈ (["plain", "pending", "cut", "late"] : List Str) then some (.str w) else none := by unfold writ; rw [if_neg (by decide +kernel), if_neg (by decide +kernel), if_neg (by decide +kernel), if_neg (by decide +kernel), if_neg (by decide +kernel), if_pos rfl]
def parN : List Str := ["letter", "number", "count", "next", "one division", "one manner"]
theorem wr_oth {p : Str} (w : Str) (h : p ∉ parN) : writ p w = if w = p then some (.str w) else none := by
  simp only [parN, List.mem_cons, List.not_mem_nil, or_false, not_or] at h
  unfold writ
  rw [if_neg h.1, if_neg h.2.1, if_neg h.2.2.1, if_neg h.2.2.2.1, if_neg h.2.2.2.2.1, if_neg h.2.2.2.2.2]
theorem wr_ctx (w : Str) : writ "context" w = if w = "context" then some (.str w) else none := wr_oth w (by decide +kernel)
/-- what words write, part by part, or the first one that cannot stand -/
def vV : List Str → List Str → List D ⊕ Nat
  | [], [] => .inl []
  | [], _ :: _ => .inr 0
  | _ :: _, [] => .inr 0
  | p :: ps, w :: ws => match writ p w with
    | none => .inr 0
    | some d => match vV ps ws with
      | .inl ds => .inl (d :: ds)
      | .inr k => .inr (k + 1)
def hdp : Nat → List Str
  | 0 => ["size", "number"]
  | 1 => ["division", "one division"]
  | _ => ["manner", "one manner"]
def enP : List Str := ["letter", "count", "next"]
def lnP (n : Nat) (has : Bool) (ws : List Str) : List Str := if n < 3 then hdp n else if ws.head? = some ("context" : Str) ∨ has = false then ["context"] else enP
def ftV : List D ⊕ Nat → Option Nat
  | .inl _ => none
  | .inr k => some k
def lnF (n : Nat) (has : Bool) (ws : List Str) : Option Nat := ftV (vV (lnP n has ws) ws)
def hasN (n : Nat) (has : Bool) (ws : List Str) : Bool := has || (decide (2 < n) && decide (ws = [("context" : Str)]))
/-- the first fault of the rows, the first of them being row n -/
def ftF : Nat → Bool → List (List Str) → Option (Nat × Nat)
  | n, _, [] => if n < 3 then some (n, 0) else none
  | n, has, ws :: rs => match lnF n has ws with
    | some k => some (n, k)
    | none => ftF (n + 1) (hasN n has ws) rs
def ftR (rows : List (List Str)) : Option (Nat × Nat) := ftF 0 false rows
def numG (w : Str) : Nat := (numW w).getD 0
def enW (ws : List Str) : En := ⟨ws.getD 0 Str.empty, numG (ws.getD 1 Str.empty), if ws.getD 2 Str.empty = "end" then none else some (numG (ws.getD 2 Str.empty))⟩
def addC (found : List (List En)) (ws : List Str) : List (List En) := if ws.head? = some ("context" : Str) then found ++ [[]] else found.dropLast ++ [found.getLastD [] ++ [enW ws]]
def bdC (found : List (List En)) (rows : List (List Str)) : List (List En) := rows.foldl addC found
def atW (rows : List (List Str)) (i : Nat) : Str := (rows.getD i []).getD 1 Str.empty
def rdC (rows : List (List Str)) : Co := ⟨numG (atW rows 0), bdC [] (rows.drop 3), atW rows 1, atW rows 2⟩
def rows (t : Str) : List (List Str) := (ln t).map wd
theorem vV_len : ∀ {ps ws : List Str} {ds : List D}, vV ps ws = .inl ds → ws.length = ps.length ∧ ds.length = ps.length
  | [], [], ds, h => by simp [vV] at h; subst h; simp
  | [], _ :: _, ds, h => by simp [vV] at h
  | _ :: _, [], ds, h => by simp [vV] at h
  | p :: ps, w :: ws, ds, h => by
    simp only [vV] at h
    split at h
    · cases h
    · split at h
      · rename_i d _ ds' e
        cases h
        have := vV_len e
        simp [this]
      · cases h
theorem vV_k : ∀ {ps ws : List Str} {k : Nat}, vV ps ws = .inr k → k ≤ ps.length ∧ k ≤ ws.length
  | [], [], k, h => by simp [vV] at h
  | [], _ :: _, k, h => by simp [vV] at h; subst h; simp
  | _ :: _, [], k, h => by simp [vV] at h; subst h; simp
  | p :: ps, w :: ws, k, h => by
    simp only [vV] at h
    split at h
    · cases h; simp
    · split at h
      · cases h
      · rename_i e
        cases h
        have := vV_k e
        simp; omega
/-- an entry's words -/
theorem vV_en {ws : List Str} {ds : List D} (h : vV enP ws = .inl ds) : ∃ l c n k, ws = [l, c, n] ∧ isL l = true ∧ numW c = some k ∧ 0 < k ∧ (n = "end" ∨ (n ≠ "end" ∧ ∃ j, numW n = some j)) ∧ .tup ds = enD (enW ws) := by
  have hl := (vV_len h).1
  match ws, hl with
  | [l, c, n], _ =>
    simp only [enP, vV, wr_let, wr_cnt, wr_nxt] at h
    cases hL : isL l with
    | false => simp [hL] at h
    | true =>
      cases hC : numW c with
      | none => simp [hL, hC] at h
      | some k =>
        by_cases hk : 0 < k
        · by_cases hn : n = "end"
          · rw [hC, if_pos hn] at h
            simp [hL, hk] at h
            refine ⟨l, c, n, k, rfl, hL, hC, hk, .inl hn, ?_⟩
            rw [← h]
            simp [CO.enD, enW, intD, numG, hC, hn, nxD]
          · cases hN : numW n with
            | none => rw [hC, if_neg hn, hN] at h; simp [hL, hk] at h
            | some j =>
              rw [hC, if_neg hn, hN] at h
              simp [hL, hk] at h
              refine ⟨l, c, n, k, rfl, hL, hC, hk, .inr ⟨hn, j, hN⟩, ?_⟩
              rw [← h]
              simp [CO.enD, enW, intD, numG, hC, hn, nxD, hN]
        · simp [hL, hC, hk] at h
theorem vV_ct {ws : List Str} {ds : List D} (h : vV [("context" : Str)] ws = .inl ds) : ws = [("context" : Str)] := by
  have hl := (vV_len h).1
  match ws, hl with
  | [w], _ =>
    by_cases hw : w = "context"
    · rw [hw]
    · simp only [vV, wr_ctx, if_neg hw] at h; cases h
theorem ftV_none {r : List D ⊕ Nat} (h : ftV r = none) : ∃ ds, r = .inl ds := by
  cases r with
  | inl ds => exact ⟨ds, rfl⟩
  | inr k => cases h
theorem lnF_none {n : Nat} {has : Bool} {ws : List Str} (hn : 3 ≤ n) (h : lnF n has ws = none) : ws = [("context" : Str)] ∨ (has = true ∧ ws.head? ≠ some ("context" : Str) ∧ ∃ ds, vV enP ws = .inl ds) := by
  unfold lnF lnP at h
  rw [if_neg (by omega)] at h
  by_cases hc : ws.head? = some ("context" : Str) ∨ has = false
  · rw [if_pos hc] at h
    obtain ⟨ds, hd⟩ := ftV_none h
    exact .inl (vV_ct hd)
  · rw [if_neg hc] at h
    refine .inr ⟨?_, fun e => hc (.inl e), ftV_none h⟩
    cases has with
    | true => rfl
    | false => exact absurd (.inr rfl) hc
/-- where the first fault lies -/
theorem vV_at : ∀ (k : Nat) (ps ws : List Str) (hp : k ≤ ps.length) (hw : k ≤ ws.length), (∀ j (h1 : j < ps.length) (h2 : j < ws.length), j < k → (writ ps[j] ws[j]).isSome = true) →
    (∀ (h1 : k < ps.length) (h2 : k < ws.length), writ ps[k] ws[k] = none → ftV (vV ps ws) = some k) ∧ (k = ps.length → k < ws.length → ftV (vV ps ws) = some k) ∧ (k < ps.length → k = ws.length → ftV (vV ps ws) = some k) ∧ (k = ps.length → k = ws.length → ftV (vV ps ws) = none)
  | 0, [], [], _, _, _ => by simp [vV, ftV]
  | 0, [], w :: ws, _, _, _ => by simp [vV, ftV]
  | 0, p :: ps, [], _, _, _ => by simp [vV, ftV]
  | 0, p :: ps, w :: ws, _, _, _ => by
    refine ⟨fun _ _ h => ?_, by simp, by simp, by simp⟩
    simp only [List.getElem_cons_zero] at h
    simp [vV, h, ftV]
  | k + 1, [], _, hp, _, _ => by simp at hp
  | k + 1, _ :: _, [], _, hw, _ => by simp at hw
  | k + 1, p :: ps, w :: ws, hp, hw, h => by
    have h0 := h 0 (by simp) (by simp) (by omega)
    simp only [List.getElem_cons_zero] at h0
    obtain ⟨d, hd⟩ := Option.isSome_iff_exists.mp h0
    have ih := vV_at k ps ws (by simpa using hp) (by simpa using hw) fun j h1 h2 hj => by
      have := h (j + 1) (by simpa using h1) (by simpa using h2) (by omega)
      simpa using this
    have e : ftV (vV (p :: ps) (w :: ws)) = (ftV (vV ps ws)).map (· + 1) := by
      simp only [vV, hd]
      cases vV ps ws <;> rfl
    rw [e]
    obtain ⟨a, b, c, d⟩ := ih
    refine ⟨fun h1 h2 hn => ?_, fun h1 h2 => ?_, fun h1 h2 => ?_, fun h1 h2 => ?_⟩
    · simp only [List.getElem_cons_succ] at hn
      rw [a (by simpa using h1) (by simpa using h2) hn] <;> rfl
    · rw [b (by simpa using h1) (by simpa using h2)] <;> rfl
    · rw [c (by simpa using h1) (by simpa using h2)] <;> rfl
    · rw [d (by simpa using h1) (by simpa using h2)] <;> rfl
/-- a word of an entry can stand -/
def stB (k : Nat) (w : Str) : Bool := match k with
  | 0 => CO.isL w
  | 1 => (numW w).isSome && !decide (w = "0")
  | _ => decide (w = "end") || (numW w).isSome
theorem numW_zero {w : Str} {n : Nat} (h : numW w = some n) : n = 0 ↔ w = "0" := by
  constructor
  · intro hn
    subst hn
    unfold numW at h
    split at h
    · rename_i hh
      obtain ⟨h1, h2⟩ := hh
      injection h with hv
      have had := nw_digits h1
      obtain ⟨⟨l⟩⟩ := w
      simp only at had hv
      unfold isNW isNL at h1
      have e0 : ("0" : Str) = ⟨#[48]⟩ := by decide +kernel
      rw [e0]
      match l, had, hv, h1 with
      | [], had, _, _ => exact absurd rfl had.2
      | [c], had, hv, _ =>
        have := had.1 c (by simp)
        have hv' : (0 * 10 + (c - 48)) = 0 := hv
        have : c = 48 := by omega
        subst this; rfl
      | c :: c2 :: r, had, hv, h1 =>
        exfalso
        have hc := had.1 c (by simp)
        have h48 : c ≠ 48 := by
          simp only [Bool.and_eq_true, decide_eq_true_eq] at h1
          exact h1.2
        have : ∀ (cs : List Nat) (a : Nat), 0 < a → 0 < cs.foldl (fun acc c => acc * 10 + (c - 48)) a := by
          intro cs
          induction cs with
          | nil => intro a h; exact h
          | cons x cs ih => intro a h; exact ih (a * 10 + (x - 48)) (by omega)
        have hv' : (c2 :: r).foldl (fun acc c => acc * 10 + (c - 48)) (0 * 10 + (c - 48)) = 0 := hv
        have := this (c2 :: r) (0 * 10 + (c - 48)) (by omega)
        omega
    · cases h
  · intro hw
    subst hw
    have : numW "0" = some 0 := by decide +kernel
    rw [this] at h
    injection h with h
    exact h.symm
theorem stB_writ {k : Nat} {w : Str} (hk : k < 3) : stB k w = (writ (enP[k]'(by simpa [enP] using hk)) w).isSome := by
  match k, hk with
  | 0, _ =>
    show CO.isL w = (writ "letter" w).isSome
    rw [wr_let]
    cases CO.isL w <;> simp
  | 1, _ =>
    show ((numW w).isSome && !decide (w = "0")) = (writ "count" w).isSome
    rw [wr_cnt]
    cases h : numW w with
    | none => simp
    | some n =>
      by_cases hn : w = "0"
      · have := (numW_zero h).mpr hn; simp [hn, this]
      · have : 0 < n := Nat.pos_of_ne_zero fun e => hn ((numW_zero h).mp e)
        simp [hn, this]
  | 2, _ =>
    show (decide (w = "end") || (numW w).isSome) = (writ "next" w).isSome
    rw [wr_nxt]
    by_cases hw : w = "end"
    · simp [hw]
    · rw [if_neg hw]
      cases numW w <;> simp [hw]
theorem wd_ct : wd "context" = [("context" : Str)] := by
  have : TL.tl (" " : Str) = [32] := ey_sp
  unfold wd
  refine TL.map_tl_inj ?_
  rw [split1 ey_sp hk_sp]
  decide +kernel
theorem wd_ct_iff {t : Str} : wd t = [("context" : Str)] ↔ t = "context" := ⟨fun h => wd_inj (h.trans wd_ct.symm), fun h => by rw [h]; exact wd_ct⟩
end CO
set_option maxHeartbeats 4000000
namespace RI
open PySem DL DP
def sh (a : D) : List Nat := TL.tl (pyD a).shown
/-- the kind of value by its first sign -/
def hd : D → Nat
  | .non => 78
  | .bl true => 84
  | .bl false => 70
  | .int _ => 48
  | .str _ => 39
  | .tup _ => 40
  | _ => 91
def cls (c : Nat) : Nat := if 48 ≤ c ∧ c ≤ 57 then 48 else c
end RI
set_option maxHeartbeats 4000000
namespace CO
open PySem DL DP
def numS (n : Int) : Str := Str.ofString (toString n)
theorem tl_numS (n : Nat) : TL.tl (numS n) = TL.numL n := TL.tl_num n
theorem dig_val {l : List Nat} {c : Nat} : NumText.digitsVal (l ++ [c]) = NumText.digitsVal l * 10 + (c - 48) := by
  unfold NumText.digitsVal
  rw [List.foldl_append] <;> rfl
theorem fold_pos : ∀ (cs : List Nat) (a : Nat), 0 < a → 0 < cs.foldl (fun acc c => acc * 10 + (c - 48)) a
  | [], a, h => h
  | x :: cs, a, h => fold_pos cs (a * 10 + (x - 48)) (by omega)
theorem numL_back : ∀ (n : Nat) (l : List Nat), l.length = n → isNL l = true → TL.numL (NumText.digitsVal l) = l
  | 0, l, hn, h => by
    have : l = [] := List.length_eq_zero_iff.mp hn
    subst this
    simp [isNL] at h
  | n + 1, l, hn, h => by
    rcases List.eq_nil_or_concat l with e | ⟨i, c, e⟩
    · subst e; simp at hn
    · rw [List.concat_eq_append] at e
      subst e
      have hd : ∀ x ∈ i ++ [c], 48 ≤ x ∧ x ≤ 57 := by
        unfold isNL at h
        simp only [Bool.and_eq_true, List.all_eq_true, decide_eq_true_eq] at h
        exact fun x hx => dig_iff.mp (h.1 x hx)
      have hc := hd c (by simp)
      rw [dig_val]
      by_cases hi : i = []
      · subst hi
        have : NumText.digitsVal [] * 10 + (c - 48) = c - 48 := by simp [NumText.digitsVal]
        rw [this, TL.numL_lt (by omega)]
        simp; omega
      · have h2 : isNL i = true := by
          unfold isNL at h ⊢
          simp only [Bool.and_eq_true, List.all_eq_true, decide_eq_true_eq] at h ⊢
          refine ⟨fun x hx => h.1 x (by simp [hx]), ?_⟩
          match i, hi, h.2 with
          | [a], _, _ => rfl
          | a :: b :: r, _, h2 => simpa using h2
        have ih := numL_back n i (by simpa using hn) h2
        have hp : 0 < NumText.digitsVal i := by
          match i, hi, h with
          | a :: r, _, h =>
            have ha := hd a (by simp)
            have : a ≠ 48 := by
              unfold isNL at h
              simp only [Bool.and_eq_true] at h
              have := h.2
              cases r with
              | nil => simpa using this
              | cons b r => simpa using this
            exact fold_pos r (0 * 10 + (a - 48)) (by omega)
        rw [TL.numL_step (by omega), show (NumText.digitsVal i * 10 + (c - 48)) / 10 = NumText.digitsVal i by omega, show (NumText.digitsVal i * 10 + (c - 48)) % 10 = c - 48 by omega, ih]
        congr 2
        omega
theorem numS_back {w : Str} {n : Nat} (h : numW w = some n) : numS n = w := by
  unfold numW at h
  split at h
  · rename_i hh
    injection h with h
    refine TL.ext_tl ?_
    rw [tl_numS, ← h]
    exact numL_back _ _ rfl hh.1
  · cases h
def nxS : Option Nat → Str
  | none => "end"
  | some k => numS k
def enWs (e : En) : List Str := [e.l, numS e.c, nxS e.n]
def csWs (cs : List (List En)) : List (List Str) := (cs.map fun es => [("context" : Str)] :: es.map enWs).flatten
def hdWs (c : Co) : List (List Str) := [["size", numS c.z], ["division", c.dv], ["manner", c.mn]]
def coWs (c : Co) : List (List Str) := hdWs c ++ csWs c.cs
structure EnR (e : En) : Prop where
  l : CO.isL e.l = true
  c : ∃ k : Nat, e.c = k ∧ 0 < k ∧ k < 10 ^ 60
  n : ∀ k, e.n = some k → k < 10 ^ 60
structure CoR (c : Co) : Prop where
  z : ∃ k : Nat, c.z = k ∧ k < 10 ^ 60
  cs : ∀ es ∈ c.cs, ∀ e ∈ es, EnR e
  dv : c.dv ∈ (["fine", "coarse"] : List Str)
  mn : c.mn ∈ (["plain", "pending", "cut", "late"] : List Str)
theorem csWs_snoc (cs : List (List En)) (es : List En) : csWs (cs ++ [es]) = csWs cs ++ ([("context" : Str)] :: es.map enWs) := by simp [csWs]
theorem csWs_add (cs : List (List En)) (es : List En) (e : En) : csWs (cs ++ [es ++ [e]]) = csWs (cs ++ [es]) ++ [enWs e] := by simp [csWs]
theorem dvLt : ∀ (cs : List Nat) (a : Nat), (∀ c ∈ cs, 48 ≤ c ∧ c ≤ 57) → cs.foldl (fun acc c => acc * 10 + (c - 48)) a < (a + 1) * 10 ^ cs.length
  | [], a, _ => by simp
  | c :: cs, a, h => by
    have hc := h c (by simp)
    have := dvLt cs (a * 10 + (c - 48)) (fun d hd => h d (List.mem_cons_of_mem _ hd))
    rw [List.foldl_cons, List.length_cons, Nat.pow_succ]
    refine Nat.lt_of_lt_of_le this ?_
    rw [Nat.mul_comm (10 ^ cs.length) 10, ← Nat.mul_assoc]
    exact Nat.mul_le_mul_right _ (by omega)
theorem nwLt {w : Str} {n : Nat} (h : numW w = some n) : n < 10 ^ 60 := by
  unfold numW at h
  split at h
  · rename_i hh
    cases h
    have := dvLt w.cps.toList 0 (nw_digits hh.1).1
    refine Nat.lt_of_lt_of_le this ?_
    rw [Nat.zero_add, Nat.one_mul]
    have hl : w.cps.toList.length ≤ 60 := by
      have : w.cps.toList.length = w.length := Array.length_toList
      omega
    exact Nat.pow_le_pow_right (by decide) hl
  · cases h
theorem enWs_enW {ws : List Str} {ds : List D} (h : vV enP ws = .inl ds) : enWs (enW ws) = ws ∧ EnR (enW ws) := by
  obtain ⟨l, c, n, k, rfl, hL, hC, hk, hn, _⟩ := vV_en h
  have hc : numG c = k := by unfold numG; rw [hC] <;> rfl
  rcases hn with hn | ⟨hn, j, hj⟩
  · subst hn
    refine ⟨?_, hL, ⟨k, by simp [enW, hc], hk, nwLt hC⟩, fun k h => by simp [enW] at h⟩
    simp [enWs, enW, hc, nxS, numS_back hC]
  · have hj' : numG n = j := by unfold numG; rw [hj] <;> rfl
    refine ⟨?_, hL, ⟨k, by simp [enW, hc], hk, nwLt hC⟩, fun k h => ?_⟩
    · simp [enWs, enW, hc, hn, hj', nxS, numS_back hC, numS_back hj]
    · simp [enW, hn, hj'] at h; rw [← h]; exact nwLt hj
theorem ws_bd : ∀ (R : List (List Str)) (n : Nat) (found : List (List En)), 3 ≤ n → (∀ es ∈ found, ∀ e ∈ es, EnR e) → ftF n (!found.isEmpty) R = none → csWs (bdC found R) = csWs found ++ R ∧ ∀ es ∈ bdC found R, ∀ e ∈ es, EnR e
  | [], n, found, hn, hf, h => by simp [bdC]; exact hf
  | ws :: R, n, found, hn, hf, h => by
    simp only [ftF] at h
    cases hk : lnF n (!found.isEmpty) ws with
    | some k => rw [hk] at h; cases h
    | none =>
      rw [hk] at h
      show csWs (bdC (addC found ws) R) = _ ∧ ∀ es ∈ bdC (addC found ws) R, _
      rcases lnF_none hn hk with hc | ⟨h1, h2, ds, hd⟩
      · have ha : addC found ws = found ++ [[]] := by unfold addC; rw [hc]; simp
        have eh : hasN n (!found.isEmpty) ws = !(addC found ws).isEmpty := by rw [ha]; simp [hasN, hc, show 2 < n by omega]
        rw [eh] at h
        obtain ⟨a, b⟩ := ws_bd R (n + 1) (addC found ws) (by omega) (by
          rw [ha]; intro es he
          rcases List.mem_append.mp he with he | he
          · exact hf es he
          · simp at he; subst he; simp) h
        refine ⟨?_, b⟩
        rw [a, ha, csWs_snoc, hc]; simp
      · rcases List.eq_nil_or_concat found with hf0 | ⟨init, lst, hf0⟩
        · rw [hf0] at h1; simp at h1
        · rw [List.concat_eq_append] at hf0
          have ha : addC found ws = init ++ [lst ++ [enW ws]] := by unfold addC; rw [if_neg h2, hf0]; simp
          have eh : hasN n (!found.isEmpty) ws = !(addC found ws).isEmpty := by rw [ha, hasN, h1]; simp
          rw [eh] at h
          obtain ⟨w1, w2⟩ := enWs_enW hd
          obtain ⟨a, b⟩ := ws_bd R (n + 1) (addC found ws) (by omega) (by
            rw [ha]; intro es he
            rcases List.mem_append.mp he with he | he
            · exact hf es (by rw [hf0]; simp [he])
            · simp at he; subst he
              intro e he
              rcases List.mem_append.mp he with he | he
              · exact hf lst (by rw [hf0]; simp) e he
              · simp at he; subst he; exact w2) h
          refine ⟨?_, b⟩
          rw [a, ha, csWs_add, hf0, w1]; simp
theorem hd_ws {i : Nat} {ws : List Str} (hi : i < 3) (h : lnF i false ws = none) : ∃ a b, ws = [a, b] ∧ (match i with
    | 0 => a = "size" ∧ ∃ n, numW b = some n
    | 1 => a = "division" ∧ b ∈ (["fine", "coarse"] : List Str)
    | _ => a = "manner" ∧ b ∈ (["plain", "pending", "cut", "late"] : List Str)) := by
  unfold lnF lnP at h
  rw [if_pos hi] at h
  obtain ⟨ds, hd⟩ := ftV_none h
  have hl := (vV_len hd).1
  have hp : (hdp i).length = 2 := by unfold hdp; split <;> rfl
  rw [hp] at hl
  match ws, hl with
  | [a, b], _ =>
    refine ⟨a, b, rfl, ?_⟩
    match i, hi with
    | 0, _ =>
      simp only [hdp, vV, wr_num] at hd
      rw [wr_oth a (by decide +kernel)] at hd
      by_cases ha : a = "size"
      · cases hn : numW b with
        | none => rw [hn] at hd; simp [ha] at hd
        | some n => exact ⟨ha, n, rfl⟩
      · rw [if_neg ha] at hd; cases hd
    | 1, _ =>
      simp only [hdp, vV, wr_div] at hd
      rw [wr_oth a (by decide +kernel)] at hd
      by_cases ha : a = "division"
      · by_cases hb : b ∈ (["fine", "coarse"] : List Str)
        · exact ⟨ha, hb⟩
        · rw [if_neg hb] at hd; simp [ha] at hd
      · rw [if_neg ha] at hd; cases hd
    | 2, _ =>
      simp only [hdp, vV, wr_man] at hd
      rw [wr_oth a (by decide +kernel)] at hd
      by_cases ha : a = "manner"
      · by_cases hb : b ∈ (["plain", "pending", "cut", "late"] : List Str)
        · exact ⟨ha, hb⟩
        · rw [if_neg hb] at hd; simp [ha] at hd
      · rw [if_neg ha] at hd; cases hd
theorem write_back {R : List (List Str)} (hne : R ≠ []) (h : ftR R = none) : coWs (rdC R) = R ∧ CoR (rdC R) := by
  unfold ftR at h
  match R, hne with
  | r0 :: R, _ =>
  simp only [ftF] at h
  cases h0 : lnF 0 false r0 with
  | some k => rw [h0] at h; cases h
  | none =>
  rw [h0] at h
  match R, h with
  | [], h => simp [ftF] at h
  | r1 :: R, hA =>
  simp only [ftF, hasN] at hA
  simp at hA
  cases h1 : lnF 1 false r1 with
  | some k => rw [h1] at hA; cases hA
  | none =>
  rw [h1] at hA
  match R, hA with
  | [], h => simp [ftF] at h
  | r2 :: R, hB =>
  simp only [ftF, hasN] at hB
  simp at hB
  cases h2 : lnF 2 false r2 with
  | some k => rw [h2] at hB; cases hB
  | none =>
  rw [h2] at hB
  obtain ⟨a0, b0, rfl, rfl, n, hn⟩ := hd_ws (by decide) h0
  obtain ⟨a1, b1, rfl, rfl, hb1⟩ := hd_ws (by decide) h1
  obtain ⟨a2, b2, rfl, rfl, hb2⟩ := hd_ws (by decide) h2
  obtain ⟨w1, w2⟩ := ws_bd R 3 [] (by omega) (by simp) hB
  have hg : numG b0 = n := by unfold numG; rw [hn] <;> rfl
  refine ⟨?_, ⟨n, ?_, ?_⟩, w2, hb1, hb2⟩
  · show [[("size" : Str), numS ((numG b0 : Nat) : Int)], [("division" : Str), b1], [("manner" : Str), b2]] ++ csWs (bdC [] R) = _
    rw [w1, hg, numS_back hn]; simp [csWs]
  · show ((numG b0 : Nat) : Int) = n
    rw [hg]
  · exact nwLt hn
end CO
set_option maxHeartbeats 4000000
namespace CO
open PySem DL DP
theorem joinL_mem {S : List Nat} : ∀ {ps : List (List Nat)} {c : Nat}, c ∈ TL.joinL S ps → c ∈ S ∨ ∃ p ∈ ps, c ∈ p
  | [], c, h => by simp [TL.joinL] at h
  | [p], c, h => .inr ⟨p, by simp, h⟩
  | p :: q :: r, c, h => by
    have h' : c ∈ p ++ (S ++ TL.joinL S (q :: r)) := h
    rcases List.mem_append.mp h' with h | h
    · exact .inr ⟨p, by simp, h⟩
    · rcases List.mem_append.mp h with h | h
      · exact .inl h
      · rcases joinL_mem h with h | ⟨z, hz, h⟩
        · exact .inl h
        · exact .inr ⟨z, List.mem_cons_of_mem _ hz, h⟩
theorem tl_joinT (y : Str) (ps : List Str) : TL.tl (Txt.join y ps) = TL.joinL (TL.tl y) (ps.map TL.tl) := by rw [TL.join_eq, TL.tl_join]
def jsp (ws : List Str) : Str := Txt.join " " ws
def jnl (ls : List Str) : Str := Txt.join "\n" ls
/-- a word without blanks and line feeds -/
def fr (w : Str) : Prop := 32 ∉ TL.tl w ∧ 10 ∉ TL.tl w ∧ ∀ c ∈ TL.tl w, c < 128
theorem jnl_rows (t : Str) : jnl ((rows t).map jsp) = t := by
  unfold rows jnl jsp
  rw [List.map_map]
  have : (ln t).map ((Txt.join " ") ∘ wd) = ln t := by
    conv => rhs; rw [← List.map_id (ln t)]
    exact List.map_congr_left fun l _ => join_split ey_sp hk_sp
  rw [this]
  exact join_split ey_nl hk_nl
def coTx (c : Co) : Str := jnl ((coWs c).map jsp)
def enTx (e : En) : Str := jsp (enWs e)
theorem fr_num (n : Nat) : fr (numS n) := by
  unfold fr
  rw [tl_numS]
  exact ⟨TL.numL_free (.inl (by decide)), TL.numL_free (.inl (by decide)), fun c hc => by have := TL.numL_digits n c hc; omega⟩
theorem fr_let {s : Str} (h : CO.isL s = true) : fr s := by
  obtain ⟨c, hc, rfl⟩ := isL_one h
  have : ∀ c ∈ lts, c ≠ 32 ∧ c ≠ 10 ∧ c < 128 := by decide +kernel
  have := this c hc
  exact ⟨fun h => this.1 (List.mem_singleton.mp (show 32 ∈ [c] from h)).symm, fun h => this.2.1 (List.mem_singleton.mp (show 10 ∈ [c] from h)).symm, fun x hx => by rw [List.mem_singleton.mp (show x ∈ [c] from hx)]; exact this.2.2⟩
instance {w : Str} : Decidable (fr w) := by unfold fr; exact inferInstance
theorem fr_dv : ∀ s ∈ (["fine", "coarse"] : List Str), fr s := by decide +kernel
theorem fr_mn : ∀ s ∈ (["plain", "pending", "cut", "late"] : List Str), fr s := by decide +kernel
theorem fr_en {e : En} (h : EnR e) : enWs e ≠ [] ∧ ∀ w ∈ enWs e, fr w := by
  obtain ⟨hl, ⟨k, hk, _, _⟩, hn⟩ := h
  refine ⟨by simp [enWs], fun w hw => ?_⟩
  simp only [enWs, List.mem_cons, List.not_mem_nil, or_false] at hw
  rcases hw with rfl | rfl | rfl
  · exact fr_let hl
  · rw [hk]; exact fr_num k
  · cases e.n with
    | none => exact (by decide +kernel : fr "end")
    | some j => exact fr_num j
theorem fr_co {c : Co} (h : CoR c) : ∀ ws ∈ coWs c, ws ≠ [] ∧ ∀ w ∈ ws, fr w := by
  obtain ⟨⟨z, hz, _⟩, hcs, hdv, hmn⟩ := h
  intro ws hw
  unfold coWs at hw
  rcases List.mem_append.mp hw with hw | hw
  · simp only [hdWs, List.mem_cons, List.not_mem_nil, or_false] at hw
    rcases hw with rfl | rfl | rfl
    · refine ⟨by simp, fun w hw => ?_⟩
      simp only [List.mem_cons, List.not_mem_nil, or_false] at hw
      rcases hw with rfl | rfl
      · exact (by decide +kernel : fr "size")
      · rw [hz]; exact fr_num z
    · refine ⟨by simp, fun w hw => ?_⟩
      simp only [List.mem_cons, List.not_mem_nil, or_false] at hw
      rcases hw with rfl | rfl
      · exact (by decide +kernel : fr "division")
      · exact fr_dv _ hdv
    · refine ⟨by simp, fun w hw => ?_⟩
      simp only [List.mem_cons, List.not_mem_nil, or_false] at hw
      rcases hw with rfl | rfl
      · exact (by decide +kernel : fr "manner")
      · exact fr_mn _ hmn
  · unfold csWs at hw
    obtain ⟨l, hl, hw⟩ := List.mem_flatten.mp hw
    obtain ⟨es, he, rfl⟩ := List.mem_map.mp hl
    rcases List.mem_cons.mp hw with rfl | hw
    · refine ⟨by simp, fun w hw => ?_⟩
      simp only [List.mem_cons, List.not_mem_nil, or_false] at hw
      subst hw
      exact (by decide +kernel : fr "context")
    · obtain ⟨e, hee, rfl⟩ := List.mem_map.mp hw
      exact fr_en (hcs es he e hee)
theorem tx_rd {t : Str} (h : ftR (rows t) = none) : coTx (rdC (rows t)) = t ∧ CoR (rdC (rows t)) := by
  have hne : rows t ≠ [] := by unfold rows; simp [ln_ne t]
  obtain ⟨a, b⟩ := write_back hne h
  refine ⟨?_, b⟩
  unfold coTx
  rw [a]; exact jnl_rows t
theorem asc_jsp {ws : List Str} (h : ∀ w ∈ ws, fr w) : ∀ c ∈ TL.tl (jsp ws), c < 128 := fun c hc => by
  unfold jsp at hc
  rw [tl_joinT, ey_sp] at hc
  rcases joinL_mem hc with h1 | ⟨p, hp, h1⟩
  · simp at h1; omega
  · obtain ⟨w, hw, rfl⟩ := List.mem_map.mp hp
    exact (h w hw).2.2 c h1
end CO
set_option maxHeartbeats 4000000
set_option exponentiation.threshold 2000
namespace K
open PySem DL DP CO
/-- the source: at most k draws so far -/
def SH (k : Nat) (h : Hs) : Prop := ∃ (cells : List Int) (a b c : Int), h = [.lst [.lst (cells.map D.int), .int a, .int b, .int c]] ∧ cells.length ≤ 63 ∧ 0 ≤ a ∧ a ≤ k ∧ 0 ≤ c ∧ c ≤ k
def spDraw : FnD := fun xs h P _ => match xs with
  | [.ref 0, .int n] => ∃ k, SH k h ∧ k ≤ 1000000 ∧ 0 < n ∧ n ≤ 18446744073709551616 ∧ ∀ r h', 0 ≤ r → r < n → SH (k + 1) h' → P (.int r) h'
  | _ => False
def mE : Ss := (.cons (.set 5 (.bin .mod (.b1 .int (.bin .pow (.bin .add (.bin .add (.bin .mod (.b1 .int (.var 4)) (.int 1999999973)) (.bin .mul (.int 60103) (.hix (.var 0) (.int 3)))) (.int 307)) (.int 3))) (.int 2147483549)))
  (.cons (.set 5 (.bin .mod (.b1 .int (.bin .pow (.bin .add (.bin .add (.var 5) (.bin .mul (.bin .mul (.int 4987) (.hix (.var 0) (.int 3))) (.hix (.var 0) (.int 3)))) (.int 71)) (.int 5))) (.int 2147483563)))
  (.cons (.ret (.bin .mod (.b1 .int (.bin .fdiv (.var 5) (.int 128))) (.var 1)))
  (.nil))))
theorem mE_ok {F : Fns} {R : Hs} {n cell c : Int} {d0 d1 d2 : D} {w2 w3 w5 : Option W} {En : DEnds} (h0 : 0 < n) (h1 : n ≤ 18446744073709551616) (c0 : 0 ≤ c) (ck : c ≤ 1000001) (q : ∀ r, 0 ≤ r → r < n → En.rt (.int r) (.lst [d0, d1, d2, .int c] :: R)) :
    mE.d M F [some (.d (.ref 0)), some (.d (.int n)), w2, w3, some (.d (.int cell)), w5] (.lst [d0, d1, d2, .int c] :: R) En := by
  have m0 : ∀ i : Int, 0 ≤ i % n := fun i => Int.emod_nonneg _ (by omega)
  have m1 : ∀ i : Int, i % n < n := fun i => Int.emod_lt_of_pos _ h0
  have c1 : CMulA 60103 c := .inl (.inl ⟨by decide, by decide⟩)
  have c2 : CMulA 4987 c := .inl (.inl ⟨by decide, by decide⟩)
  have c3 : CMulA (4987 * c) c := .inl (.inr ⟨by omega, by omega⟩)
  have e1 := Int.emod_nonneg cell (b := 1999999973) (by decide)
  have e2 := Int.emod_lt_of_pos cell (b := 1999999973) (by decide)
  have p1 : L2.CPow (cell % 1999999973 + 60103 * c + 307) 3 := ⟨by decide, by decide, by omega⟩
  have p2 : ∀ m : Int, 0 ≤ m → m < 2147483549 → L2.CPow (m + 4987 * c * c + 71) 5 := fun m a b => ⟨by decide, by decide, by
    have t1 : 4987 * c * c ≤ 4987 * c * 1000001 := Int.mul_le_mul_of_nonneg_left ck (by omega)
    have t2 : 0 ≤ 4987 * c * c := Int.mul_nonneg (by omega) c0
    omega⟩
  have dv : ∀ i : Int, CDivA i 128 := fun i => .inl ⟨by decide, by decide⟩
  simp [mE, Ss.d, S.d, E.d, dHix, L2.atI, L2.ixN, wBin, wInt, wB1, wIntc, c1, c2, c3, p1, dv, h0]
  generalize hm : (cell % 1999999973 + 60103 * c + 307) ^ 3 % 2147483549 = m
  have hm0 : 0 ≤ m := by rw [← hm]; exact Int.emod_nonneg _ (by decide)
  have hm1 : m < 2147483549 := by rw [← hm]; exact Int.emod_lt_of_pos _ (by decide)
  exact ⟨p2 m hm0 hm1, q _ (m0 _) (m1 _)⟩
def mD : Ss := (.cons (.ite (.and (.cmp .ge (.var 4) (.bin .pow (.int 10) (.int 18))) (.cmp .lt (.var 3) (.b1 .len (.hix (.var 0) (.int 0))))) (.cons (.hset (.var 0) (.int 2) (.bin .fdiv (.var 4) (.var 1)))
  (.cons (.ret (.bin .mod (.b1 .int (.var 4)) (.var 1)))
  (.nil))) (.nil)) mE)
theorem mD_ok {F : Fns} {R : Hs} {n cell a b c : Int} {cells : List D} {k : Nat} {w2 w5 : Option W} {En : DEnds} (h0 : 0 < n) (h1 : n ≤ 18446744073709551616) (c0 : 0 ≤ c) (ck : c ≤ 1000001) (q : ∀ r b', 0 ≤ r → r < n → En.rt (.int r) (.lst [.lst cells, .int (a + 1), .int b', .int c] :: R)) :
    mD.d M F [some (.d (.ref 0)), some (.d (.int n)), w2, some (.d (.int a)), some (.d (.int cell)), w5] (.lst [.lst cells, .int (a + 1), .int b, .int c] :: R) En := by
  have m0 : ∀ i : Int, 0 ≤ i % n := fun i => Int.emod_nonneg _ (by omega)
  have m1 : ∀ i : Int, i % n < n := fun i => Int.emod_lt_of_pos _ h0
  have dv : ∀ i : Int, CDivA i n := fun i => .inr ⟨h0, by
    have := (Nat.log2_lt (n := n.natAbs) (k := 65) (by omega)).mpr (by omega)
    omega⟩
  have pw : L2.CPow 10 18 := ⟨by decide, by decide, by decide⟩
  unfold mD
  have me := mE_ok (F := F) (R := R) (n := n) (cell := cell) (c := c) (d0 := .lst cells) (d1 := .int (a + 1)) (d2 := .int b) (w2 := w2) (w3 := some (.d (.int a))) (w5 := w5) (En := En) h0 h1 c0 ck (fun r a b => q r _ a b)
  generalize mE = me' at me ⊢
  simp [Ss.d, S.d, E.d, E.t, dHix, dHset, L2.atI, L2.ixN, wBin, wInt, wB1, wIntc, wCmp, wLt, pw, dv, h0, wLen, seqW, lstW, tupW]
  split
  · split
    · exact q _ _ (m0 _) (m1 _)
    · exact me
  · exact me
def mC2 : Ss := (.cons (.set 4 (.ite (.cmp .ne (.hix (.var 0) (.int 0)) (.lst (.nil))) (.ix (.hix (.var 0) (.int 0)) (.bin .mod (.b1 .int (.var 3)) (.b1 .len (.hix (.var 0) (.int 0))))) (.int 53))) mD)
theorem mC2_ok {F : Fns} {R : Hs} {n a b c : Int} {cells : List Int} {w2 w4 w5 : Option W} {En : DEnds} (hl : cells.length ≤ 63) (a0 : 0 ≤ a) (h0 : 0 < n) (h1 : n ≤ 18446744073709551616) (c0 : 0 ≤ c) (ck : c ≤ 1000001) (q : ∀ r b', 0 ≤ r → r < n → En.rt (.int r) (.lst [.lst (cells.map D.int), .int (a + 1), .int b', .int c] :: R)) :
    mC2.d M F [some (.d (.ref 0)), some (.d (.int n)), w2, some (.d (.int a)), w4, w5] (.lst [.lst (cells.map D.int), .int (a + 1), .int b, .int c] :: R) En := by
  unfold mC2
  have md := fun cell => mD_ok (F := F) (R := R) (n := n) (cell := cell) (a := a) (b := b) (c := c) (cells := cells.map D.int) (k := 0) (w2 := w2) (w5 := w5) (En := En) h0 h1 c0 ck q
  generalize mD = md' at md ⊢
  simp [Ss.d, S.d, E.d, E.t, Es.d, dHix, -List.map_map]
  refine ne_nilI ?_
  cases cells with
  | nil => simpa using md 53
  | cons x l =>
    have hp : (0 : Int) < ((x :: l).length : Int) := by simp
    have e0 := Int.emod_nonneg a (b := ((x :: l).length : Int)) (by omega)
    have e1 := Int.emod_lt_of_pos a hp
    refine .inr ⟨by simp, ?_⟩
    simp [wB1, wIntc, wLen, seqW, lstW, wBin, wInt]
    have eL : ((x :: l).length : Int) = (l.length : Int) + 1 := by simp
    rw [eL] at e0 e1
    have hm : (a % ((l.length : Int) + 1)).toNat < (x :: l).length := by rw [List.length_cons]; omega
    have ea : L2.atI (D.int x :: List.map D.int l) (a % ((l.length : Int) + 1)) = some (.int ((x :: l)[(a % ((l.length : Int) + 1)).toNat])) := by
      rw [show D.int x :: List.map D.int l = List.map D.int (x :: l) from rfl, atI_of e0 (by rw [List.length_map, eL]; exact e1), List.getElem_map]
    simp only [wIx]
    exact ⟨_, _, rfl, ea, _, rfl, md _⟩
theorem p_law_draw {F : Fns} {k : Nat} {n : Int} {h : Hs} {Q : D → Hs → Prop} {Z : XD} (hs : SH k h) (hk : k ≤ 1000000) (h0 : 0 < n) (h1 : n ≤ 18446744073709551616) (q : ∀ r h', 0 ≤ r → r < n → SH (k + 1) h' → Q (.int r) h') : m_law_draw.d M F (startD 6 [.ref 0, .int n]) h (fin Q Z) := by
  obtain ⟨cells, a, b, c, rfl, hl, a0, ak, c0, ck⟩ := hs
  have m0 : ∀ i : Int, 0 ≤ i % n := fun i => Int.emod_nonneg _ (by omega)
  have m1 : ∀ i : Int, i % n < n := fun i => Int.emod_lt_of_pos _ h0
  have dv : ∀ i : Int, CDivA i n := fun i => .inr ⟨h0, by
    have := (Nat.log2_lt (n := n.natAbs) (k := 65) (by omega)).mpr (by omega)
    omega⟩
  have hmm : m_law_draw = .cons (.hset (.var 0) (.int 3) (.bin .add (.hix (.var 0) (.int 3)) (.int 1)))
    (.cons (.ite (.cmp .gt (.hix (.var 0) (.int 2)) (.int 0)) (.cons (.set 2 (.bin .mod (.b1 .int (.hix (.var 0) (.int 2))) (.var 1))) (.cons (.hset (.var 0) (.int 2) (.bin .fdiv (.hix (.var 0) (.int 2)) (.var 1))) (.cons (.ret (.var 2)) (.nil)))) (.nil))
    (.cons (.set 3 (.hix (.var 0) (.int 1))) (.cons (.hset (.var 0) (.int 1) (.bin .add (.var 3) (.int 1))) mC2))) := rfl
  rw [hmm]
  have mc := mC2_ok (F := F) (R := []) (n := n) (a := a) (b := b) (c := c + 1) (cells := cells) (w2 := none) (w4 := none) (w5 := none) (En := fin Q Z) hl a0 h0 h1 (by omega) (by omega) (fun r b' r0 r1 => q r _ r0 r1 ⟨cells, a + 1, b', c + 1, rfl, hl, by omega, by omega, by omega, by omega⟩)
  generalize mC2 = mc' at mc ⊢
  simp [Ss.d, S.d, E.d, E.t, startD, List.replicate_succ, dHset, dHix, wBin, wInt, L2.atI, L2.ixN, wCmp, wLt, wB1, wIntc, dv, h0]
  split
  · exact q _ _ (m0 _) (m1 _) ⟨cells, a, b / n, c + 1, rfl, hl, a0, by omega, by omega, by omega⟩
  · exact mc
theorem SH.mono {j k : Nat} {h : Hs} (s : SH j h) (l : j ≤ k) : SH k h := by
  obtain ⟨cells, a, b, c, e, hl, a0, ak, c0, ck⟩ := s
  exact ⟨cells, a, b, c, e, hl, a0, by omega, c0, by omega⟩
theorem SH.no {k : Nat} {h : Hs} (s : SH k h) : noSH h = true := by
  obtain ⟨cells, a, b, c, rfl, _⟩ := s
  have : ∀ l : List Int, hdS (l.map D.int) = false ∧ noSts (l.map D.int) = true := by
    intro l
    induction l with
    | nil => exact ⟨rfl, rfl⟩
    | cons x l ih => exact ⟨rfl, by simpa [noSts, noSt] using ih.2⟩
  simp [noSH, noSO, noSts, noSt, this cells]
def spSource : FnD := fun xs h P _ => match xs with
  | [.fro cs] => ∃ ns : List Int, cs = ns.map D.int ∧ h = [] ∧ ∀ h', SH 0 h' → P (.ref 0) h'
  | _ => False
theorem k_law_source {F : Fns} : Kp M F m_law_source 1 spSource := by
  intro xs h Q Z q0
  match xs, q0 with
  | [.fro cs], ⟨ns, hc, hh, q⟩ =>
    subst hc hh
    simp [m_law_source, Ss.d, S.d, E.d, Es.d, startD, dNewL, dSl, Oe.d, dNo, dPart, wSl, fin, lstW]
    refine ⟨by decide, q _ ⟨ns.take 63, 0, 0, 0, ?_, by rw [List.length_take]; omega, by omega, by omega, by omega, by omega⟩⟩
    have e := cutD_take (xs := ns.map D.int) (k := 63)
    rw [show ((63 : Nat) : Int) = 63 from rfl] at e
    rw [e, List.map_take]
theorem k_law_draw {F : Fns} : Kp M F m_law_draw 6 spDraw := by
  intro xs h Q Z q0
  match xs, q0 with
  | [.ref 0, .int n], ⟨k, hs, hk, h0, h1, q⟩ => exact p_law_draw hs hk h0 h1 q
/-- one of the rows -/
def spPick : FnD := fun xs h P _ => match xs with
  | [.ref 0, .lst rows] => ∃ k, SH k h ∧ k ≤ 1000000 ∧ 0 < rows.length ∧ rows.length ≤ 100000 ∧ ∀ r h', r ∈ rows → SH (k + 1) h' → P r h'
  | [.ref 0, .tup rows] => ∃ k, SH k h ∧ k ≤ 1000000 ∧ 0 < rows.length ∧ rows.length ≤ 100000 ∧ ∀ r h', r ∈ rows → SH (k + 1) h' → P r h'
  | _ => False
theorem k_law_pick {F : Fns} (f0 : F.f 12 = spDraw) : Kp M F m_law_pick 2 spPick := by
  intro xs h Q Z q0
  match xs, q0 with
  | [.ref 0, .lst rows], ⟨k, hs, hk, h0, h1, q⟩ =>
    simp [m_law_pick, Ss.d, S.d, E.d, Es.d, Es.len, startD, fin, f0, spDraw, wB1, wLen, seqW, lstW, tupW]
    refine ⟨k, hs, hk, by omega, by omega, fun r h' r0 r1 hs' => ?_⟩
    simp only [wIx]
    obtain ⟨r', rfl⟩ := Int.eq_ofNat_of_zero_le r0
    have hr : r' < rows.length := by omega
    exact ⟨rows, rows[r'], rfl, atI_n hr, rows[r'], rfl, q _ _ (List.getElem_mem hr) hs'⟩
  | [.ref 0, .tup rows], ⟨k, hs, hk, h0, h1, q⟩ =>
    simp [m_law_pick, Ss.d, S.d, E.d, Es.d, Es.len, startD, fin, f0, spDraw, wB1, wLen, seqW, lstW, tupW]
    refine ⟨k, hs, hk, by omega, by omega, fun r h' r0 r1 hs' => ?_⟩
    simp only [wIx]
    obtain ⟨r', rfl⟩ := Int.eq_ofNat_of_zero_le r0
    have hr : r' < rows.length := by omega
    exact ⟨rows, rows[r'], rfl, atI_n hr, rows[r'], rfl, q _ _ (List.getElem_mem hr) hs'⟩
end K
set_option maxHeartbeats 4000000
set_option exponentiation.threshold 2000
namespace K
open PySem DL DP CO
/-- texts of few plain signs -/
def okT (n : Nat) (s : Str) : Prop := s.length ≤ n ∧ ∀ c ∈ s.cps.toList, c < 128
theorem okT.mono {n m : Nat} {s : Str} (h : okT n s) (l : n ≤ m) : okT m s := ⟨Nat.le_trans h.1 l, h.2⟩
theorem okT.ok {n : Nat} {s : Str} (h : okT n s) : PyData.strOk s = true := by
  unfold PyData.strOk
  rw [Array.all_eq_true_iff_forall_mem]
  intro c hc
  have := h.2 c (by simpa using hc)
  simp; omega
theorem okT.shp {n : Nat} {s : Str} (h : okT n s) (hn : n ≤ 1000000) : SeqAt.shaped (.str s) = true := by
  simp [SeqAt.shaped, PyData.canLay0, PyData.depth, h.ok]
theorem slB {n : Nat} (h : n ≤ 10000000) : n ≤ sizeLine := by rw [sl24]; omega
def spW (b : Str → Bool) : FnD := fun xs h P _ => match xs with
  | [.str s] => okT 100000 s ∧ P (.bl (b s)) h
  | _ => False
def isLs (s : Str) : Bool := s.cps.toList.all fun c => decide (c ∈ lts)
theorem k_is_letters {F : Fns} (c0 : F.c 1 = .str "abcdefghijklmnopqrstuvwxyz") : Kp M F m_is_letters 2 (spW isLs) := by
  intro xs h Q Z q0
  match xs, q0 with
  | [.str s], ⟨ho, q⟩ =>
    simp [m_is_letters, Ss.d, S.d, E.d, Es.d, Es.len, Ic.d, Oe.t, startD, fin, w_str (x := .str s) rfl, isS]
    have hz : s.cps.size ≤ 100000 := ho.1
    unfold dLc dItS
    simp
    refine lc_map (fun x => .bl (isLets x)) _ [] (fun x hx Kp k => ?_) (by simp; exact slB (by omega)) ?_
    · simp at hx
      obtain ⟨c, hc, rfl⟩ := hx
      simp [isLets] at k
      simp [Tg.put, wipeD, E.d, c0, wCmp, wIn]
      simpa [lts] using k
    · simp [wB1, wAll, lstW]
      refine ⟨s.cps.toList.map fun c => decide (c ∈ lts), ?_, ?_⟩
      · simp [isLets]
      · simpa [List.all_map, Function.comp_def, isLs] using q
theorem k_is_letter {F : Fns} (f4 : F.f 0 = spW isLs) : Kp M F m_is_letter 1 (spW CO.isL) := by
  intro xs h Q Z q0
  match xs, q0 with
  | [.str s], ⟨ho, q⟩ =>
    simp [m_is_letter, Ss.d, S.d, E.d, Es.d, Es.len, startD, fin, f4, spW, ho]
    have hz : s.cps.size ≤ 100000 := ho.1
    cases hb : isLs s with
    | false =>
      have e : CO.isL s = false := by
        unfold isLs at hb
        unfold CO.isL
        rw [hb, Bool.and_false]
      rw [e] at q; simpa using q
    | true =>
      have e : CO.isL s = decide ((s.length : Int) = 1) := by
        unfold isLs at hb
        unfold CO.isL
        rw [hb, Bool.and_true]
        show decide (s.cps.size = 1) = decide ((s.cps.size : Int) = 1)
        exact decide_eq_decide.mpr (by omega)
      rw [e] at q
      simp [wB1, wLen, wCmp, wEq]
      exact ⟨slB (by show s.cps.size ≤ _; omega), by simpa using q⟩
def isDvS (s : Str) : Bool := decide (s ∈ (["fine", "coarse"] : List Str))
def isMnS (s : Str) : Bool := decide (s ∈ (["plain", "pending", "cut", "late"] : List Str))
theorem eqv_str {a b : Str} : PyData.eqv (.str a) (.str b) = decide (b = a) := by
  simp only [PyData.eqv]
  by_cases h : a = b
  · subst h; simp
  · rw [decide_eq_false (fun e => h e.symm)]
    simpa using h
theorem k_is_division {F : Fns} (c1 : F.c 2 = .wtp [.str "fine", .str "coarse"]) : Kp M F m_is_division 1 (spW isDvS) := by
  intro xs h Q Z q0
  match xs, q0 with
  | [.str s], ⟨ho, q⟩ =>
    simp [m_is_division, Ss.d, S.d, E.d, Es.d, Es.len, startD, fin, c1, w_str (x := .str s) rfl, isS]
    refine ⟨.str s, [.str "fine", .str "coarse"], by simp [pyW, toPy], .inr (by simp [pyW, toPy, toPys]), ho.shp (by decide), by decide +kernel, by decide +kernel, ?_⟩
    simpa [eqv_str, isDvS] using q
theorem k_is_manner {F : Fns} (c2 : F.c 3 = .wtp [.str "plain", .str "pending", .str "cut", .str "late"]) : Kp M F m_is_manner 1 (spW isMnS) := by
  intro xs h Q Z q0
  match xs, q0 with
  | [.str s], ⟨ho, q⟩ =>
    simp [m_is_manner, Ss.d, S.d, E.d, Es.d, Es.len, startD, fin, c2, w_str (x := .str s) rfl, isS]
    refine ⟨.str s, [.str "plain", .str "pending", .str "cut", .str "late"], by simp [pyW, toPy], .inr (by simp [pyW, toPy, toPys]), ho.shp (by decide), by decide +kernel, by decide +kernel, ?_⟩
    simpa [eqv_str, isMnS] using q
def digB : D → Bool
  | .str s => s.cps.toList.all fun c => decide (c ∈ digs)
  | _ => false
theorem k_is_number_word {F : Fns} (c4 : F.c 4 = .str "0123456789") : Kp M F m_is_number_word 2 (spW isNW) := by
  intro xs h Q Z q0
  match xs, q0 with
  | [.str s], ⟨ho, q⟩ =>
    have hz : s.cps.size ≤ 100000 := ho.1
    simp [m_is_number_word, Ss.d, S.d, E.d, E.t, Es.d, Es.len, Ic.d, Oe.t, startD, fin, wCmp, wEq]
    by_cases he : s = ""
    · rw [if_pos he]
      have : isNW s = false := by subst he; decide +kernel
      rw [this] at q; exact q
    · rw [if_neg he]
      unfold dLc dItS
      simp [c4]
      refine lc_map (fun x => .bl (digB x)) _ [] (fun x hx Kp k => ?_) (by simp; exact slB (by omega)) ?_
      · simp at hx
        obtain ⟨c, hc, rfl⟩ := hx
        simp [digB] at k
        simp [Tg.put, wipeD, E.d, c4, wCmp, wIn]
        simpa [digs] using k
      · have hne : s.cps.toList ≠ [] := fun e => he (TL.ext_tl e)
        obtain ⟨c, r, hcr⟩ := List.exists_cons_of_ne_nil hne
        have hl : s.length ≤ sizeLine := slB (by show s.cps.size ≤ _; omega)
        simp [wB1, wAll, lstW]
        refine ⟨s.cps.toList.map fun c => decide (c ∈ digs), by simp [digB], ?_⟩
        have e1 : (List.map (fun c => decide (c ∈ digs)) s.cps.toList).all id = (s.cps.toList.all fun c => decide (c ∈ digs)) := by simp [List.all_map, Function.comp_def]
        have e2 : (false ∈ List.map (fun c => decide (c ∈ digs)) s.cps.toList) ↔ (s.cps.toList.all fun c => decide (c ∈ digs)) = false := by
          rw [List.all_eq_false]; simp
        rw [e2]
        cases hb : (s.cps.toList.all fun c => decide (c ∈ digs)) with
        | false =>
          have : isNW s = false := by unfold isNW isNL; rw [hb, Bool.false_and]
          rw [this] at q
          exact .inl ⟨rfl, q⟩
        | true =>
          refine .inr ⟨by simp, ?_⟩
          by_cases h0 : s = "0"
          · have : isNW s = true := by subst h0; decide +kernel
            rw [this] at q
            refine .inr ⟨h0, ?_⟩
            simpa [h0] using q
          · refine .inl ⟨h0, ?_⟩
            simp only [wIx]
            refine ⟨hl, c, by rw [hcr]; simp [L2.atI, L2.ixN], ?_⟩
            show Q (D.bl !decide ((⟨#[c]⟩ : Str) = "0")) h
            have : isNW s = (!decide ((⟨#[c]⟩ : Str) = "0")) := by
              unfold isNW isNL
              rw [hb, Bool.true_and, hcr]
              cases r with
              | nil =>
                have hs : s = ⟨#[c]⟩ := TL.ext_tl hcr
                rw [← hs]
                simp [h0]
              | cons c2 r =>
                have : ((⟨#[c]⟩ : Str) = "0") ↔ c = 48 := by
                  have e : ("0" : Str) = ⟨#[48]⟩ := by decide +kernel
                  rw [e]; simp
                simp [this]
            rw [← this]; exact q
def spNums : FnD := fun xs h P _ => match xs with
  | [.str s] => okT 100000 s ∧ P (.lst ((numW s).toList.map intD)) h
  | _ => False
theorem k_numbers_in {F : Fns} (c5 : F.c 5 = .int 60) (f6 : F.f 4 = spW isNW) : Kp M F m_numbers_in 1 spNums := by
  intro xs h Q Z q0
  match xs, q0 with
  | [.str s], ⟨ho, q⟩ =>
    have hz : s.cps.size ≤ 100000 := ho.1
    have hl : s.length = s.cps.size := rfl
    have hs1 : 1 ≤ sizeLine := slB (by decide)
    simp [m_numbers_in, Ss.d, S.d, E.d, E.t, Es.d, Es.len, startD, fin, f6, spW, ho, c5]
    cases hn : isNW s with
    | false =>
      have : numW s = none := by unfold numW; simp [hn]
      rw [this] at q
      simpa using q
    | true =>
      simp [wB1, wLen, wCmp, wLt]
      refine ⟨slB (by omega), ?_⟩
      by_cases h60 : s.length ≤ 60
      · have e : numW s = some (NumText.digitsVal s.cps.toList) := by unfold numW; simp [hn, h60]
        have hi := numW_int e
        rw [e] at q
        have h60' : ¬ (60 : Int) < s.length := by omega
        simp [wIntc]
        exact .inr ⟨by omega, _, hi.1, by omega, hs1, by simpa [intD] using q⟩
      · have e : numW s = none := by unfold numW; simp [hn, h60]
        rw [e] at q
        have h60' : (60 : Int) < s.length := by omega
        exact .inl ⟨h60', by simpa using q⟩
def spWrit : FnD := fun xs h P _ => match xs with
  | [.str w, .str p] => okT 100000 w ∧ P (.lst (writ p w).toList) h
  | _ => False
theorem k_written_in {F : Fns} (c0 : F.c 0 = .str "end") (f3 : F.f 1 = spW CO.isL) (f4 : F.f 2 = spW isDvS) (f5 : F.f 3 = spW isMnS) (f7 : F.f 5 = spNums) : Kp M F m_written_in 3 spWrit := by
  intro xs h Q Z q0
  match xs, q0 with
  | [.str w, .str p], ⟨ho, q⟩ =>
    have hs1 : 1 ≤ sizeLine := slB (by decide)
    simp [m_written_in, Ss.d, S.d, E.d, E.t, Es.d, Es.len, startD, fin, f3, f4, f5, f7, c0, dMch, dPick]
    by_cases h1 : p = "letter"
    · subst h1
      rw [wr_let] at q
      simp [spW, ho]
      cases hb : CO.isL w <;> simp [hb] at q <;> simp [q, hs1]
    · rw [if_neg h1]
      by_cases h2 : p = "number"
      · subst h2
        rw [wr_num] at q
        simp [spNums, ho]
        cases hn : numW w <;> simpa [hn] using q
      · rw [if_neg h2]
        by_cases h3 : p = "count"
        · subst h3
          rw [wr_cnt] at q
          simp [spNums, ho, Ic.d, Oe.t, E.d, E.t, Es.d, Es.len, f7, dLc]
          unfold dItL
          simp [spNums, ho]
          cases hn : numW w with
          | none =>
            rw [hn] at q
            unfold lcD
            simpa using q
          | some k =>
            rw [hn] at q
            unfold lcD
            simp [intD, Tg.put, wipeD, wCmp, wLt]
            by_cases hk : 0 < k
            · simp [hk, hs1]
              unfold lcD
              exact ⟨hs1, by simpa [hk, intD] using q⟩
            · simp [hk]
              unfold lcD
              simpa [hk] using q
        · rw [if_neg h3]
          by_cases h4 : p = "next"
          · subst h4
            rw [wr_nxt] at q
            simp [spNums, ho, wCmp, wEq]
            by_cases hw : w = "end"
            · rw [if_pos hw] at q; simp [hw, hs1]; simpa using q
            · rw [if_neg hw] at q; simp [hw]; cases hn : numW w <;> simpa [hn] using q
          · rw [if_neg h4]
            by_cases h5 : p = "one division"
            · subst h5
              rw [wr_div] at q
              simp [spW, ho]
              cases hb : isDvS w
              · unfold isDvS at hb; rw [if_neg (of_decide_eq_false hb)] at q; simpa using q
              · unfold isDvS at hb; rw [if_pos (of_decide_eq_true hb)] at q; simpa [hs1] using q
            · rw [if_neg h5]
              by_cases h6 : p = "one manner"
              · subst h6
                rw [wr_man] at q
                simp [spW, ho]
                cases hb : isMnS w
                · unfold isMnS at hb; rw [if_neg (of_decide_eq_false hb)] at q; simpa using q
                · unfold isMnS at hb; rw [if_pos (of_decide_eq_true hb)] at q; simpa [hs1] using q
              · rw [if_neg h6]
                rw [wr_oth w (by simp only [parN, List.mem_cons, List.not_mem_nil, or_false, not_or]; exact ⟨h1, h2, h3, h4, h5, h6⟩)] at q
                simp [wCmp, wEq]
                by_cases hw : w = p
                · rw [if_pos hw] at q; simp [hw, hs1]; simpa [hw] using q
                · rw [if_neg hw] at q; simp [hw]; simpa using q
end K
set_option maxHeartbeats 4000000
set_option exponentiation.threshold 2000
namespace K
open PySem DL DP CO
theorem eq_nilG {n d : Nat} {xs : List D} {w : W} {Q : W → Prop} (b : Bds n d xs) (hd : d ≤ 60) (hw : w = .d (.lst xs) ∨ w = .new xs ∨ w = .own xs) (q : Q (.d (.bl xs.isEmpty))) : wData false w (.new []) Q := by
  have hl := b.lst
  have ts := toPys_pl b.pl
  have sh : SeqAt.shaped (pyD (.lst xs)) = true := by
    unfold SeqAt.shaped
    rw [lay_pl hl.pl, dep_pl]
    have := hl.dp
    simp; omega
  have hp : pyW w = some (pyD (.lst xs)) := by rcases hw with rfl | rfl | rfl <;> simp [pyW, toPy, ts, pyD]
  refine ⟨pyD (.lst xs), .list [], hp, by simp [pyW, toPys], sh, by decide +kernel, ?_⟩
  rw [if_neg (by decide)]
  cases xs with
  | nil => simpa [pyD, pyDs, PyData.eqv, PyData.eqvAll] using q
  | cons x l => simpa [pyD, pyDs, PyData.eqv, PyData.eqvAll] using q
theorem bd_okT {n : Nat} {s : Str} (h : okT n s) : Bd (10 * n + 2) 0 (.str s) := by
  refine ⟨by show PyData.strOk s = true; exact h.ok, ?_, by show 0 ≤ 0; omega⟩
  show 10 * s.cps.size + 2 ≤ _
  have : s.cps.size ≤ n := h.1
  omega
theorem dv_lt : ∀ (cs : List Nat) (a : Nat), (∀ c ∈ cs, 48 ≤ c ∧ c ≤ 57) → cs.foldl (fun acc c => acc * 10 + (c - 48)) a < (a + 1) * 10 ^ cs.length
  | [], a, _ => by simp
  | c :: cs, a, h => by
    have hc := h c (by simp)
    have := dv_lt cs (a * 10 + (c - 48)) (fun d hd => h d (List.mem_cons_of_mem _ hd))
    rw [List.foldl_cons, List.length_cons, Nat.pow_succ]
    refine Nat.lt_of_lt_of_le this ?_
    rw [Nat.mul_comm (10 ^ cs.length) 10, ← Nat.mul_assoc]
    exact Nat.mul_le_mul_right _ (by omega)
theorem numW_lt {w : Str} {n : Nat} (h : numW w = some n) : n < 10 ^ 60 := by
  unfold numW at h
  split at h
  · rename_i hh
    cases h
    have := dv_lt w.cps.toList 0 (nw_digits hh.1).1
    refine Nat.lt_of_lt_of_le this ?_
    rw [Nat.zero_add, Nat.one_mul]
    have hl : w.cps.toList.length ≤ 60 := by
      have : w.cps.toList.length = w.length := Array.length_toList
      omega
    exact Nat.pow_le_pow_right (by decide) hl
  · cases h
theorem bd_intD {n : Nat} (h : n < 10 ^ 60) : Bd 1003 0 (intD n) := bd_nat (Nat.lt_of_lt_of_le h (by decide +kernel))
theorem bd_writ {p w : Str} {d : D} (ho : okT 100000 w) (h : writ p w = some d) : Bd 1000002 0 d := by
  have hs : Bd 1000002 0 (.str w) := bd_okT ho
  have hn : ∀ n, numW w = some n → Bd 1000002 0 (intD n) := fun n e => (bd_intD (numW_lt e)).mono
  unfold writ at h
  split at h
  · split at h
    · cases h; exact hs
    · cases h
  split at h
  · cases e : numW w with
    | none => rw [e] at h; cases h
    | some n => rw [e] at h; cases h; exact hn n e
  split at h
  · cases e : numW w with
    | none => rw [e] at h; cases h
    | some n =>
      rw [e] at h
      simp at h
      obtain ⟨_, rfl⟩ := h
      exact hn n e
  split at h
  · split at h
    · cases h; exact bd_non.mono
    · cases e : numW w with
      | none => rw [e] at h; cases h
      | some n => rw [e] at h; cases h; exact hn n e
  split at h
  · split at h
    · cases h; exact hs
    · cases h
  split at h
  · split at h
    · cases h; exact hs
    · cases h
  split at h
  · cases h; exact hs
  · cases h
/-- the parts alone, whatever stands behind them -/
def vL : List Str → List Str → List D ⊕ Nat
  | [], _ => .inl []
  | _ :: _, [] => .inr 0
  | p :: ps, w :: ws => match writ p w with
    | none => .inr 0
    | some d => match vL ps ws with
      | .inl ds => .inl (d :: ds)
      | .inr k => .inr (k + 1)
theorem vV_vL : ∀ (ps ws : List Str), vV ps ws = (match vL ps ws with
    | .inl ds => if ps.length < ws.length then .inr ps.length else .inl ds
    | .inr k => .inr k)
  | [], [] => by simp [vV, vL]
  | [], _ :: _ => by simp [vV, vL]
  | _ :: _, [] => by simp [vV, vL]
  | p :: ps, w :: ws => by
    simp only [vV, vL, vV_vL ps ws]
    cases writ p w with
    | none => rfl
    | some d =>
      cases vL ps ws with
      | inl ds => by_cases h : ps.length < ws.length <;> simp [h]
      | inr k => rfl
def xnT (l k : Int) : Xn := ⟨0, [("field", .int k), ("line", .int l)]⟩
/-- the values, or the error -/
def outV (r : List D ⊕ Nat) (l f : Int) (h : Hs) (P : D → Hs → Prop) (Z : XD) : Prop := match r with
  | .inl ds => P (.lst ds) h
  | .inr k => Z (xnT l (f + k)) h
def spVals : FnD := fun xs h P Z => match xs with
  | [.lst ws', .wtp ps', .int l, .int f] => ∃ ws ps : List Str, ws' = ws.map D.str ∧ ps' = ps.map D.str ∧ (∀ w ∈ ws, okT 100000 w) ∧ ws.length ≤ 1000000 ∧ ps.length ≤ 10 ∧ outV (vV ps ws) l f h P Z
  | _ => False
def enF (k : Nat) (ps : List Str) : List D := (ps.zipIdx k).map fun p => .tup [.int (p.2 : Nat), .str p.1]
theorem enF_cons {k : Nat} {p : Str} {ps : List Str} : enF k (p :: ps) = .tup [.int (k : Nat), .str p] :: enF (k + 1) ps := by simp [enF]
theorem enF_0 {ps : List Str} : DL.enD (ps.map D.str) = enF 0 ps := by simp [DL.enD, enF, List.zipIdx_map, Function.comp_def]
theorem vals_loop {F : Fns} (f8 : F.f 6 = spWrit) {ws : List Str} {l f : Int} {w1 : Option W} {h : Hs} {E' : DEnds} (hw : ∀ w ∈ ws, okT 100000 w) (hl : ws.length ≤ 1000000) : ∀ (ps : List Str) (k : Nat) (found : List D) (w5 w6 w7 : Option W), found.length + ps.length ≤ 10 →
    (match vL ps (ws.drop k) with
      | .inl ds => ∀ w5 w6 w7, E'.nx [some (.d (.lst (ws.map D.str))), w1, some (.d (.int l)), some (.d (.int f)), some (.own (found ++ ds)), w5, w6, w7] h
      | .inr j => ∀ ds, E'.ex (xnT l (f + (k + j : Nat))) ds h) →
    forD (.tp (.cons (.nm 5) (.cons (.nm 6) (.nil)))) (m_values_of_B1.d M F) E' (enF k ps) [some (.d (.lst (ws.map D.str))), w1, some (.d (.int l)), some (.d (.int f)), some (.own found), w5, w6, w7] h
  | [], k, found, w5, w6, w7, hn, q => by
    simp only [vL] at q
    unfold forD
    simpa [enF] using q w5 w6 w7
  | p :: ps, k, found, w5, w6, w7, hn, q => by
    rw [enF_cons]
    unfold forD
    have ih := vals_loop (F := F) f8 (l := l) (f := f) (w1 := w1) (h := h) (E' := E') hw hl ps (k + 1)
    simp only [List.length_cons] at hn
    generalize hF : forD (.tp (.cons (.nm 5) (.cons (.nm 6) (.nil)))) (m_values_of_B1.d M F) E' (enF (k + 1) ps) = rest at ih ⊢
    simp [m_values_of_B1, Ss.d, S.d, E.d, E.t, Es.d, Es.len, f8, wB1, wLen, seqW, lstW, tupW, wCmp, wLt, wEq]
    refine ⟨rfl, ?_⟩
    by_cases hk : k < ws.length
    · rw [if_pos hk]
      have hd : ws.drop k = ws[k] :: ws.drop (k + 1) := List.drop_eq_getElem_cons hk
      rw [hd] at q
      simp only [vL] at q
      simp only [wIx]
      refine ⟨ws.map D.str, .str ws[k], rfl, by rw [atI_n (by simpa using hk)]; simp, .str ws[k], rfl, hw _ (List.getElem_mem hk), ?_⟩
      cases hr : writ p ws[k] with
      | none =>
        rw [hr] at q
        refine eq_nilG (d := 0) Bds.nil (by omega) (.inl rfl) ?_
        refine .inr ⟨rfl, ?_⟩
        simp [dRaise, M, wBin, wInt]
        simpa [xnT] using q _
      | some d =>
        rw [hr] at q
        refine eq_nilG (Bds.cons (bd_writ (hw _ (List.getElem_mem hk)) hr) (Bds.nil (d := 0))) (by omega) (.inl rfl) ?_
        refine .inl ⟨rfl, ?_⟩
        simp [m_values_of_T1, Ss.d, S.d, E.d, dExt]
        refine ⟨slB (by omega), ih (found ++ [d]) _ _ _ (by simp; omega) ?_⟩
        cases hv : vL ps (ws.drop (k + 1)) with
        | inl ds => rw [hv] at q; intro a b c; simpa using q a b c
        | inr j =>
          rw [hv] at q
          intro ds
          have := q ds
          rw [show k + (j + 1) = k + 1 + j by omega] at this
          exact this
    · rw [if_neg hk]
      have hd : ws.drop k = [] := List.drop_eq_nil_of_le (by omega)
      rw [hd] at q
      simp only [vL] at q
      refine eq_nilG (d := 0) Bds.nil (by omega) (.inl rfl) ?_
      refine .inr ⟨rfl, ?_⟩
      simp [dRaise, M, wBin, wInt]
      simpa [xnT] using q _
theorem k_values_of {F : Fns} (f8 : F.f 6 = spWrit) : Kp M F m_values_of 8 spVals := by
  intro xs h Q Z q0
  match xs, q0 with
  | [.lst ws', .wtp ps', .int l, .int f], ⟨ws, ps, e1, e2, hw, hl, hp, q⟩ =>
    subst e1 e2
    have lp := fun E' => vals_loop (F := F) f8 (ws := ws) (l := l) (f := f) (w1 := some (.d (.wtp (ps.map D.str)))) (h := h) (E' := E') hw hl ps 0 [] none none none (by simpa using hp)
    unfold m_values_of m_values_of_T2 m_values_of_T3
    generalize m_values_of_B1 = b at lp ⊢
    simp [Ss.d, S.d, E.d, E.t, Es.d, Es.len, Ic.d, dItEW, startD, List.replicate_succ, wB1, wLen, seqW, lstW, tupW, wCmp, wLt]
    rw [enF_0]
    refine lp _ ?_
    rw [List.drop_zero]
    rw [vV_vL] at q
    cases hv : vL ps ws with
    | inl ds =>
      rw [hv] at q
      intro w5 w6 w7
      simp only [List.nil_append]
      by_cases hc : ps.length < ws.length
      · simp only [if_pos hc, outV] at q
        simp [wLen, wLenW, seqW, lstW, hc, dRaise, M, wBin, wInt, fin]
        simpa [xnT] using q
      · simp only [if_neg hc, outV] at q
        simp [wLen, wLenW, seqW, lstW, hc, fin, dFrz]
        simpa using q
    | inr j =>
      rw [hv] at q
      intro ds
      simpa [outV, fin] using q
end K
set_option maxHeartbeats 4000000
set_option exponentiation.threshold 2000
namespace K
open PySem DL DP CO
theorem wd_ok {n : Nat} {t w : Str} (h : okT n t) (hw : w ∈ wd t) : okT n w := by
  obtain ⟨a, _, b⟩ := split_mem ey_sp hk_sp hw
  exact ⟨Nat.le_trans a h.1, fun c hc => h.2 c (b c hc)⟩
theorem ln_ok {n : Nat} {t w : Str} (h : okT n t) (hw : w ∈ ln t) : okT n w := by
  obtain ⟨a, _, b⟩ := split_mem ey_nl hk_nl hw
  exact ⟨Nat.le_trans a h.1, fun c hc => h.2 c (b c hc)⟩
def outE (r : List D ⊕ Nat) (l f : Int) (h : Hs) (P : D → Hs → Prop) (Z : XD) : Prop := match r with
  | .inl ds => P (.tup ds) h
  | .inr k => Z (xnT l (f + k)) h
def spEntR : FnD := fun xs h P Z => match xs with
  | [.str t, .int l, .int f] => okT 100000 t ∧ outE (vV enP (wd t)) l f h P Z
  | _ => False
theorem enP_len : enP.length = 3 := rfl
theorem k_entry_read {F : Fns} (c6 : F.c 6 = .wtp [.str "letter", .str "count", .str "next"]) (f9 : F.f 7 = spVals) : Kp M F m_entry_read 3 spEntR := by
  intro xs h Q Z q0
  match xs, q0 with
  | [.str t, .int l, .int f], ⟨ho, q⟩ =>
    have hl : t.length ≤ 100000 := ho.1
    simp [m_entry_read, Ss.d, S.d, E.d, Es.d, Es.len, startD, fin, dCallO, pick, f9, c6, dSpl, stW]
    refine ⟨by decide +kernel, slB (by omega), ?_⟩
    refine ⟨wd t, enP, rfl, rfl, fun w hw => wd_ok ho hw, ?_, by decide, ?_⟩
    · have := wd_len t; omega
    · cases hv : vV enP (wd t) with
      | inl ds => rw [hv] at q; simpa [outV, outE, wB1, wTuple, seqW, lstW] using q
      | inr k => rw [hv] at q; simpa [outV, outE] using q
def rowD (ws : List Str) : D := .lst (ws.map D.str)
def okR (ws : List Str) : Prop := ws ≠ [] ∧ ws.length ≤ 1000000 ∧ ∀ w ∈ ws, okT 100000 w
def outX (r : Option (Nat × Nat)) (d : D) (h : Hs) (P : D → Hs → Prop) (Z : XD) : Prop := match r with
  | none => P d h
  | some (n, k) => Z (xnT n k) h
def spCtxs : FnD := fun xs h P Z => match xs with
  | [.lst rows', .int f] => ∃ rows : List (List Str), rows' = rows.map rowD ∧ f = 3 ∧ 3 ≤ rows.length ∧ rows.length ≤ 1000000 ∧ (∀ ws ∈ rows, okR ws) ∧ outX (ftF 3 false (rows.drop 3)) (.tup ((bdC [] (rows.drop 3)).map cxD)) h P Z
  | _ => False
theorem rng_cons {lo : Int} {n : Nat} : rngD lo (n + 1) = .int lo :: rngD (lo + 1) n := by
  unfold rngD
  rw [List.range_succ_eq_map]
  simp [Function.comp_def]
  intro a _
  omega
def fdOk (n : Nat) (found : List (List En)) : Prop := found.length ≤ n ∧ ∀ es ∈ found, es.length ≤ n ∧ ∀ e ∈ es, Bd 2200 1 (CO.enD e)
theorem bd_found {found : List (List En)} (h : ∀ es ∈ found, ∀ e ∈ es, Bd 2200 1 (CO.enD e)) : ∃ n, Bds n 2 (found.map cxD) := by
  have : ∀ found : List (List En), (∀ es ∈ found, ∀ e ∈ es, Bd 2200 1 (CO.enD e)) → ∃ n, Bds n 2 (found.map cxD) := by
    intro found
    induction found with
    | nil => intro _; exact ⟨0, by simpa using (Bds.nil (d := 0)).mono⟩
    | cons es found ih =>
      intro h
      obtain ⟨n, hn⟩ := ih fun x hx => h x (List.mem_cons_of_mem _ hx)
      have : Bd _ 2 (cxD es) := (Bds.all (n := 2200) (d := 1) (xs := es.map CO.enD) fun x hx => by
        obtain ⟨e, he, rfl⟩ := List.mem_map.mp hx
        exact h es (by simp) e he).tup
      exact ⟨_, (Bds.cons this hn).mono (Nat.le_refl _) (by omega)⟩
  exact this found h
/-- a list ends -/
theorem last_ix {xs : List D} {d : D} : L2.atI (xs ++ [d]) (-1) = some d := by
  unfold L2.atI L2.ixN
  have e : (-1 + ((xs.length : Int) + 1)).toNat = xs.length := by omega
  have e2 : (1 : Int) ≤ (xs.length : Int) + 1 := by omega
  simp [e, e2]
theorem last_ixN {n : Nat} : L2.ixN (n + 1) (-1) = some n := by
  unfold L2.ixN
  simp
  omega
theorem bd_enW {ws : List Str} {ds : List D} (h : vV enP ws = .inl ds) : Bd 2200 1 (CO.enD (enW ws)) := by
  obtain ⟨l, c, n, k, rfl, hL, hC, hk, hn, _⟩ := vV_en h
  have b1 := bd_l hL
  have b2 : Bd 1003 0 (.int ((enW [l, c, n]).c)) := by
    show Bd 1003 0 (.int ((numG c : Nat) : Int))
    unfold numG
    rw [hC]
    exact bd_intD (numW_lt hC)
  have b3 : Bd 1003 0 (nxD (enW [l, c, n]).n) := by
    rcases hn with rfl | ⟨hn, j, hj⟩
    · have : (enW [l, c, "end"]).n = none := by simp [enW]
      rw [this]; exact bd_non.mono
    · have : (enW [l, c, n]).n = some j := by simp [enW, hn, numG, hj]
      rw [this]
      exact bd_intD (numW_lt hj)
  exact (Bds.cons b1 (Bds.cons b2 (Bds.cons b3 (Bds.nil (d := 0))))).tup.mono
theorem fd_add {n : Nat} {found : List (List En)} {ws : List Str} (hn : 3 ≤ n) (fd : fdOk n found) (hk : lnF n (!found.isEmpty) ws = none) : fdOk (n + 1) (addC found ws) := by
  have fl := fd.1
  rcases lnF_none hn hk with hc | ⟨h1, h2, ds, hd⟩
  · have : addC found ws = found ++ [[]] := by unfold addC; rw [hc]; simp
    rw [this]
    refine ⟨by simp; omega, fun es he => ?_⟩
    rcases List.mem_append.mp he with he | he
    · exact ⟨by have := (fd.2 es he).1; omega, (fd.2 es he).2⟩
    · simp at he; subst he; simp
  · rcases List.eq_nil_or_concat found with hf | ⟨init, lst, hf⟩
    · rw [hf] at h1; simp at h1
    · have : addC found ws = init ++ [lst ++ [enW ws]] := by unfold addC; rw [if_neg h2, hf]; simp
      rw [this]
      have hl := fd.2 lst (by rw [hf]; simp)
      have e : found.length = init.length + 1 := by rw [hf]; simp
      refine ⟨by simp; omega, fun es he => ?_⟩
      rcases List.mem_append.mp he with he | he
      · have := fd.2 es (by rw [hf]; simp [he])
        exact ⟨by omega, this.2⟩
      · simp at he; subst he
        refine ⟨by have := hl.1; simp; omega, fun e he => ?_⟩
        rcases List.mem_append.mp he with he | he
        · exact hl.2 e he
        · simp at he; subst he; exact bd_enW hd
section
variable {F : Fns} (f9 : F.f 7 = spVals) (c6 : F.c 6 = .wtp [.str "letter", .str "count", .str "next"]) (c8 : F.c 8 = .wtp [.str "context"])
include f9 c6 c8 in
theorem ctx_turnR {rows : List (List Str)} {n : Nat} {found : List (List En)} {w1 w4 w5 : Option W} {h : Hs} {E' : DEnds} (hn : 3 ≤ n) (hlt : n < rows.length) (ok : okR rows[n]) (fd : fdOk 1000000 found)
    (q1 : ∀ k ds, lnF n (!found.isEmpty) rows[n] = some k → E'.ex (xnT n k) ds h)
    (q2 : lnF n (!found.isEmpty) rows[n] = none → ∀ w4 w5, E'.nx [some (.d (.lst (rows.map rowD))), w1, some (.own ((addC found rows[n]).map cxD)), some (.d (.int n)), w4, w5] h) :
    m_contexts_in_B1.d M F [some (.d (.lst (rows.map rowD))), w1, some (.own (found.map cxD)), some (.d (.int n)), w4, w5] h E' := by
  obtain ⟨o1, o2, o3⟩ := ok
  obtain ⟨nb, bdf⟩ := bd_found fun es he => (fd.2 es he).2
  have lf := fd.1
  obtain ⟨w, r, hwr⟩ := List.exists_cons_of_ne_nil o1
  simp [m_contexts_in_B1, Ss.d, S.d, E.d, E.t, Es.d, Es.len, dDrop, dCallO, pick, Kq.d, f9, c6, c8, wCmp, wEq]
  simp only [wIx]
  refine ⟨rows.map rowD, rowD rows[n], rfl, by rw [atI_n (by simpa using hlt)]; simp, rowD rows[n], rfl, ?_⟩
  have e0 : L2.atI (rows[n].map D.str) 0 = some (.str w) := by rw [hwr]; simp [L2.atI, L2.ixN]
  refine ⟨rows[n].map D.str, .str w, rfl, e0, ?_⟩
  -- a row that must be the word
  have cA : (rows[n].head? = some ("context" : Str) ∨ (!found.isEmpty) = false) → ∀ (ds : DSt), spVals [rowD rows[n], D.wtp [D.str "context"], D.int n, D.int 0] h
      (fun d h3 => dApp 2 (dTup dNil) [some (.d (.lst (rows.map rowD))), w1, some (.own (found.map cxD)), some (.d (.int n)), some (.d (rowD rows[n])), w5] h3 { nx := fun ds' h' => E'.nx ds' h', rt := E'.rt, ex := E'.ex, bk := E'.bk, ct := E'.ct })
      (fun x h' => E'.ex x ds h') := fun hc ds => by
    have hp : lnP n (!found.isEmpty) rows[n] = [("context" : Str)] := by unfold lnP; rw [if_neg (by omega), if_pos hc]
    refine ⟨rows[n], [("context" : Str)], rfl, rfl, o3, o2, by decide, ?_⟩
    cases hv : vV [("context" : Str)] rows[n] with
    | inl vs =>
      have hct := vV_ct hv
      have hl : lnF n (!found.isEmpty) rows[n] = none := by unfold lnF; rw [hp, hv] <;> rfl
      have ha : addC found rows[n] = found ++ [[]] := by unfold addC; rw [hct]; simp
      have := q2 hl (some (.d (rowD rows[n]))) w5
      rw [ha] at this
      simp [outV, dApp]
      exact ⟨slB (by omega), by simpa [cxD] using this⟩
    | inr k =>
      have hl : lnF n (!found.isEmpty) rows[n] = some k := by unfold lnF; rw [hp, hv] <;> rfl
      simpa [outV] using q1 k ds hl
  have cB : ¬ (rows[n].head? = some ("context" : Str) ∨ (!found.isEmpty) = false) → ∀ (ds : DSt), spVals [rowD rows[n], D.wtp [D.str "letter", D.str "count", D.str "next"], D.int n, D.int 0] h
      (fun d h3 => wB1 B1.tuple (W.d d) fun z => ∃ d, toD z = some d ∧ dSix 2 (dOp1 wNeg (dC (D.int 1))) (dTup (starD F [(true, (E.var 2).ix (E.int 1).neg), (false, E.var 5)])) [some (.d (.lst (rows.map rowD))), w1, some (.own (found.map cxD)), some (.d (.int n)), some (.d (rowD rows[n])), some (.d d)] h3 { nx := fun ds' h' => E'.nx ds' h', rt := E'.rt, ex := E'.ex, bk := E'.bk, ct := E'.ct })
      (fun x h' => E'.ex x ds h') := fun hc ds => by
    have hp : lnP n (!found.isEmpty) rows[n] = enP := by unfold lnP; rw [if_neg (by omega), if_neg hc]
    refine ⟨rows[n], enP, rfl, rfl, o3, o2, by decide, ?_⟩
    cases hv : vV enP rows[n] with
    | inl vs =>
      obtain ⟨l, c, x, k, hws, _, _, _, _, hen⟩ := vV_en hv
      have hl : lnF n (!found.isEmpty) rows[n] = none := by unfold lnF; rw [hp, hv] <;> rfl
      rcases List.eq_nil_or_concat found with hf | ⟨init, lst, hf⟩
      · subst hf; simp at hc
      · have ha : addC found rows[n] = init ++ [lst ++ [enW rows[n]]] := by
          unfold addC
          rw [if_neg (fun e => hc (.inl e)), hf]; simp
        have := q2 hl (some (.d (rowD rows[n]))) (some (.d (CO.enD (enW rows[n]))))
        rw [ha] at this
        have li : L2.atI (found.map cxD) (-1) = some (cxD lst) := by rw [hf]; simp only [List.concat_eq_append, List.map_append, List.map_cons, List.map_nil]; exact last_ix
        have lx : L2.ixN (found.map cxD).length (-1) = some init.length := by rw [hf]; simp only [List.concat_eq_append, List.length_map, List.length_append, List.length_cons, List.length_nil]; exact last_ixN
        simp [outV, wB1, wTuple, seqW, lstW, tupW, dSix, starD, dStarC, E.d, wNeg]
        rw [hen]
        simp only [wIx]
        refine ⟨found.map cxD, cxD lst, rfl, li, lst.map CO.enD, .inr ⟨rfl, rfl⟩, ?_, init.length, by simpa using lx, ?_⟩
        · have := (fd.2 lst (by rw [hf]; simp)).1
          simp; exact slB (by omega)
        · have e : (found.map cxD).set init.length (D.tup (lst.map CO.enD ++ [CO.enD (enW rows[n])])) = (init ++ [lst ++ [enW rows[n]]]).map cxD := by
            rw [hf]; simp [cxD]
          rw [e]; exact this
    | inr k =>
      have hl : lnF n (!found.isEmpty) rows[n] = some k := by unfold lnF; rw [hp, hv] <;> rfl
      simpa [outV] using q1 k ds hl
  by_cases hw : w = "context"
  · have hc : rows[n].head? = some ("context" : Str) := by rw [hwr, hw] <;> rfl
    simpa [hw] using cA (.inl hc) _
  · have hc : rows[n].head? ≠ some ("context" : Str) := by rw [hwr]; simp [hw]
    have hw' : decide (w = ("context" : Str)) = false := decide_eq_false hw
    simp only [hw', if_neg hw]
    refine eq_nilG bdf (by omega) (.inr (.inr rfl)) ?_
    have em : (found.map cxD).isEmpty = found.isEmpty := by simp
    rw [em]
    cases hf : found.isEmpty with
    | true => exact .inr ⟨rfl, cA (.inr (by rw [hf] <;> rfl)) _⟩
    | false => exact .inl ⟨rfl, cB (by rw [hf]; simp [hc]) _⟩
include f9 c6 c8 in
theorem ctx_loopR {rows : List (List Str)} {w1 : Option W} {h : Hs} {E' : DEnds} (ok : ∀ ws ∈ rows, okR ws) (hl : rows.length ≤ 1000000) : ∀ (m n : Nat) (found : List (List En)) (w3 w4 w5 : Option W), 3 ≤ n → n + m = rows.length → fdOk n found →
    outX (ftF n (!found.isEmpty) (rows.drop n)) .non h (fun _ h => ∀ w3 w4 w5, E'.nx [some (.d (.lst (rows.map rowD))), w1, some (.own ((bdC found (rows.drop n)).map cxD)), w3, w4, w5] h) (fun x h => ∀ ds, E'.ex x ds h) →
    forD (.nm 3) (m_contexts_in_B1.d M F) E' (rngD n m) [some (.d (.lst (rows.map rowD))), w1, some (.own (found.map cxD)), w3, w4, w5] h
  | 0, n, found, w3, w4, w5, hn, e, fd, q => by
    have hd : rows.drop n = [] := List.drop_eq_nil_of_le (by omega)
    rw [hd] at q
    have : rngD (n : Int) 0 = [] := rfl
    rw [this]
    unfold forD
    simp only [ftF, if_neg (show ¬ n < 3 by omega), outX, bdC, List.foldl_nil] at q
    exact q _ _ _
  | m + 1, n, found, w3, w4, w5, hn, e, fd, q => by
    have hlt : n < rows.length := by omega
    have hd : rows.drop n = rows[n] :: rows.drop (n + 1) := List.drop_eq_getElem_cons hlt
    rw [hd] at q
    rw [rng_cons]
    unfold forD
    rw [put_nm]
    have h1 : n ≤ 1000000 := by omega
    refine ctx_turnR f9 c6 c8 (n := n) hn hlt (ok _ (List.getElem_mem hlt)) ⟨by have := fd.1; omega, fun es he => ⟨by have := (fd.2 es he).1; omega, (fd.2 es he).2⟩⟩ (fun k ds hk => ?_) (fun hk w4 w5 => ?_)
    · simp only [ftF, hk, outX] at q
      exact q ds
    · simp only [ftF, hk] at q
      have ih := ctx_loopR (E' := E') ok hl (w1 := w1) (h := h) m (n + 1) (addC found rows[n]) (some (.d (.int n))) w4 w5 (by omega) (by omega)
      rw [show ((n + 1 : Nat) : Int) = (n : Int) + 1 by push_cast; rfl] at ih
      have eh : hasN n (!found.isEmpty) rows[n] = !(addC found rows[n]).isEmpty := by
        rcases lnF_none hn hk with hc | ⟨h1, h2, _⟩
        · have : (addC found rows[n]).isEmpty = false := by unfold addC; rw [hc]; simp
          rw [this]
          simp [hasN, hc, show 2 < n by omega]
        · have : (addC found rows[n]).isEmpty = false := by unfold addC; rw [if_neg h2]; simp
          rw [this, hasN, h1] <;> rfl
      rw [eh] at q
      exact ih (fd_add hn fd hk) q
include f9 c6 c8 in
theorem k_contexts_in_ : Kp M F m_contexts_in 6 spCtxs := by
  intro xs h Q Z q0
  match xs, q0 with
  | [.lst rows', .int f], ⟨rows, e1, e2, l3, hl, ok, q⟩ =>
    subst e1 e2
    have lp := fun E' => ctx_loopR (E' := E') f9 c6 c8 (w1 := some (.d (.int 3))) (h := h) ok hl (rows.length - 3) 3 [] none none none (by omega) (by omega) ⟨by simp, by simp⟩
    unfold m_contexts_in m_contexts_in_T1
    generalize m_contexts_in_B1 = b at lp ⊢
    simp [Ss.d, S.d, E.d, E.t, Es.d, Es.len, Ic.d, dItR2, dCons, startD, List.replicate_succ, wB1, wLen, seqW, lstW, tupW]
    refine ⟨by omega, ?_⟩
    have em : (((rows.length : Int) - 3).toNat) = rows.length - 3 := by omega
    rw [em]
    refine lp _ ?_
    simp only [List.isEmpty_nil, Bool.not_true]
    cases hf : ftF 3 false (rows.drop 3) with
    | none =>
      rw [hf] at q
      simp only [outX] at q ⊢
      intro w3 w4 w5
      simpa [wTuple, seqW, lstW, fin] using q
    | some p =>
      rw [hf] at q
      intro ds
      simpa [outX, fin] using q
end
theorem k_contexts_in {F : Fns} (f9 : F.f 7 = spVals) (c6 : F.c 6 = .wtp [.str "letter", .str "count", .str "next"]) (c8 : F.c 8 = .wtp [.str "context"]) : Kp M F m_contexts_in 6 spCtxs := k_contexts_in_ f9 c6 c8
end K
set_option maxHeartbeats 4000000
set_option exponentiation.threshold 2000
namespace K
open PySem DL DP CO
def spCodR : FnD := fun xs h P Z => match xs with
  | [.str t] => okT 100000 t ∧ outX (ftR (rows t)) (coD (rdC (rows t))) h P Z
  | _ => False
def hdv (i : Nat) (ws : List Str) : D := match i with
  | 0 => intD (numG (ws.getD 1 Str.empty))
  | _ => .str (ws.getD 1 Str.empty)
theorem lnF3 {i : Nat} {has : Bool} {ws : List Str} (hi : i < 3) : lnF i has ws = ftV (vV (hdp i) ws) := by unfold lnF lnP; rw [if_pos hi]
theorem hd_val {i : Nat} {has : Bool} {ws : List Str} (hi : i < 3) (h : lnF i has ws = none) : ∃ d, vV (hdp i) ws = .inl [d, hdv i ws] := by
  rw [lnF3 hi] at h
  obtain ⟨ds, hd⟩ := ftV_none h
  have hl := (vV_len hd).1
  have hp : (hdp i).length = 2 := by unfold hdp; split <;> rfl
  rw [hp] at hl
  match ws, hl with
  | [a, b], _ =>
    match i, hi with
    | 0, _ =>
      simp only [hdp, vV, wr_num] at hd
      cases hn : numW b with
      | none => rw [hn] at hd; cases hw : writ "size" a <;> simp [hw] at hd
      | some n =>
        rw [hn] at hd
        cases hw : writ "size" a with
        | none => simp [hw] at hd
        | some d =>
          refine ⟨d, ?_⟩
          simp [hdp, vV, wr_num, hw, hn, hdv, numG]
    | 1, _ =>
      simp only [hdp, vV, wr_div] at hd
      by_cases hb : b ∈ (["fine", "coarse"] : List Str)
      · cases hw : writ "division" a with
        | none => simp [hw] at hd
        | some d =>
          refine ⟨d, ?_⟩
          simp only [hdp, vV, wr_div, hw, if_pos hb]
          rfl
      · rw [if_neg hb] at hd; cases hw : writ "division" a <;> simp [hw] at hd
    | 2, _ =>
      simp only [hdp, vV, wr_man] at hd
      by_cases hb : b ∈ (["plain", "pending", "cut", "late"] : List Str)
      · cases hw : writ "manner" a with
        | none => simp [hw] at hd
        | some d =>
          refine ⟨d, ?_⟩
          simp only [hdp, vV, wr_man, hw, if_pos hb]
          rfl
      · rw [if_neg hb] at hd; cases hw : writ "manner" a <;> simp [hw] at hd
theorem rows_ok {t : Str} (h : okT 100000 t) : ∀ ws ∈ rows t, okR ws := by
  intro ws hw
  obtain ⟨l, hl, rfl⟩ := List.mem_map.mp hw
  have hl' := ln_ok h hl
  refine ⟨wd_ne l, ?_, fun w hw => wd_ok hl' hw⟩
  have := wd_len l
  have := hl'.1
  omega
theorem rows_len {t : Str} (h : okT 100000 t) : (rows t).length ≤ 100001 := by
  unfold rows
  rw [List.length_map]
  have := ln_len t
  have := h.1
  omega
theorem rows_ne (t : Str) : rows t ≠ [] := by unfold rows; simp [ln_ne t]
section
variable {F : Fns} (f9 : F.f 7 = spVals)
def stH (rs : List (List Str)) (w0 : Option W) (hs : List D) (w3 w4 w5 w6 : Option W) : DSt := [w0, some (.d (.lst (rs.map rowD))), some (.own hs), w3, w4, w5, w6, none, none, none, none]
include f9 in
theorem head_turn {rs : List (List Str)} {i : Nat} {w0 w5 w6 : Option W} {hs : List D} {h : Hs} {E' : DEnds} (hi : i < 3) (hle : i ≤ rs.length) (ok : ∀ ws ∈ rs, okR ws) (lh : hs.length ≤ 10)
    (q0 : i = rs.length → ∀ ds, E'.ex (xnT i 0) ds h)
    (q1 : ∀ (hl : i < rs.length) k, lnF i false rs[i] = some k → ∀ ds, E'.ex (xnT i k) ds h)
    (q2 : ∀ (hl : i < rs.length), lnF i false rs[i] = none → ∀ w3 w4 w5 w6, E'.nx (stH rs w0 (hs ++ [hdv i rs[i]]) w3 w4 w5 w6) h) :
    m_coder_read_B1.d M F (stH rs w0 hs (some (.d (.int i))) (some (.d (.wtp ((hdp i).map D.str)))) w5 w6) h E' := by
  unfold stH at q2 ⊢
  simp [m_coder_read_B1, m_coder_read_T1, Ss.d, S.d, E.d, E.t, Es.d, Es.len, dCallO, pick, Kq.d, f9, wCmp, wEq, wB1, wLen, seqW, lstW, tupW, dAsgL]
  by_cases he : i = rs.length
  · have hii : (i : Int) = (rs.length : Int) := by exact_mod_cast he
    rw [if_pos hii]
    simp [dRaise, M]
    simpa [xnT] using q0 he _
  · have hii : ¬ (i : Int) = (rs.length : Int) := by exact_mod_cast he
    rw [if_neg hii]
    have hlt : i < rs.length := by omega
    obtain ⟨o1, o2, o3⟩ := ok _ (List.getElem_mem hlt)
    simp only [wIx]
    refine ⟨rs.map rowD, rowD rs[i], rfl, by rw [atI_n (by simpa using hlt)]; simp, rowD rs[i], rfl, ?_⟩
    have hp : (hdp i).length ≤ 10 := by unfold hdp; split <;> decide
    refine ⟨rs[i], hdp i, rfl, rfl, o3, o2, hp, ?_⟩
    cases hl : lnF i false rs[i] with
    | none =>
      obtain ⟨d, hd⟩ := hd_val hi hl
      rw [hd]
      simp [outV, dAsgL, Tgs.len, Tgs.put, Tg.put, dApp]
      exact ⟨_, _, ⟨rfl, rfl⟩, _, _, rfl, rfl, slB (by have := hlt; omega), q2 hlt hl _ _ _ _⟩
    | some k =>
      rw [lnF3 hi] at hl
      cases hv : vV (hdp i) rs[i] with
      | inl ds => rw [hv] at hl; cases hl
      | inr k2 =>
        simpa [outV] using q1 hlt k2 (by rw [lnF3 hi, hv] <;> rfl) _
include f9 in
theorem k_coder_read_ (c7 : F.c 7 = .wtp [.wtp [.str "size", .str "number"], .wtp [.str "division", .str "one division"], .wtp [.str "manner", .str "one manner"]]) (f11 : F.f 9 = spCtxs) : Kp M F m_coder_read 11 spCodR := by
  intro xs h Q Z q0
  match xs, q0 with
  | [.str t], ⟨ho, q⟩ =>
    have hl : t.length ≤ 100000 := ho.1
    have ok := rows_ok ho
    have rl := rows_len ho
    have rn : 0 < (rows t).length := List.length_pos_iff.mpr (rows_ne t)
    have ht := fun i hs w5 w6 E' hi hle lh => head_turn f9 (rs := rows t) (i := i) (w0 := some (.d (.str t))) (w5 := w5) (w6 := w6) (hs := hs) (h := h) (E' := E') hi hle ok lh
    unfold m_coder_read m_coder_read_T2
    generalize m_coder_read_B1 = b at ht ⊢
    simp [Ss.d, S.d, E.d, E.t, Es.d, Es.len, Ic.d, Oe.t, dLc, startD, List.replicate_succ, dSpl]
    unfold dItL
    simp [dSpl]
    refine ⟨by decide +kernel, slB (by omega), ?_⟩
    have hln : (Txt.split t (Str.ofString "\n")).length ≤ 100001 := by have := ln_len t; unfold ln at this; omega
    refine lc_map (fun x => match x with | .str r => rowD (wd r) | _ => .non) _ [] (fun x hx Kp k => ?_) (by simp; exact slB (by omega)) ?_
    · obtain ⟨r, hr, rfl⟩ := List.mem_map.mp hx
      have := ln_mem hr
      simp [Tg.put, wipeD, dSpl]
      exact ⟨by decide +kernel, slB (by omega), k⟩
    · have er : List.map (fun x => match x with | .str r => rowD (wd r) | _ => .non) ((Txt.split t (Str.ofString "\n")).map D.str) = (rows t).map rowD := by
        unfold rows ln; simp [Function.comp_def]
      rw [List.nil_append, er, c7]
      have e3 : DL.enD [D.wtp [D.str "size", D.str "number"], D.wtp [D.str "division", D.str "one division"], D.wtp [D.str "manner", D.str "one manner"]] = [.tup [.int (0 : Nat), .wtp ((hdp 0).map D.str)], .tup [.int (1 : Nat), .wtp ((hdp 1).map D.str)], .tup [.int (2 : Nat), .wtp ((hdp 2).map D.str)]] := rfl
      refine ⟨_, rfl, _, rfl, ?_⟩
      show forD _ _ _ (DL.enD _) _ h
      rw [e3]
      have pt : ∀ (i : Nat) (R : DSt → Prop) (rs : List (List Str)) (w0 w3 w4 w5 w6 : Option W) (hs : List D), R (stH rs w0 hs (some (.d (.int i))) (some (.d (.wtp ((hdp i).map D.str)))) w5 w6) → (Tg.tp (Tgs.cons (Tg.nm 3) (Tgs.cons (Tg.nm 4) Tgs.nil))).put (.tup [.int i, .wtp ((hdp i).map D.str)]) (stH rs w0 hs w3 w4 w5 w6) R := fun i R rs w0 w3 w4 w5 w6 hs r => by
        refine ⟨_, rfl, rfl, _, _, rfl, _, _, rfl, rfl, r⟩
      generalize rows t = R at *
      match R, rn with
      | r0 :: R1, _ =>
        unfold forD
        refine pt 0 _ (r0 :: R1) _ none none none none [] ?_
        unfold ftR at q
        refine ht 0 [] none none _ (by decide) (by omega) (by simp) (fun e => by simp at e) (fun hl k hk ds => ?_) (fun hl hk w3 w4 w5 w6 => ?_)
        · simp only [List.getElem_cons_zero] at hk
          simp only [ftF, hk, outX] at q
          exact q
        simp only [List.getElem_cons_zero] at hk
        simp only [ftF, hk, hasN] at q
        simp at q
        have em1 : ∀ p : Nat × Nat, outX (some p) (coD (rdC (r0 :: R1))) h Q Z = Z (xnT p.1 p.2) h := fun p => rfl
        show forD _ _ _ _ _ _
        unfold forD
        refine pt 1 _ (r0 :: R1) _ _ _ _ _ _ ?_
        refine ht 1 _ _ _ _ (by decide) (by simp) (by simp) (fun e ds => ?_) (fun hl k hk ds => ?_) (fun hl hk1 w3 w4 w5 w6 => ?_)
        · have : R1 = [] := by simpa using e
          subst this
          simpa [ftF, outX, fin] using q
        · match R1, hl with
          | r1 :: R2, _ =>
            simp only [List.getElem_cons_succ, List.getElem_cons_zero] at hk
            simp only [ftF, hk, outX] at q
            exact q
        match R1, hl with
        | r1 :: R2, _ =>
          simp only [List.getElem_cons_succ, List.getElem_cons_zero] at hk1
          simp only [ftF, hk1, hasN] at q
          simp at q
          show forD _ _ _ _ _ _
          unfold forD
          refine pt 2 _ (r0 :: r1 :: R2) _ _ _ _ _ _ ?_
          refine ht 2 _ _ _ _ (by decide) (by simp) (by simp) (fun e ds => ?_) (fun hl k hk ds => ?_) (fun hl hk2 w3 w4 w5 w6 => ?_)
          · have : R2 = [] := by simpa using e
            subst this
            simpa [ftF, outX, fin] using q
          · match R2, hl with
            | r2 :: R3, _ =>
              simp only [List.getElem_cons_succ, List.getElem_cons_zero] at hk
              simp only [ftF, hk, outX] at q
              exact q
          match R2, hl with
          | r2 :: R3, _ =>
            simp only [List.getElem_cons_succ, List.getElem_cons_zero] at hk2
            simp only [ftF, hk2, hasN] at q
            simp at q
            show forD _ _ _ _ _ _
            unfold forD
            simp [stH, dFrz, dAsgL, Tgs.put, Tg.put, Tgs.len, wLenW, f11, spCtxs, fin]
            refine ⟨_, _, ⟨rfl, rfl⟩, _, _, rfl, _, _, rfl, rfl, r0 :: r1 :: r2 :: R3, rfl, by simp, by omega, ok, ?_⟩
            simp only [List.drop_succ_cons, List.drop_zero] at q ⊢
            cases hf : ftF 3 false R3 with
            | none =>
              rw [hf] at q
              exact ⟨slB (by decide), q⟩
            | some p => rw [hf] at q; exact q
end
theorem k_coder_read {F : Fns} (f9 : F.f 7 = spVals) (c7 : F.c 7 = .wtp [.wtp [.str "size", .str "number"], .wtp [.str "division", .str "one division"], .wtp [.str "manner", .str "one manner"]]) (f11 : F.f 9 = spCtxs) : Kp M F m_coder_read 11 spCodR := k_coder_read_ f9 c7 f11
end K
set_option maxHeartbeats 4000000
set_option exponentiation.threshold 2000
namespace K
open PySem DL DP CO
theorem lts_iff {c : Nat} : c ∈ lts ↔ 97 ≤ c ∧ c ≤ 122 := by
  have e : lts = (List.range 26).map (· + 97) := by decide +kernel
  rw [e]
  constructor
  · intro h
    obtain ⟨i, hi, rfl⟩ := List.mem_map.mp h
    have := List.mem_range.mp hi
    omega
  · intro h
    exact List.mem_map.mpr ⟨c - 97, List.mem_range.mpr (by omega), by omega⟩
theorem lt1 {a b : Nat} : ([a] : List Nat) < [b] ↔ a < b := by simp [List.cons_lt_cons_iff]
def isNW60 (s : Str) : Bool := (numW s).isSome
theorem nw60_eq (s : Str) : isNW60 s = (isNW s && decide (s.length ≤ 60)) := by
  unfold isNW60 numW
  cases isNW s <;> by_cases h : s.length ≤ 60 <;> simp [h]
theorem ne_nilG {n d : Nat} {xs : List D} {w : W} {Q : W → Prop} (b : Bds n d xs) (hd : d ≤ 60) (hw : w = .d (.lst xs) ∨ w = .new xs ∨ w = .own xs) (q : Q (.d (.bl (!xs.isEmpty)))) : wData true w (.new []) Q := by
  have hl := b.lst
  have ts := toPys_pl b.pl
  have sh : SeqAt.shaped (pyD (.lst xs)) = true := by
    unfold SeqAt.shaped
    rw [lay_pl hl.pl, dep_pl]
    have := hl.dp
    simp; omega
  have hp : pyW w = some (pyD (.lst xs)) := by rcases hw with rfl | rfl | rfl <;> simp [pyW, toPy, ts, pyD]
  refine ⟨pyD (.lst xs), .list [], hp, by simp [pyW, toPys], sh, by decide +kernel, ?_⟩
  rw [if_pos rfl]
  cases xs with
  | nil => simpa [pyD, pyDs, PyData.eqv, PyData.eqvAll] using q
  | cons x l => simpa [pyD, pyDs, PyData.eqv, PyData.eqvAll] using q
theorem nw_head {s : Str} {c : Nat} {r : List Nat} (hb : (s.cps.toList.all fun c => decide (c ∈ digs)) = true) (h0 : ¬ s = "0") (hcr : s.cps.toList = c :: r) : isNW s = (!decide ((⟨#[c]⟩ : Str) = "0")) := by
  unfold isNW isNL
  rw [hb, Bool.true_and, hcr]
  cases r with
  | nil =>
    have hs : s = ⟨#[c]⟩ := TL.ext_tl hcr
    rw [← hs]
    simp [h0]
  | cons c2 r =>
    have : ((⟨#[c]⟩ : Str) = "0") ↔ c = 48 := by
      have e : ("0" : Str) = ⟨#[48]⟩ := by decide +kernel
      rw [e]; simp
    simp [this]
theorem k_law_is_number_word {F : Fns} : Kp M F m_law_is_number_word 2 (spW isNW60) := by
  intro xs h Q Z q0
  match xs, q0 with
  | [.str s], ⟨ho, q⟩ =>
    have hz : s.cps.size ≤ 100000 := ho.1
    have hl : s.length ≤ sizeLine := slB (by show s.cps.size ≤ _; omega)
    rw [nw60_eq] at q
    simp [m_law_is_number_word, m_law_is_number_word_T1, Ss.d, S.d, E.d, E.t, Es.d, Es.len, Ic.d, Oe.t, startD, fin, wCmp, wEq, wB1, wLen, wLt]
    by_cases he : s = ""
    · rw [if_pos he]
      have : isNW s = false := by subst he; decide +kernel
      rw [this] at q; simpa using q
    · rw [if_neg he]
      refine ⟨hl, ?_⟩
      by_cases h60 : s.length ≤ 60
      · have h60' : ¬ (60 : Int) < s.length := by omega
        rw [if_neg h60']
        rw [decide_eq_true h60, Bool.and_true] at q
        unfold dLc dItS
        simp
        refine lc_fil (fun x => !digB x) id _ [] (fun x hx Kt Kf k1 k2 => ?_) (by simp; exact slB (by omega)) ?_
        · simp at hx
          obtain ⟨c, hc, rfl⟩ := hx
          simp [digB, digs] at k1 k2
          simp [Tg.put, wipeD, wCmp, wIn]
          by_cases hd : c ∈ ("0123456789" : Str).cps
          · exact .inl ⟨hd, k2 hd⟩
          · exact .inr ⟨hd, k1 hd⟩
        · have hne : s.cps.toList ≠ [] := fun e => he (TL.ext_tl e)
          obtain ⟨c, r, hcr⟩ := List.exists_cons_of_ne_nil hne
          obtain ⟨fl, hfl, hsub⟩ : ∃ fl, [] ++ List.map id (List.filter (fun x => !digB x) (List.map (fun c => D.str ⟨#[c]⟩) s.cps.toList)) = fl ∧ ∀ x ∈ fl, ∃ c ∈ s.cps.toList, x = D.str ⟨#[c]⟩ := by
            refine ⟨_, rfl, fun x hx => ?_⟩
            simp at hx
            obtain ⟨⟨c, hc, rfl⟩, _⟩ := hx
            exact ⟨c, by simpa using hc, rfl⟩
          have hem : fl.isEmpty = (s.cps.toList.all fun c => decide (c ∈ digs)) := by
            rw [← hfl]
            cases hb : (s.cps.toList.all fun c => decide (c ∈ digs)) with
            | true =>
              simp only [List.all_eq_true, decide_eq_true_eq] at hb
              simp [List.isEmpty_iff, digB]
              simpa using hb
            | false =>
              rw [List.all_eq_false] at hb
              obtain ⟨c, hc, hd⟩ := hb
              simp only [decide_eq_true_eq] at hd
              have : D.str ⟨#[c]⟩ ∈ List.filter (fun x => !digB x) (List.map (fun c => D.str ⟨#[c]⟩) s.cps.toList) := by
                rw [List.mem_filter]
                exact ⟨List.mem_map.mpr ⟨c, hc, rfl⟩, by simp [digB, hd]⟩
              rw [List.nil_append, List.map_id]
              cases hh : List.filter (fun x => !digB x) (List.map (fun c => D.str ⟨#[c]⟩) s.cps.toList) with
              | nil => rw [hh] at this; cases this
              | cons a l => rfl
          rw [hfl]
          refine ne_nilG (n := _) (d := 0) (Bds.all (n := 12) fun x hx => ?_) (by omega) (.inr (.inl rfl)) ?_
          · obtain ⟨c, hc, rfl⟩ := hsub x hx
            exact (bd_okT (n := 1) ⟨by show 1 ≤ 1; omega, fun a ha => by simp at ha; subst ha; exact ho.2 _ hc⟩).mono
          rw [hem]
          cases hb : (s.cps.toList.all fun c => decide (c ∈ digs)) with
          | false =>
            have : isNW s = false := by unfold isNW isNL; rw [hb, Bool.false_and]
            rw [this] at q
            exact .inr ⟨rfl, q⟩
          | true =>
            refine .inl ⟨rfl, ?_⟩
            by_cases h0 : s = "0"
            · have : isNW s = true := by subst h0; decide +kernel
              rw [this] at q
              refine .inr ⟨h0, ?_⟩
              simpa [h0] using q
            · refine .inl ⟨h0, ?_⟩
              simp only [wIx]
              refine ⟨hl, c, by rw [hcr]; simp [L2.atI, L2.ixN], ?_⟩
              show Q (D.bl !decide ((⟨#[c]⟩ : Str) = "0")) h
              rw [← nw_head hb h0 hcr]; exact q
      · have h60' : (60 : Int) < s.length := by omega
        rw [if_pos h60']
        rw [decide_eq_false h60, Bool.and_false] at q
        exact q
end K
set_option maxHeartbeats 4000000
set_option exponentiation.threshold 2000
namespace K
open PySem DL DP CO
def spStand : FnD := fun xs h P _ => match xs with
  | [.str s, .int k] => ∃ j : Nat, k = j ∧ j < 3 ∧ okT 100000 s ∧ P (.bl (stB j s)) h
  | _ => False
theorem k_law_can_stand {F : Fns} (f0 : F.f 18 = spW isNW60) : Kp M F m_law_can_stand 2 spStand := by
  intro xs h Q Z q0
  match xs, q0 with
  | [.str s, .int k], ⟨j, hkj, hj, ho, q⟩ =>
    subst hkj
    have hz : s.cps.size ≤ 100000 := ho.1
    have hl : s.length ≤ sizeLine := slB (by show s.cps.size ≤ _; omega)
    match j, hj with
    | 0, _ =>
      simp [m_law_can_stand, Ss.d, S.d, E.d, E.t, Es.d, Es.len, startD, fin, f0, wCmp, wEq, wB1, wLen, dChainV]
      obtain ⟨⟨l⟩⟩ := s
      have e0 : stB 0 ⟨⟨l⟩⟩ = (decide (l.length = 1) && l.all fun c => decide (c ∈ lts)) := by simp [stB, CO.isL]
      rw [e0] at q
      refine ⟨hl, ?_⟩
      have el : (((⟨⟨l⟩⟩ : Str).length : Nat) : Int) = l.length := rfl
      rw [el]
      match l, q with
      | [], q => simpa using q
      | [c], q =>
        simp [wLt]
        have ea : ("a" : Str).cps.toList = [97] := by decide +kernel
        have ez : ("z" : Str).cps.toList = [122] := by decide +kernel
        simp [ea, ez, lts_iff] at q ⊢
        by_cases h1 : c < 97
        · have e1 : decide (97 ≤ c) = false := decide_eq_false (by omega)
          rw [e1, Bool.false_and] at q
          exact .inl ⟨lt1.mpr h1, q⟩
        · have e1 : decide (97 ≤ c) = true := decide_eq_true (by omega)
          have e2 : (!decide (([122] : List Nat) < [c])) = decide (c ≤ 122) := by
            by_cases h2 : c ≤ 122
            · have : ¬ ([122] : List Nat) < [c] := fun z => by have := lt1.mp z; omega
              rw [decide_eq_false this, decide_eq_true h2] <;> rfl
            · have : ([122] : List Nat) < [c] := lt1.mpr (by omega)
              rw [decide_eq_true this, decide_eq_false h2] <;> rfl
          rw [e1, Bool.true_and] at q
          exact .inr ⟨fun z => h1 (lt1.mp z), by rw [e2]; exact q⟩
      | a :: b :: l, q =>
        have hne : ¬ (((l.length : Nat) : Int) + 1 + 1 = 1) := by omega
        have q' : Q (D.bl false) h := by simpa using q
        simp
        refine .inl ⟨hne, ?_⟩
        rw [decide_eq_false hne]
        exact q'
    | 1, _ =>
      simp [m_law_can_stand, Ss.d, S.d, E.d, E.t, Es.d, Es.len, startD, fin, f0, spW, ho, wCmp, wEq]
      simp [stB] at q
      cases hn : isNW60 s with
      | false => unfold isNW60 at hn; simpa [hn] using q
      | true => unfold isNW60 at hn; simpa [hn] using q
    | 2, _ =>
      simp [m_law_can_stand, Ss.d, S.d, E.d, E.t, Es.d, Es.len, startD, fin, f0, spW, ho, wCmp, wEq]
      simp [stB] at q
      by_cases hw : s = "end"
      · simpa [hw] using q
      · simp [hw]; simpa [hw, isNW60] using q
def ftD : Option Nat → D
  | none => .non
  | some k => .int k
def spEnF : FnD := fun xs h P _ => match xs with
  | [.str t] => okT 100000 t ∧ P (ftD (ftV (vV enP (wd t)))) h
  | _ => False
theorem enf_loop {F : Fns} (f0 : F.f 19 = spStand) {ws : List Str} {w0 : Option W} {h : Hs} {E' : DEnds} (ok : ∀ w ∈ ws, okT 100000 w) : ∀ (m k : Nat) (w2 : Option W), k + m = ws.length → k ≤ 3 → (∀ j (h1 : j < enP.length) (h2 : j < ws.length), j < k → (writ enP[j] ws[j]).isSome = true) →
    (∀ k : Nat, ftV (vV enP ws) = some k → k < ws.length → E'.rt (.int k) h) →
    (∀ w2, (∀ j (h1 : j < enP.length) (h2 : j < ws.length), j < ws.length → (writ enP[j] ws[j]).isSome = true) → ws.length ≤ 3 → E'.nx [w0, some (.d (.lst (ws.map D.str))), w2] h) →
    forD (.nm 2) (m_law_entry_fault_B1.d M F) E' (rngD k m) [w0, some (.d (.lst (ws.map D.str))), w2] h
  | 0, k, w2, e, hk, hs, q1, q2 => by
    have : rngD (k : Int) 0 = [] := rfl
    rw [this]
    unfold forD
    exact q2 w2 (fun j h1 h2 h3 => hs j h1 h2 (by omega)) (by omega)
  | m + 1, k, w2, e, hk, hs, q1, q2 => by
    have hlt : k < ws.length := by omega
    rw [rng_cons]
    unfold forD
    rw [put_nm]
    have va := vV_at k enP ws hk (by omega) hs
    have ih := fun w2 => enf_loop f0 (w0 := w0) (h := h) (E' := E') ok m (k + 1) w2 (by omega)
    rw [show ((k + 1 : Nat) : Int) = (k : Int) + 1 by push_cast; rfl] at ih
    generalize forD (.nm 2) (m_law_entry_fault_B1.d M F) E' (rngD ((k : Int) + 1) m) = rest at ih ⊢
    simp [m_law_entry_fault_B1, Ss.d, S.d, E.d, E.t, Es.d, Es.len, f0, wCmp, wLt]
    by_cases h3 : k < 3
    · have h3' : ¬ (2 : Int) < (k : Int) := by omega
      rw [if_neg h3']
      simp only [wIx]
      refine ⟨ws.map D.str, .str ws[k], rfl, by rw [atI_n (by simpa using hlt)]; simp, .str ws[k], rfl, k, rfl, h3, ok _ (List.getElem_mem hlt), ?_⟩
      have hsw := stB_writ (w := ws[k]) h3
      cases hb : stB k ws[k] with
      | true =>
        rw [hb] at hsw
        have ih := ih (some (.d (.int k))) (by omega) (fun j h1 h2 hj => by
          by_cases hjk : j = k
          · subst hjk; exact hsw.symm
          · exact hs j h1 h2 (by omega)) q1 q2
        simpa using ih
      | false =>
        rw [hb] at hsw
        have hn := Option.not_isSome_iff_eq_none.mp (by rw [← hsw]; exact Bool.false_ne_true)
        simpa using q1 k (va.1 (by simpa [enP] using h3) hlt hn) hlt
    · have h3' : (2 : Int) < (k : Int) := by omega
      rw [if_pos h3']
      have : k = enP.length := by simp [enP]; omega
      exact q1 k (va.2.1 this hlt) hlt
theorem k_law_entry_fault {F : Fns} (f0 : F.f 19 = spStand) : Kp M F m_law_entry_fault 3 spEnF := by
  intro xs h Q Z q0
  match xs, q0 with
  | [.str t], ⟨ho, q⟩ =>
    have hl : t.length ≤ 100000 := ho.1
    have wl := wd_len t
    have lp := fun E' => enf_loop f0 (ws := wd t) (w0 := some (.d (.str t))) (h := h) (E' := E') (fun w hw => wd_ok ho hw) (wd t).length 0 none (by omega) (by omega) (fun j h1 h2 h3 => by omega)
    unfold m_law_entry_fault m_law_entry_fault_T1
    generalize m_law_entry_fault_B1 = b at lp ⊢
    simp [Ss.d, S.d, E.d, E.t, Es.d, Es.len, Ic.d, dItR1, dCons, startD, List.replicate_succ, wB1, wLen, seqW, lstW, tupW, dSpl]
    refine ⟨by decide +kernel, slB (by omega), ?_⟩
    have el : (Txt.split t (Str.ofString " ")) = wd t := rfl
    rw [el]
    refine ⟨by omega, ?_⟩
    refine lp _ (fun k hk hlt => ?_) (fun w2 hs h33 => ?_)
    · rw [hk] at q; exact q
    · have va := vV_at (wd t).length enP (wd t) (by simpa [enP] using h33) (Nat.le_refl _) hs
      simp [wLen, seqW, lstW, wCmp, wLt, fin]
      by_cases h3 : (wd t).length < 3
      · rw [va.2.2.1 (by simpa [enP] using h3) rfl] at q
        refine .inr ⟨by omega, ?_⟩
        exact q
      · rw [va.2.2.2 (by rw [enP_len]; omega) rfl] at q
        refine .inl ⟨by omega, ?_⟩
        exact q
def spEntL : FnD := fun xs h P _ => match xs with
  | [.str t] => okT 100000 t ∧ (∃ ds, vV enP (wd t) = .inl ds) ∧ P (CO.enD (enW (wd t))) h
  | _ => False
theorem k_law_entry {F : Fns} : Kp M F m_law_entry 2 spEntL := by
  intro xs h Q Z q0
  match xs, q0 with
  | [.str t], ⟨ho, ⟨ds, hd⟩, q⟩ =>
    have hl : t.length ≤ 100000 := ho.1
    obtain ⟨l, c, n, k, hw, hL, hC, hk, hn, _⟩ := vV_en hd
    have el : (Txt.split t (Str.ofString " ")) = wd t := rfl
    have ic := numW_int hC
    simp [m_law_entry, Ss.d, S.d, E.d, E.t, Es.d, Es.len, startD, List.replicate_succ, dSpl, el, hw, wIx, seqW, lstW, tupW, fin, wCmp, wEq, wB1, wIntc]
    rw [hw] at q
    refine ⟨by decide +kernel, slB (by omega), _, ic.1, by omega, ?_⟩
    rcases hn with hn | ⟨hn, j, hj⟩
    · rw [if_pos hn]
      exact ⟨slB (by decide), by simpa [CO.enD, enW, numG, hC, hn, nxD] using q⟩
    · rw [if_neg hn]
      have ij := numW_int hj
      exact ⟨_, ij.1, by omega, slB (by decide), by simpa [CO.enD, enW, numG, hC, hn, hj, nxD] using q⟩
end K
set_option maxHeartbeats 4000000
set_option exponentiation.threshold 2000
namespace K
open PySem DL DP CO
def spLnF : FnD := fun xs h P _ => match xs with
  | [.str t, .int k, .bl has] => ∃ n : Nat, k = n ∧ okT 100000 t ∧ P (ftD (lnF n has (wd t))) h
  | _ => False
theorem lf_ct {n : Nat} {has : Bool} {ws : List Str} (hn : 2 < n) (h : ws.head? = some ("context" : Str)) : lnF n has ws = if 1 < ws.length then some 1 else none := by
  unfold lnF lnP
  rw [if_neg (by omega), if_pos (.inl h)]
  match ws, h with
  | [w], h => simp at h; subst h; simp [vV, wr_ctx, ftV]
  | w :: w2 :: r, h => simp at h; subst h; simp [vV, wr_ctx, ftV]
theorem lf_no {n : Nat} {ws : List Str} (hn : 2 < n) (hne : ws ≠ []) (h : ws.head? ≠ some ("context" : Str)) : lnF n false ws = some 0 := by
  unfold lnF lnP
  rw [if_neg (by omega), if_pos (.inr rfl)]
  match ws, hne, h with
  | w :: r, _, h =>
    have : w ≠ "context" := fun e => h (by rw [e] <;> rfl)
    simp [vV, wr_ctx, this, ftV]
theorem lf_en {n : Nat} {ws : List Str} (hn : 2 < n) (h : ws.head? ≠ some ("context" : Str)) : lnF n true ws = ftV (vV enP ws) := by
  unfold lnF lnP
  rw [if_neg (by omega), if_neg (by simp [h])]
def hdw : Nat → Str
  | 0 => "size"
  | 1 => "division"
  | _ => "manner"
def hdB (n : Nat) (w : Str) : Bool := match n with
  | 0 => isNW60 w
  | 1 => decide (w ∈ (["fine", "coarse"] : List Str))
  | _ => decide (w ∈ (["plain", "pending", "cut", "late"] : List Str))
theorem wr_hd {n : Nat} (hn : n < 3) (w : Str) : writ (hdw n) w = if w = hdw n then some (.str w) else none := by
  match n, hn with
  | 0, _ => exact wr_oth w (by decide +kernel)
  | 1, _ => exact wr_oth w (by decide +kernel)
  | 2, _ => exact wr_oth w (by decide +kernel)
theorem wr_h2 {n : Nat} (hn : n < 3) (w : Str) : ∃ p, hdp n = [hdw n, p] ∧ (writ p w).isSome = hdB n w := by
  match n, hn with
  | 0, _ => exact ⟨_, rfl, by rw [wr_num]; simp [hdB, isNW60]⟩
  | 1, _ => exact ⟨_, rfl, by rw [wr_div]; unfold hdB; by_cases h : w ∈ (["fine", "coarse"] : List Str) <;> simp only [h, if_true, if_false] <;> simp⟩
  | 2, _ => exact ⟨_, rfl, by rw [wr_man]; unfold hdB; by_cases h : w ∈ (["plain", "pending", "cut", "late"] : List Str) <;> simp only [h, if_true, if_false] <;> simp⟩
theorem lf_hd {n : Nat} {has : Bool} {ws : List Str} (hn : n < 3) (hne : ws ≠ []) : lnF n has ws = if ws.getD 0 Str.empty = hdw n then (if ws.length = 1 then some 1 else if hdB n (ws.getD 1 Str.empty) = true then (if 2 < ws.length then some 2 else none) else some 1) else some 0 := by
  rw [lnF3 hn]
  match ws, hne with
  | [w], _ =>
    obtain ⟨p, hp, _⟩ := wr_h2 hn Str.empty
    rw [hp]
    by_cases hw : w = hdw n
    · simp [vV, wr_hd hn, hw, ftV]
    · simp [vV, wr_hd hn, hw, ftV]
  | w :: w2 :: r, _ =>
    obtain ⟨p, hp, hb⟩ := wr_h2 hn w2
    rw [hp]
    by_cases hw : w = hdw n
    · simp only [vV, wr_hd hn, if_pos hw]
      cases hq : writ p w2 with
      | none => rw [hq] at hb; simp [hw, ← hb, ftV]
      | some d =>
        rw [hq] at hb
        cases r with
        | nil => simp [hw, ← hb, vV, ftV]
        | cons w3 r => simp [hw, ← hb, vV, ftV]
    · simp [vV, wr_hd hn, hw, ftV]
theorem lf_T4 {F : Fns} (f0 : F.f 18 = spW isNW60) {n : Nat} {ws : List Str} {w0 w2 w4 w5 : Option W} {h : Hs} {E' : DEnds} (hn : n < 3) (h2 : 2 ≤ ws.length) (ok : ∀ w ∈ ws, okT 100000 w)
    (q : E'.rt (ftD (if hdB n (ws.getD 1 Str.empty) = true then (if 2 < ws.length then some 2 else none) else some 1)) h) :
    m_law_line_fault_T4.d M F [w0, some (.d (.int n)), w2, some (.d (.lst (ws.map D.str))), w4, w5] h E' := by
  match ws, h2 with
  | a :: b :: r, _ =>
    have ob := ok b (by simp)
    have e1 : L2.atI (D.str a :: D.str b :: r.map D.str) 1 = some (.str b) := by
      have := atI_n (xs := D.str a :: D.str b :: r.map D.str) (k := 1) (by simp)
      simpa using this
    have q' : E'.rt (ftD (if hdB n b = true then (if r = [] then none else some 2) else some 1)) h := by
      have : (if 2 < (a :: b :: r).length then some 2 else none : Option Nat) = if r = [] then none else some 2 := by cases r <;> simp
      rw [this] at q
      simpa using q
    have t5 : ∀ w5, hdB n b = true → m_law_line_fault_T5.d M F [w0, some (.d (.int n)), w2, some (.d (.lst ((a :: b :: r).map D.str))), w4, w5] h E' := fun w5 hb => by
      rw [if_pos hb] at q'
      simp [m_law_line_fault_T5, Ss.d, S.d, E.d, E.t, wB1, wLen, seqW, lstW, wCmp, wLt]
      cases r with
      | nil => rw [if_neg (by simp)]; simpa [ftD] using q'
      | cons c r => rw [if_pos (by simp; omega)]; simpa [ftD] using q'
    have q1 : hdB n b = false → E'.rt (.int 1) h := fun hb => by rw [hb] at q'; simpa [ftD] using q'
    clear q q'
    unfold m_law_line_fault_T4
    generalize m_law_line_fault_T5 = T5 at t5 ⊢
    match n, hn with
    | 0, _ =>
      simp [Ss.d, S.d, E.d, E.t, Es.d, Es.len, f0, spW, ob, wCmp, wEq, wLt, wIx, seqW, lstW, tupW, e1]
      refine ⟨slB (by decide), ?_⟩
      cases hb : isNW60 b with
      | false => exact .inl ⟨rfl, q1 hb⟩
      | true => exact .inr ⟨rfl, t5 _ hb⟩
    | 1, _ =>
      simp [Ss.d, S.d, E.d, E.t, Es.d, Es.len, f0, spW, ob, wCmp, wIn, wEq, wLt, wIx, seqW, lstW, tupW, e1]
      refine ⟨slB (by decide), [("fine" : Str), "coarse"], rfl, ?_⟩
      by_cases hb : b ∈ ([("fine" : Str), "coarse"] : List Str)
      · exact .inl ⟨hb, t5 _ (decide_eq_true hb)⟩
      · exact .inr ⟨hb, q1 (decide_eq_false hb)⟩
    | 2, _ =>
      simp [Ss.d, S.d, E.d, E.t, Es.d, Es.len, f0, spW, ob, wCmp, wIn, wEq, wLt, wIx, seqW, lstW, tupW, e1]
      refine ⟨slB (by decide), [("plain" : Str), "pending", "cut", "late"], rfl, ?_⟩
      by_cases hb : b ∈ ([("plain" : Str), "pending", "cut", "late"] : List Str)
      · exact .inl ⟨hb, t5 _ (decide_eq_true hb)⟩
      · exact .inr ⟨hb, q1 (decide_eq_false hb)⟩
theorem at0 {w : Str} {r : List Str} : L2.atI ((w :: r).map D.str) 0 = some (.str w) := by simp [L2.atI, L2.ixN]
theorem lf_T1 {F : Fns} (f0 : F.f 18 = spW isNW60) {n : Nat} {has : Bool} {ws : List Str} {w0 w2 w4 w5 : Option W} {h : Hs} {E' : DEnds} (hne : ws ≠ []) (hn : n < 3 ∨ ws.head? = some ("context" : Str)) (ok : ∀ w ∈ ws, okT 100000 w) (q : E'.rt (ftD (lnF n has ws)) h) :
    m_law_line_fault_T1.d M F [w0, some (.d (.int n)), w2, some (.d (.lst (ws.map D.str))), w4, w5] h E' := by
  by_cases h3 : n < 3
  · rw [lf_hd h3 hne] at q
    have t4 := fun w4 w5 h2 => lf_T4 (F := F) f0 (n := n) (ws := ws) (w0 := w0) (w2 := w2) (w4 := w4) (w5 := w5) (h := h) (E' := E') h3 h2 ok
    unfold m_law_line_fault_T1 m_law_line_fault_T2 m_law_line_fault_T3
    generalize m_law_line_fault_T4 = T4 at t4 ⊢
    obtain ⟨w, r, rfl⟩ := List.exists_cons_of_ne_nil hne
    simp only [List.getD_cons_zero] at q
    have hnm : ∃ x : List D, L2.atI [D.str "size", D.str "division", D.str "manner"] (n : Int) = some (.str (hdw n)) := by
      refine ⟨[], ?_⟩
      match n, h3 with
      | 0, _ => rfl
      | 1, _ => rfl
      | 2, _ => rfl
    obtain ⟨_, hnm⟩ := hnm
    have e0 := at0 (w := w) (r := r)
    rw [List.map_cons] at e0 t4 ⊢
    have h3' : (n : Int) < 3 := by omega
    have h3'' : ¬ (2 : Int) < (n : Int) := by omega
    simp [Ss.d, S.d, E.d, E.t, Es.d, Es.len, wCmp, wEq, wLt, wIx, seqW, lstW, tupW, e0, hnm, h3', h3'', wB1, wLen]
    refine ⟨slB (by decide), ?_⟩
    by_cases hw : w = hdw n
    · rw [if_pos hw] at q
      refine .inl ⟨hw, ?_⟩
      by_cases h1 : r = []
      · subst h1
        rw [if_pos (by simp)]
        simpa [ftD] using q
      · have hr : 0 < r.length := List.length_pos_iff.mpr h1
        have h1' : ¬ (w :: r).length = 1 := by simp; exact h1
        rw [if_neg h1'] at q
        rw [if_neg (by omega)]
        exact t4 _ _ (by simp; omega) q
    · rw [if_neg hw] at q
      exact .inr ⟨hw, by simpa [ftD] using q⟩
  · have hc : ws.head? = some ("context" : Str) := hn.resolve_left h3
    rw [lf_ct (by omega) hc] at q
    obtain ⟨w, r, rfl⟩ := List.exists_cons_of_ne_nil hne
    have hw : w = "context" := by simpa using hc
    subst hw
    unfold m_law_line_fault_T1 m_law_line_fault_T2
    generalize m_law_line_fault_T3 = T3
    have e0 := at0 (w := ("context" : Str)) (r := r)
    rw [List.map_cons] at e0 ⊢
    have h3' : ¬ (n : Int) < 3 := by omega
    have h3'' : (2 : Int) < (n : Int) := by omega
    simp [Ss.d, S.d, E.d, E.t, Es.d, Es.len, wCmp, wEq, wLt, wIx, seqW, lstW, tupW, e0, h3', h3'', wB1, wLen]
    cases r with
    | nil => simpa [ftD] using q
    | cons c r => rw [if_pos (by simp; omega)]; simpa [ftD] using q
theorem k_law_line_fault {F : Fns} (f0 : F.f 18 = spW isNW60) (f1 : F.f 20 = spEnF) : Kp M F m_law_line_fault 6 spLnF := by
  intro xs h Q Z q0
  match xs, q0 with
  | [.str t, .int k, .bl has], ⟨n, hk, ho, q⟩ =>
    subst hk
    have hl : t.length ≤ 100000 := ho.1
    have wl := wd_len t
    have el : (Txt.split t (Str.ofString " ")) = wd t := rfl
    have hne := wd_ne t
    have wok : ∀ w ∈ wd t, okT 100000 w := fun w hw => wd_ok ho hw
    have t1 := fun E' hn => lf_T1 (F := F) f0 (n := n) (has := has) (w0 := some (.d (.str t))) (w2 := some (.d (.bl has))) (w4 := none) (w5 := none) (h := h) (E' := E') hne hn wok
    unfold m_law_line_fault
    generalize m_law_line_fault_T1 = T1 at t1 ⊢
    simp [Ss.d, S.d, E.d, E.t, Es.d, Es.len, startD, List.replicate_succ, dSpl, el, wCmp, wEq, wLt, f1, spEnF, ho]
    refine ⟨by decide +kernel, slB (by omega), ?_⟩
    by_cases h3 : n < 3
    · have h3'' : ¬ (2 : Int) < (n : Int) := by omega
      rw [if_neg h3'']
      exact t1 _ (.inl h3) q
    · have h3'' : (2 : Int) < (n : Int) := by omega
      rw [if_pos h3'']
      obtain ⟨w, r, hwr⟩ := List.exists_cons_of_ne_nil hne
      simp only [wIx]
      refine ⟨(wd t).map D.str, .str w, rfl, by rw [hwr]; exact at0, ?_⟩
      by_cases hw : w = "context"
      · refine .inl ⟨hw, t1 _ (.inr (by rw [hwr, hw] <;> rfl)) q⟩
      · have hc : (wd t).head? ≠ some ("context" : Str) := by rw [hwr]; simp [hw]
        refine .inr ⟨hw, ?_⟩
        cases has with
        | true =>
          rw [lf_en (by omega) hc] at q
          simpa [fin] using q
        | false =>
          rw [lf_no (by omega) hne hc] at q
          simpa [fin, ftD] using q
def ftP : Option (Nat × Nat) → D
  | none => .non
  | some (n, k) => .tup [.int n, .int k]
def spCoF : FnD := fun xs h P _ => match xs with
  | [.str t] => okT 100000 t ∧ P (ftP (ftR (rows t))) h
  | _ => False
end K
set_option maxHeartbeats 4000000
set_option exponentiation.threshold 2000
namespace K
open PySem DL DP CO
theorem cf_loop {F : Fns} (f0 : F.f 22 = spLnF) {ls : List Str} {w0 : Option W} {h : Hs} {E' : DEnds} (ok : ∀ l ∈ ls, okT 100000 l) : ∀ (m n : Nat) (has : Bool) (w3 w4 : Option W), n + m = ls.length →
    (∀ p : Nat × Nat, ftF n has ((ls.drop n).map wd) = some p → p.1 < ls.length → E'.rt (ftP (some p)) h) →
    ((ftF n has ((ls.drop n).map wd) = if ls.length < 3 then some (ls.length, 0) else none) → ∀ w2 w3 w4, E'.nx [w0, some (.d (.lst (ls.map D.str))), w2, w3, w4] h) →
    forD (.nm 3) (m_law_coder_fault_B1.d M F) E' (rngD n m) [w0, some (.d (.lst (ls.map D.str))), some (.d (.bl has)), w3, w4] h
  | 0, n, has, w3, w4, e, q1, q2 => by
    have hd : ls.drop n = [] := List.drop_eq_nil_of_le (by omega)
    rw [hd] at q2
    have : rngD (n : Int) 0 = [] := rfl
    rw [this]
    unfold forD
    have en : n = ls.length := by omega
    subst en
    exact q2 rfl _ _ _
  | m + 1, n, has, w3, w4, e, q1, q2 => by
    have hlt : n < ls.length := by omega
    have hd : ls.drop n = ls[n] :: ls.drop (n + 1) := List.drop_eq_getElem_cons hlt
    rw [hd, List.map_cons] at q1 q2
    rw [rng_cons]
    unfold forD
    rw [put_nm]
    have ih := fun has w4 => cf_loop f0 (w0 := w0) (h := h) (E' := E') ok m (n + 1) has (some (.d (.int n))) w4 (by omega)
    rw [show ((n + 1 : Nat) : Int) = (n : Int) + 1 by push_cast; rfl] at ih
    generalize forD (.nm 3) (m_law_coder_fault_B1.d M F) E' (rngD ((n : Int) + 1) m) = rest at ih ⊢
    have ai : L2.atI (ls.map D.str) (n : Int) = some (.str ls[n]) := by rw [atI_n (by simpa using hlt)]; simp
    simp [m_law_coder_fault_B1, m_law_coder_fault_T1, Ss.d, S.d, E.d, E.t, Es.d, Es.len, f0, wCmp, wLt, wEq, wIx, seqW, lstW, tupW, ai, spLnF, ok _ (List.getElem_mem hlt)]
    refine ⟨n, rfl, ?_⟩
    simp only [ftF] at q1 q2
    cases hf : lnF n has (wd ls[n]) with
    | some k =>
      rw [hf] at q1
      simp [ftD]
      exact ⟨slB (by decide), q1 _ rfl hlt⟩
    | none =>
      rw [hf] at q1 q2
      have ih := ih (hasN n has (wd ls[n])) (some (.d .non)) q1 q2
      simp [ftD]
      have eh : hasN n has (wd ls[n]) = (has || (decide (2 < n) && decide (ls[n] = "context"))) := by
        unfold hasN
        have : decide (wd ls[n] = [("context" : Str)]) = decide (ls[n] = "context") := decide_eq_decide.mpr wd_ct_iff
        rw [this]
      rw [eh] at ih
      cases has with
      | true => simpa using ih
      | false =>
        simp
        by_cases h2 : 2 < n
        · exact .inr ⟨by omega, by simpa [h2] using ih⟩
        · have e : decide ((2 : Int) < (n : Int)) = false := decide_eq_false (by omega)
          refine .inl ⟨by omega, ?_⟩
          rw [e]
          simpa [h2] using ih
theorem k_law_coder_fault {F : Fns} (f0 : F.f 22 = spLnF) : Kp M F m_law_coder_fault 5 spCoF := by
  intro xs h Q Z q0
  match xs, q0 with
  | [.str t], ⟨ho, q⟩ =>
    have hl : t.length ≤ 100000 := ho.1
    have ll := ln_len t
    have lp := fun E' => cf_loop f0 (ls := ln t) (w0 := some (.d (.str t))) (h := h) (E' := E') (fun w hw => ln_ok ho hw) (ln t).length 0 false none none (by omega)
    unfold m_law_coder_fault m_law_coder_fault_T2
    generalize m_law_coder_fault_B1 = b at lp ⊢
    simp [Ss.d, S.d, E.d, E.t, Es.d, Es.len, Ic.d, dItR1, dCons, startD, List.replicate_succ, wB1, wLen, seqW, lstW, tupW, dSpl, dPar2, stW]
    refine ⟨by decide +kernel, slB (by omega), ?_⟩
    have el : (Txt.split t (Str.ofString "\n")) = ln t := rfl
    rw [el]
    refine ⟨by omega, ?_⟩
    refine lp _ (fun p hp hlt => ?_) (fun hp w2 w3 w4 => ?_)
    · rw [List.drop_zero] at hp
      unfold ftR rows at q
      rw [hp] at q
      exact q
    · rw [List.drop_zero] at hp
      unfold ftR rows at q
      rw [hp] at q
      simp [wLen, seqW, lstW, wCmp, wLt, fin]
      by_cases h3 : (ln t).length < 3
      · rw [if_pos h3] at q
        exact .inr ⟨by omega, slB (by decide), q⟩
      · rw [if_neg h3] at q
        exact .inl ⟨by omega, q⟩
def spRdL : FnD := fun xs h P _ => match xs with
  | [.str t] => okT 100000 t ∧ ftR (rows t) = none ∧ P (coD (rdC (rows t))) h
  | _ => False
theorem rd_loop {F : Fns} (f0 : F.f 21 = spEntL) {w0 w1 : Option W} {h : Hs} {E' : DEnds} : ∀ (ls : List Str) (n : Nat) (found : List (List En)) (w3 w4 : Option W), (∀ l ∈ ls, okT 100000 l) → 3 ≤ n → n + ls.length ≤ 1000000 → fdOk n found → ftF n (!found.isEmpty) (ls.map wd) = none →
    (∀ w3 w4, E'.nx [w0, w1, some (.own ((bdC found (ls.map wd)).map cxD)), w3, w4] h) →
    forD (.nm 3) (m_law_read_B1.d M F) E' (ls.map D.str) [w0, w1, some (.own (found.map cxD)), w3, w4] h
  | [], n, found, w3, w4, ok, hn, hl, fd, hf, q => by
    unfold forD
    exact q w3 w4
  | l :: ls, n, found, w3, w4, ok, hn, hl, fd, hf, q => by
    rw [List.map_cons]
    unfold forD
    rw [put_nm]
    simp only [List.map_cons, ftF] at hf
    simp only [List.length_cons] at hl
    cases hk : lnF n (!found.isEmpty) (wd l) with
    | some k => rw [hk] at hf; cases hf
    | none =>
      rw [hk] at hf
      have fd2 := fd_add hn fd hk
      have ih := fun w3 w4 => rd_loop f0 (w0 := w0) (w1 := w1) (h := h) (E' := E') ls (n + 1) (addC found (wd l)) w3 w4 (fun x hx => ok x (List.mem_cons_of_mem _ hx)) (by omega) (by omega) fd2
      generalize forD (.nm 3) (m_law_read_B1.d M F) E' (ls.map D.str) = rest at ih ⊢
      have hol := ok l (by simp)
      simp [m_law_read_B1, Ss.d, S.d, E.d, E.t, Es.d, Es.len, f0, wCmp, wEq]
      have lf := fd.1
      rcases lnF_none hn hk with hc | ⟨h1, h2, ds, hd⟩
      · have hlc := wd_ct_iff.mp hc
        rw [if_pos hlc]
        have ha : addC found (wd l) = found ++ [[]] := by unfold addC; rw [hc]; simp
        have eh : hasN n (!found.isEmpty) (wd l) = !(addC found (wd l)).isEmpty := by rw [ha]; simp [hasN, hc, show 2 < n by omega]
        rw [eh] at hf
        have ih := ih (some (.d (.str l))) w4 hf q
        rw [ha] at ih
        simp [dApp]
        exact ⟨slB (by omega), by simpa [cxD] using ih⟩
      · have hlc : ¬ l = "context" := fun e => h2 (by rw [wd_ct_iff.mpr e] <;> rfl)
        rw [if_neg hlc]
        rcases List.eq_nil_or_concat found with hf0 | ⟨init, lst, hf0⟩
        · rw [hf0] at h1; simp at h1
        · have ha : addC found (wd l) = init ++ [lst ++ [enW (wd l)]] := by
            unfold addC
            rw [if_neg h2, hf0]; simp
          have eh : hasN n (!found.isEmpty) (wd l) = !(addC found (wd l)).isEmpty := by rw [ha, hasN, h1]; simp
          rw [eh] at hf
          have ih := ih (some (.d (.str l))) w4 hf q
          rw [ha] at ih
          have li : L2.atI (found.map cxD) (-1) = some (cxD lst) := by rw [hf0]; simp only [List.concat_eq_append, List.map_append, List.map_cons, List.map_nil]; exact last_ix
          have lx : L2.ixN (found.map cxD).length (-1) = some init.length := by rw [hf0]; simp only [List.concat_eq_append, List.length_map, List.length_append, List.length_cons, List.length_nil]; exact last_ixN
          have hll := (fd.2 lst (by rw [hf0]; simp)).1
          have e : (found.map cxD).set init.length (D.tup (lst.map CO.enD ++ [CO.enD (enW (wd l))])) = (init ++ [lst ++ [enW (wd l)]]).map cxD := by
            rw [hf0]; simp [cxD]
          simp [dSix, E.d, Es.d, wNeg, f0, spEntL, hol, hd]
          simp only [wIx]
          refine ⟨found.map cxD, cxD lst, rfl, li, slB (by decide), ?_⟩
          simp [wBin, wCat, cxD, lsjW, tupW]
          refine ⟨slB (by omega), init.length, by simpa using lx, ?_⟩
          rw [e]; exact ih
theorem hd_two {i : Nat} {ws : List Str} (hi : i < 3) (h : lnF i false ws = none) : ws.length = 2 ∧ (i = 0 → ∃ n, numW (ws.getD 1 Str.empty) = some n) := by
  obtain ⟨d, hd⟩ := hd_val hi h
  have hl := (vV_len hd).1
  have hp : (hdp i).length = 2 := by unfold hdp; split <;> rfl
  rw [hp] at hl
  refine ⟨hl, fun h0 => ?_⟩
  subst h0
  match ws, hl with
  | [a, b], _ =>
    simp only [hdp, vV, wr_num] at hd
    cases hn : numW b with
    | none => rw [hn] at hd; cases hw : writ "size" a <;> simp [hw] at hd
    | some n => exact ⟨n, hn⟩
theorem k_law_read {F : Fns} (f0 : F.f 21 = spEntL) : Kp M F m_law_read 5 spRdL := by
  intro xs h Q Z q0
  match xs, q0 with
  | [.str t], ⟨ho, hf, q⟩ =>
    have hl : t.length ≤ 100000 := ho.1
    have ll := ln_len t
    have hne := ln_ne t
    unfold ftR rows at hf
    unfold rdC rows at q
    have okl : ∀ l ∈ ln t, okT 100000 l := fun l hl => ln_ok ho hl
    have el : (Txt.split t (Str.ofString "\n")) = ln t := rfl
    match hlt : ln t, hne with
    | l0 :: R, _ =>
      rw [hlt] at hf q ll okl
      simp only [List.map_cons, ftF] at hf
      cases h0 : lnF 0 false (wd l0) with
      | some k => rw [h0] at hf; cases hf
      | none =>
      rw [h0] at hf
      match R, hf with
      | [], hf => simp [ftF] at hf
      | l1 :: R, hf =>
      simp only [List.map_cons, ftF, hasN] at hf
      simp at hf
      cases h1 : lnF 1 false (wd l1) with
      | some k => rw [h1] at hf; cases hf
      | none =>
      rw [h1] at hf
      match R, hf with
      | [], hf => simp [ftF] at hf
      | l2 :: R, hf =>
      simp only [List.map_cons, ftF, hasN] at hf
      simp at hf
      cases h2 : lnF 2 false (wd l2) with
      | some k => rw [h2] at hf; cases hf
      | none =>
      rw [h2] at hf
      have hR : R.length ≤ 100001 := by simp at ll; omega
      have lp := fun w1 E' => rd_loop f0 (w0 := some (.d (.str t))) (w1 := w1) (h := h) (E' := E') R 3 [] none none (fun x hx => okl x (by simp [hx])) (by omega) (by omega) ⟨by simp, by simp⟩ hf
      unfold m_law_read m_law_read_T1
      generalize m_law_read_B1 = b at lp ⊢
      simp [Ss.d, S.d, E.d, E.t, Es.d, Es.len, Ic.d, Oe.t, dItL, startD, List.replicate_succ, dSpl, dPar2, stW, dSl, Oe.d, dNo, dPart]
      refine ⟨by decide +kernel, slB (by omega), ?_⟩
      rw [el, hlt]
      have ec : cutD ((l0 :: l1 :: l2 :: R).map D.str) (some ((3 : Nat) : Int)) none = R.map D.str := by rw [cutD_drop] <;> rfl
      have et : cutD ((l0 :: l1 :: l2 :: R).map D.str) none (some ((3 : Nat) : Int)) = [l0, l1, l2].map D.str := by rw [cutD_take] <;> rfl
      simp only [List.map_cons, show ((3 : Nat) : Int) = 3 from rfl] at ec et
      simp [wSl, lstW]
      rw [ec]
      refine lp _ _ fun w3 w4 => ?_
      unfold dLc dItL
      simp [dSl, dNo, dPart, wSl, lstW]
      rw [et]
      obtain ⟨k0, n0⟩ := hd_two (by decide) h0
      obtain ⟨k1, _⟩ := hd_two (by decide) h1
      obtain ⟨k2, _⟩ := hd_two (by decide) h2
      obtain ⟨n, hn⟩ := n0 rfl
      refine lc_map (fun x => match x with | .str l => .str ((wd l).getD 1 Str.empty) | _ => .non) _ [] (fun x hx Kp k => ?_) (by simp; exact slB (by decide)) ?_
      · obtain ⟨l, hl3, rfl⟩ := List.mem_map.mp (show x ∈ [l0, l1, l2].map D.str from hx)
        have h2w : (wd l).length = 2 := by
          simp at hl3
          rcases hl3 with rfl | rfl | rfl <;> assumption
        have hlo : l.length ≤ 100000 := (okl l (by simp at hl3 ⊢; rcases hl3 with rfl | rfl | rfl <;> simp)).1
        have ew : Txt.split l (Str.ofString " ") = wd l := rfl
        match hw : wd l, h2w with
        | [a, b], _ =>
          simp only [hw, List.getD_cons_succ, List.getD_cons_zero] at k
          simp [Tg.put, wipeD, dSpl, ew, hw, wIx, seqW, lstW]
          exact ⟨by decide +kernel, slB (by omega), by simpa [L2.atI, L2.ixN] using k⟩
      · have q' : Q (coD ⟨numG ((wd l0).getD 1 Str.empty), bdC [] (R.map wd), (wd l1).getD 1 Str.empty, (wd l2).getD 1 Str.empty⟩) h := q
        simp [wIx, seqW, lstW, L2.atI, L2.ixN, wB1, wIntc, wTuple]
        have ni := numW_int hn
        have en : numG ((wd l0).getD 1 Str.empty) = n := by unfold numG; rw [hn] <;> rfl
        rw [en] at q'
        exact ⟨_, ni.1, Nat.le_trans ni.2 (by decide), slB (by decide), q'⟩
end K
set_option maxHeartbeats 4000000
set_option exponentiation.threshold 2000
namespace K
open PySem DL DP CO
/-- the letters of the drawn coders -/
def alph : List Str := ("abcehxyz" : Str).cps.toList.map fun c => ⟨#[c]⟩
theorem sz3c : 3 ≤ sizeLine := by decide +kernel
theorem alph_nd : alph.Nodup := by decide +kernel
theorem alph_len : alph.length = 8 := by decide +kernel
theorem alph_ok : ∀ s ∈ alph, isL s = true := by decide +kernel
/-- a drawn entry -/
def enT (m : Nat) (e : En) : Prop := e.l ∈ alph ∧ 0 < e.c ∧ e.c < 2 ^ 134 ∧ ∀ k, e.n = some k → k < m
theorem enT.ok {m : Nat} {e : En} (h : enT m e) : enOk m e := ⟨alph_ok _ h.1, h.2.1, h.2.2.2⟩
def cxT (m : Nat) (es : List En) : Prop := 2 ≤ es.length ∧ es.length ≤ 4 ∧ (∀ e ∈ es, enT m e) ∧ (es.map (·.l)).Nodup
theorem cxT.ok {m : Nat} {es : List En} (h : cxT m es) : cxOk m es := ⟨h.1, fun e he => (h.2.2.1 e he).ok, h.2.2.2⟩
def cntB : D → Bool
  | .int i => decide (0 < i) && decide (i < 2 ^ 134)
  | _ => false
def rowB : D → Bool
  | .lst xs => decide (2 ≤ xs.length) && (decide (xs.length ≤ 4) && xs.all cntB)
  | _ => false
theorem seqIx {k : Int} {n : Nat} (h0 : 0 ≤ k) (h1 : k < n) : seqIndex? k n = some k.toNat := by
  unfold seqIndex?
  simp [show ¬ k < 0 by omega]
  omega
theorem er_perm {α : Type} : ∀ (l : List α) (j : Nat) (h : j < l.length), (l[j] :: l.eraseIdx j).Perm l
  | [], _, h => by simp at h
  | a :: l, 0, _ => by simp
  | a :: l, j + 1, h => by
    have h2 : j < l.length := by simpa using h
    have := er_perm l j h2
    simp only [List.getElem_cons_succ, List.eraseIdx_cons_succ]
    exact (List.Perm.swap a l[j] (l.eraseIdx j)).trans (this.cons a)
theorem map_er {α β : Type} (f : α → β) : ∀ (l : List α) (j : Nat), (l.map f).eraseIdx j = (l.eraseIdx j).map f
  | [], _ => rfl
  | _ :: _, 0 => rfl
  | a :: l, j + 1 => by simp [map_er f l j]
theorem ctx_turn {F : Fns} (f0 : F.f 12 = spDraw) {many : Nat} {w2 w3 w7 w8 : Option W} {c : D} {ys : List Str} {found : List D} {k : Nat} {h : Hs} {En' : DEnds} (m0 : 0 < many) (m1 : many ≤ 10) (hc : cntB c = true) (l0 : 0 < ys.length) (l1 : ys.length ≤ 100) (lf : found.length < 100) (hs : SH k h) (hk : k + 2 ≤ 1000000)
    (q : ∀ (j : Nat) (hj : j < ys.length) (e : En) h' w7 w8, e.l = ys[j] → 0 < e.c → e.c < 2 ^ 134 → (∀ k, e.n = some k → k < many) → SH (k + 2) h' → En'.nx [some (.d (.ref 0)), some (.d (.int many)), w2, w3, some (.own ((ys.eraseIdx j).map D.str)), some (.own (found ++ [CO.enD e])), some (.d c), w7, w8] h') :
    m_law_context_B1.d M F [some (.d (.ref 0)), some (.d (.int many)), w2, w3, some (.own (ys.map D.str)), some (.own found), some (.d c), w7, w8] h En' := by
  simp [m_law_context_B1, Ss.d, S.d, E.d, E.t, Es.d, Es.len, f0, spDraw, dPop, wB1, wLen, seqW, lstW, tupW]
  refine ⟨k, hs, by omega, l0, by omega, fun r h1 r0 r1 s1 => ?_⟩
  obtain ⟨r', rfl⟩ := Int.eq_ofNat_of_zero_le r0
  have hr : r' < ys.length := by omega
  refine ⟨by omega, by omega, r', seqIx (by omega) (by omega), .str ys[r'], by simp [hr], ?_⟩
  cases c <;> first | (simp [cntB] at hc; done) | skip
  rename_i ci
  simp [cntB] at hc
  simp [wBin, wInt]
  refine ⟨k + 1, s1, by omega, by omega, fun r2 h2 r20 r21 s2 => ?_⟩
  obtain ⟨r2, rfl⟩ := Int.eq_ofNat_of_zero_le r20
  simp [dApp, wCmp, wLt]
  refine ⟨by unfold sizeLine; omega, ?_⟩
  by_cases h3 : r2 < many
  · have h3' : (r2 : Int) < many := by omega
    simp [h3, sz3c]
    have := q r' hr ⟨ys[r'], ci, some r2⟩ h2 (some (.d (.str ys[r']))) (some (.d (.int r2))) rfl hc.1 hc.2 (fun k e => by cases e; exact h3) s2
    simpa [CO.enD, nxD, map_er] using this
  · simp [h3, sz3c]
    have := q r' hr ⟨ys[r'], ci, none⟩ h2 (some (.d (.str ys[r']))) (some (.d (.int r2))) rfl hc.1 hc.2 (fun k e => by cases e) s2
    simpa [CO.enD, nxD, map_er] using this
theorem ctx_loop {F : Fns} (f0 : F.f 12 = spDraw) {many : Nat} {w2 w3 : Option W} {En' : DEnds} (m0 : 0 < many) (m1 : many ≤ 10) : ∀ (cs : List D) (ys : List Str) (fs : List En) (k : Nat) (h : Hs) (w6 w7 w8 : Option W), (∀ c ∈ cs, cntB c = true) → (∀ y ∈ ys, y ∈ alph) → (ys ++ fs.map (·.l)).Nodup → cs.length ≤ ys.length → ys.length ≤ 8 → (∀ e ∈ fs, enT many e) → fs.length + cs.length ≤ 4 → SH k h → k + 2 * cs.length ≤ 1000000 →
    (∀ (fs' : List En) h' ys' w6 w7 w8, (∀ e ∈ fs', enT many e) → (fs'.map (·.l)).Nodup → fs'.length = fs.length + cs.length → SH (k + 2 * cs.length) h' → En'.nx [some (.d (.ref 0)), some (.d (.int many)), w2, w3, some (.own ys'), some (.own (fs'.map CO.enD)), w6, w7, w8] h') →
    forD (.nm 6) (m_law_context_B1.d M F) En' cs [some (.d (.ref 0)), some (.d (.int many)), w2, w3, some (.own (ys.map D.str)), some (.own (fs.map CO.enD)), w6, w7, w8] h
  | [], ys, fs, k, h, w6, w7, w8, hc, hy, nd, l1, l2, hf, lf, hs, hk, q => by
    unfold forD
    exact q fs h _ w6 w7 w8 hf (List.nodup_append.mp nd).2.1 (by simp) hs
  | c :: cs, ys, fs, k, h, w6, w7, w8, hc, hy, nd, l1, l2, hf, lf, hs, hk, q => by
    unfold forD
    rw [put_nm]
    simp only [List.length_cons] at l1 lf hk q
    refine ctx_turn f0 m0 m1 (hc c (by simp)) (by omega) (by omega) (by simp; omega) hs (by omega) fun j hj e h' w7 w8 e1 e2 e3 e4 hs' => ?_
    have ef : fs.map CO.enD ++ [CO.enD e] = (fs ++ [e]).map CO.enD := by simp
    rw [ef]
    have pm : (ys[j] :: ys.eraseIdx j).Perm ys := er_perm ys j hj
    refine ctx_loop f0 m0 m1 cs (ys.eraseIdx j) (fs ++ [e]) (k + 2) h' _ w7 w8 (fun x hx => hc x (List.mem_cons_of_mem _ hx)) (fun y hy' => hy y (List.mem_of_mem_eraseIdx hy')) ?_ ?_ ?_ ?_ ?_ hs' (by omega) ?_
    · have p2 : (ys.eraseIdx j ++ (fs ++ [e]).map (·.l)).Perm (ys ++ fs.map (·.l)) := by
        have a : (ys.eraseIdx j ++ (fs ++ [e]).map (·.l)).Perm ((ys[j] :: ys.eraseIdx j) ++ fs.map (·.l)) := by
          simp only [List.map_append, List.map_cons, List.map_nil, e1]
          rw [← List.append_assoc]
          exact (List.perm_append_singleton _ _).trans (by simp)
        exact a.trans (pm.append_right _)
      exact p2.nodup_iff.mpr nd
    · rw [List.length_eraseIdx]; split <;> omega
    · rw [List.length_eraseIdx]; split <;> omega
    · intro x hx
      rcases List.mem_append.mp hx with hx | hx
      · exact hf x hx
      · simp at hx; subst hx; exact ⟨by rw [e1]; exact hy _ (List.getElem_mem hj), e2, e3, e4⟩
    · simp; omega
    · intro fs' h2 ys' w6 w7 w8 a b c d
      exact q fs' h2 ys' w6 w7 w8 a b (by rw [c]; simp; omega) (d.mono (by omega))
def spCtx : FnD := fun xs h P _ => match xs with
  | [.ref 0, .int many] => ∃ (k m : Nat), many = m ∧ SH k h ∧ k ≤ 900000 ∧ 0 < m ∧ m ≤ 10 ∧ ∀ es h', cxT m es → SH (k + 9) h' → P (cxD es) h'
  | _ => False
def rows0 : List D := [.lst [.int 1, .int 1], .lst [.int 2, .int 1], .lst [.int 2, .int 1, .int 1], .lst [.int 9, .int 1], .lst [.int 1, .int 9], .lst [.int 1, .int 2, .int 1], .lst [.int 3, .int 1, .int 2], .lst [.int 1, .int 1, .int 1, .int 1], .lst [.int 5, .int 3, .int 2, .int 2], .lst [.int 7, .int (10 ^ 40)]]
theorem rows0_ok : ∀ r ∈ rows0, rowB r = true := by decide +kernel
theorem rowB_inv {r : D} (h : rowB r = true) : ∃ xs, r = .lst xs ∧ 2 ≤ xs.length ∧ xs.length ≤ 4 ∧ ∀ x ∈ xs, cntB x = true := by
  cases r <;> first | (simp [rowB] at h; done) | skip
  rename_i xs
  simp only [rowB, Bool.and_eq_true, decide_eq_true_eq, List.all_eq_true] at h
  exact ⟨xs, rfl, h.1, h.2.1, h.2.2⟩
theorem alphD : ("abcehxyz" : Str).cps.toList.map (fun c => D.str ⟨#[c]⟩) = alph.map D.str := by unfold alph; rw [List.map_map] <;> rfl
def mCtail : Ss := (.cons (.for_ (.nm 6) (.l (.var 3)) m_law_context_B1) m_law_context_T1)
theorem ctail_ok {F : Fns} (f0 : F.f 12 = spDraw) {many : Nat} {w2 w6 w7 w8 : Option W} {xs : List D} {k : Nat} {h : Hs} {En' : DEnds} (m0 : 0 < many) (m1 : many ≤ 10) (l0 : 2 ≤ xs.length) (l1 : xs.length ≤ 4) (hc : ∀ x ∈ xs, cntB x = true) (hs : SH k h) (hk : k ≤ 900100) (q : ∀ es h', cxT many es → SH (k + 8) h' → En'.rt (cxD es) h') :
    mCtail.d M F [some (.d (.ref 0)), some (.d (.int many)), w2, some (.d (.lst xs)), some (.own (alph.map D.str)), some (.own []), w6, w7, w8] h En' := by
  unfold mCtail m_law_context_T1
  generalize hm : m_law_context_B1 = mc
  simp [Ss.d, S.d, E.d, Ic.d, dItL]
  subst hm
  have al := alph_len
  refine ctx_loop f0 m0 m1 xs alph [] k h _ _ _ hc (fun _ h => h) (by simpa using alph_nd) (by omega) (by omega) (by simp) (by simpa using l1) hs (by omega) fun fs h' ys' w6 w7 w8 a b c d => ?_
  simp [wB1, wTuple, seqW, lstW, tupW]
  exact q fs _ ⟨by simp at c; omega, by simp at c; omega, a, b⟩ (d.mono (by omega))
theorem k_law_context {F : Fns} (f0 : F.f 12 = spDraw) (f16 : F.f 13 = spPick) : Kp M F m_law_context 9 spCtx := by
  intro xs h Q Z q0
  match xs, q0 with
  | [.ref 0, .int many], ⟨k, m, hm, hs, hk, m0, m1, q⟩ =>
    subst hm
    have hmm : ∃ a b, m_law_context = .cons (.own 2 a) (.cons (.app 2 b) (.cons (.frz 2 (.par3 false 3 (.call 13 (.cons (.var 0) (.cons (.var 2) (.nil)))) true 4 (.lstS (.str "abcehxyz")) true 5 (.lst (.nil)))) mCtail)) ∧
        (∀ ds h P Z, P (.new (rows0.take 9)) h → a.d F ds h P Z) ∧ (∀ ds h P Z, P (.new [.int 7, .int (10 ^ 40)]) h → b.d F ds h P Z) := by
      refine ⟨_, _, rfl, fun ds h P Z p => ?_, fun ds h P Z p => ?_⟩
      · simp [E.d, Es.d]
        exact ⟨by decide, by decide, by decide, by decide, by decide, by decide, p⟩
      · have pw : L2.CPow 10 40 := ⟨by decide, by decide, by decide⟩
        simp [E.d, Es.d, wBin, wInt]
        exact ⟨pw, by decide, p⟩
    obtain ⟨a, b, hmm, ha, hb⟩ := hmm
    rw [hmm]
    have tl := fun (w2 : Option W) (xs : List D) (h : Hs) (k : Nat) => ctail_ok (F := F) f0 (many := m) (w2 := w2) (w6 := none) (w7 := none) (w8 := none) (xs := xs) (k := k) (h := h) (En' := fin Q Z) m0 m1
    generalize mCtail = mt at tl ⊢
    simp [Ss.d, S.d, startD, List.replicate_succ]
    refine ha _ _ _ _ ⟨_, rfl, ?_⟩
    simp [dApp]
    refine ⟨by decide, hb _ _ _ _ ⟨_, rfl, ?_⟩⟩
    simp [dFrz, dPar3, E.d, Es.d, Es.len, f16, spPick]
    refine ⟨k, hs, by omega, by decide, fun r h' hr hs' => ?_⟩
    have hr' : r ∈ rows0 := by simpa [rows0, or_assoc] using hr
    obtain ⟨xs, rfl, l0, l1, hc⟩ := rowB_inv (rows0_ok r hr')
    simp [wListS, stW]
    refine ⟨by decide, ?_⟩
    rw [alphD]
    exact tl _ xs h' (k + 1) l0 l1 hc hs' (by omega) fun es h2 a b => q es h2 a (b.mono (by omega))
end K
set_option maxHeartbeats 4000000
set_option exponentiation.threshold 2000
namespace K
open PySem DL DP CO
/-- a drawn coder -/
structure coT (c : Co) : Prop where
  z0 : 2 ≤ c.z
  z1 : c.z ≤ 5
  c0 : 0 < c.cs.length
  c1 : c.cs.length ≤ 3
  cx : ∀ es ∈ c.cs, cxT c.cs.length es
  dv : c.dv ∈ (["fine", "coarse"] : List Str)
  mn : c.mn ∈ (["plain", "pending", "cut", "late"] : List Str)
theorem coT.ok {c : Co} (h : coT c) : c.ok := ⟨h.z0, h.z1, h.c0, by have := h.c1; omega, fun es he => (h.cx es he).ok, h.dv, h.mn⟩
theorem coT.cb {c : Co} (h : coT c) : c.cb 134 := fun es he e hee => ((h.cx es he).2.2.1 e hee).2.2.1
theorem cod_loop {F : Fns} (f17 : F.f 14 = spCtx) {m : Nat} {w2 w3 w4 w5 : Option W} {P : List D → Hs → Prop} (m0 : 0 < m) (m1 : m ≤ 10) (xs : List D) (k : Nat) (h : Hs) (l : xs.length ≤ 3) (hs : SH k h) (hk : k + 27 ≤ 900000)
    (q : ∀ (cs : List (List En)) h', (∀ c ∈ cs, cxT m c) → cs.length = xs.length → SH (k + 9 * xs.length) h' → P (cs.map cxD) h') :
    lcD [some (.d (.ref 0)), some (.d (.int m)), w2, w3, w4, w5] [5] (.nm 5) dYes (E.d F (.call 14 (.cons (.var 0) (.cons (.var 1) (.nil))))) P xs [] h := by
  refine lc_inv (fun i acc h => ∃ cs : List (List En), acc = cs.map cxD ∧ (∀ c ∈ cs, cxT m c) ∧ SH (k + 9 * i) h) xs (by unfold sizeLine; omega) (fun i x acc h Kp hx hI ha hK => ?_) ⟨[], rfl, by simp, hs⟩ fun acc h' hI hl => ?_
  · obtain ⟨cs, rfl, hc, hs'⟩ := hI
    have hi : i < xs.length := (List.getElem?_eq_some_iff.mp hx).1
    simp [wipeD, E.d, Es.d, Es.len, f17]
    refine ⟨k + 9 * i, m, rfl, hs', by omega, m0, m1, fun es h' hr hs2 => hK _ _ ⟨cs ++ [es], by simp, fun c hc' => ?_, hs2.mono (by omega)⟩⟩
    rcases List.mem_append.mp hc' with hc' | hc'
    · exact hc c hc'
    · simp at hc'; subst hc'; exact hr
  · obtain ⟨cs, rfl, hc, hs'⟩ := hI
    exact q cs h' hc (by simpa using hl) hs'
def spCoder : FnD := fun xs h P _ => match xs with
  | [.ref 0] => ∃ k, SH k h ∧ k ≤ 800000 ∧ ∀ co h', coT co → SH (k + 31) h' → P (coD co) h'
  | _ => False
theorem k_law_coder {F : Fns} (f15 : F.f 12 = spDraw) (f16 : F.f 13 = spPick) (f17 : F.f 14 = spCtx) : Kp M F m_law_coder 6 spCoder := by
  intro xs h Q Z q0
  match xs, q0 with
  | [.ref 0], ⟨k, hs, hk, q⟩ =>
    simp [m_law_coder, Ss.d, S.d, E.d, Es.d, Es.len, startD, List.replicate_succ, f15, f16, spDraw, wBin, wInt, fin]
    refine ⟨k, hs, by omega, fun r h1 r0 r1 s1 => ?_⟩
    obtain ⟨m, rfl⟩ := Int.eq_ofNat_of_zero_le r0
    simp [dPar2, Ic.d, E.d, Es.d, dLc, Oe.t, f16, f15, spDraw, wBin, wInt, Es.len]
    refine ⟨k + 1, s1, by omega, fun r2 h2 r20 r21 s2 => ?_⟩
    simp [spPick, stW]
    refine ⟨by decide, k + 2, s2, by omega, fun p h3 hp s3 => ?_⟩
    obtain ⟨p, rfl, hp2⟩ : ∃ s, p = .str s ∧ s ∈ (["fine", "coarse"] : List Str) := by
      rcases hp with rfl | rfl
      · exact ⟨_, rfl, by simp⟩
      · exact ⟨_, rfl, by simp⟩
    simp [dItR1, dCons]
    refine ⟨by omega, by omega, ?_⟩
    have e1 : (1 : Int) + (m : Int) = ((m + 1 : Nat) : Int) := by push_cast; omega
    rw [e1]
    refine cod_loop f17 (by omega) (by omega) _ (k + 3) h3 (by simp; omega) s3 (by omega) fun cs h4 ha hl s4 => ?_
    simp at hl s4
    simp [wB1, wTuple, seqW, lstW, tupW]
    refine ⟨by decide, k + 30, s4.mono (by omega), by omega, fun mn h5 hm s5 => ⟨by decide, ?_⟩⟩
    obtain ⟨mn, rfl, hm2⟩ : ∃ s, mn = .str s ∧ s ∈ (["plain", "pending", "cut", "late"] : List Str) := by
      rcases hm with rfl | rfl | rfl | rfl <;> exact ⟨_, rfl, by simp⟩
    exact q ⟨2 + r2, cs, p, mn⟩ _ ⟨by show 2 ≤ 2 + r2; omega, by show 2 + r2 ≤ 5; omega, by show 0 < cs.length; omega, by show cs.length ≤ 3; omega, fun es he => by
      show cxT cs.length es
      have : cs.length = m + 1 := by omega
      rw [this]; exact ha es he, hp2, hm2⟩ (s5.mono (by omega))
end K
set_option maxHeartbeats 4000000
set_option exponentiation.threshold 2000
namespace K
open PySem DL DP CO
theorem tl_empty : TL.tl Str.empty = [] := rfl
theorem lg60 {n : Nat} (h : n < 10 ^ 60) : ((n : Int).natAbs.log2) < 1920 := by
  rw [Int.natAbs_natCast]
  have : n < 2 ^ 1000 := Nat.lt_of_lt_of_le h (by decide +kernel)
  exact Nat.lt_of_le_of_lt (Nat.le_of_lt (log2_lt this (by decide))) (by decide)
theorem jsp2 {a b c : Str} (h : TL.tl c = TL.tl a ++ [32]) : jsp [a, b] = Str.empty ++ c ++ b := by
  refine TL.ext_tl ?_
  unfold jsp
  rw [tl_joinT, TL.tl_append, TL.tl_append, tl_empty, ey_sp, h]
  simp [TL.joinL]
theorem jsp3 {a b c : Str} : jsp [a, b, c] = Str.empty ++ a ++ " " ++ b ++ " " ++ c := by
  refine TL.ext_tl ?_
  unfold jsp
  rw [tl_joinT]
  simp only [TL.tl_append, tl_empty, ey_sp]
  simp [TL.joinL]
theorem len_app (a b : Str) : (a ++ b).length = a.length + b.length := by
  rw [TL.len_tl, TL.tl_append, List.length_append, ← TL.len_tl, ← TL.len_tl]
theorem num_len {n : Nat} (h : n < 10 ^ 60) : (numS n).length ≤ 60 := by
  rw [TL.len_tl, tl_numS]
  exact TL.numL_len (by decide) h
theorem let_len {s : Str} (h : CO.isL s = true) : s.length = 1 := by
  obtain ⟨c, _, rfl⟩ := isL_one h
  rfl
theorem joinL_ge {s : Nat} : ∀ {ps : List (List Nat)}, ps.length ≤ (TL.joinL [s] ps).length + 1 ∧ (ps.map (·.length)).sum ≤ (TL.joinL [s] ps).length ∧ (ps.map (·.length)).sum + ps.length ≤ (TL.joinL [s] ps).length + 1
  | [] => by simp [TL.joinL]
  | [p] => by simp [TL.joinL]
  | p :: q :: r => by
    have e : TL.joinL [s] (p :: q :: r) = p ++ ([s] ++ TL.joinL [s] (q :: r)) := rfl
    have ih := joinL_ge (s := s) (ps := q :: r)
    rw [e, List.length_append, List.length_append]
    simp only [List.length_cons, List.length_nil, List.map_cons, List.sum_cons] at ih ⊢
    omega
theorem jnl_ge (ls : List Str) : ls.length ≤ (jnl ls).length + 1 ∧ (ls.map (·.length)).sum + ls.length ≤ (jnl ls).length + 1 := by
  have := joinL_ge (s := 10) (ps := ls.map TL.tl)
  have e : (jnl ls).length = (TL.joinL [10] (ls.map TL.tl)).length := by
    unfold jnl
    rw [TL.len_tl, tl_joinT, ey_nl]
  rw [e]
  have e2 : (ls.map TL.tl).map (·.length) = ls.map (·.length) := by
    rw [List.map_map]
    exact List.map_congr_left fun x _ => (TL.len_tl x).symm
  rw [e2, List.length_map] at this
  exact ⟨this.1, this.2.2⟩
theorem jsp_one (s : Str) : jsp [s] = s := rfl
theorem lc_mp {α : Type} {ds : DSt} {vs : List Nat} {g : Tg} {te : TDE} {P : List D → Hs → Prop} {h : Hs} (d f : α → D) : ∀ (xs : List α) (acc : List D), (∀ x ∈ xs, ∀ Kp : D → Hs → Prop, Kp (f x) h → g.put (d x) (wipeD ds vs) fun ds2 => dD te ds2 h Kp noX) → acc.length + xs.length ≤ sizeLine → P (acc ++ xs.map f) h → lcD ds vs g dYes te P (xs.map d) acc h
  | [], acc, _, _, p => by rw [List.map_nil]; unfold lcD; simpa using p
  | x :: xs, acc, H, hl, p => by
    rw [List.map_cons]
    unfold lcD
    show g.put (d x) (wipeD ds vs) fun ds2 => if true = true then dD te ds2 h (fun y h3 => acc.length < sizeLine ∧ lcD ds vs g dYes te P (xs.map d) (acc ++ [y]) h3) noX else lcD ds vs g dYes te P (xs.map d) acc h
    simp only [if_true]
    refine H x (by simp) _ ⟨by simp at hl; omega, lc_mp d f xs (acc ++ [f x]) (fun y hy => H y (List.mem_cons_of_mem _ hy)) (by simp at hl ⊢; omega) (by simpa using p)⟩
def SL (ls : List Str) : Nat := (ls.map (·.length)).sum + ls.length
structure gL (m : Nat) (ls : List Str) : Prop where
  a : ∀ l ∈ ls, ∀ c ∈ l.cps.toList, c < 128
  s : SL ls ≤ m
theorem SL_cons (a : Str) (ls : List Str) : SL (a :: ls) = a.length + 1 + SL ls := by simp [SL]; omega
theorem SL_app (a b : List Str) : SL (a ++ b) = SL a + SL b := by simp [SL]; omega
theorem SL_mem {ls : List Str} {l : Str} (h : l ∈ ls) : l.length + 1 ≤ SL ls := by
  induction ls with
  | nil => cases h
  | cons a ls ih =>
    rw [SL_cons]
    rcases List.mem_cons.mp h with rfl | h
    · omega
    · have := ih h; omega
theorem SL_set : ∀ (ls : List Str) (i : Nat) (l : Str), SL (ls.set i l) ≤ SL ls + l.length
  | [], i, l => by simp [SL]
  | a :: ls, 0, l => by simp only [List.set_cons_zero]; rw [SL_cons, SL_cons]; omega
  | a :: ls, i + 1, l => by simp only [List.set_cons_succ]; rw [SL_cons, SL_cons]; have := SL_set ls i l; omega
theorem SL_erase : ∀ (ls : List Str) (i : Nat), SL (ls.eraseIdx i) ≤ SL ls
  | [], i => by simp [SL]
  | a :: ls, 0 => by simp only [List.eraseIdx_cons_zero]; rw [SL_cons]; omega
  | a :: ls, i + 1 => by simp only [List.eraseIdx_cons_succ]; rw [SL_cons, SL_cons]; have := SL_erase ls i; omega
theorem SL_len (ls : List Str) : ls.length ≤ SL ls := by unfold SL; omega
theorem gL.set {m : Nat} {ls : List Str} {i : Nat} {l : Str} (h : gL m ls) (hl : ∀ c ∈ l.cps.toList, c < 128) : gL (m + l.length) (ls.set i l) :=
  ⟨fun x hx => by
    rcases List.mem_or_eq_of_mem_set hx with hx | rfl
    · exact h.a x hx
    · exact hl, by have := SL_set ls i l; have := h.s; omega⟩
theorem gL.ins {m : Nat} {ls : List Str} {i : Nat} {l : Str} (h : gL m ls) (hl : ∀ c ∈ l.cps.toList, c < 128) : gL (m + l.length + 1) (ls.take i ++ [l] ++ ls.drop i) :=
  ⟨fun x hx => by
    simp only [List.mem_append, List.mem_singleton] at hx
    rcases hx with (hx | rfl) | hx
    · exact h.a x (List.mem_of_mem_take hx)
    · exact hl
    · exact h.a x (List.mem_of_mem_drop hx), by
    have e : SL (ls.take i) + SL (ls.drop i) = SL ls := by rw [← SL_app, List.take_append_drop]
    rw [SL_app, SL_app, SL_cons]
    have : SL [] = 0 := rfl
    have := h.s; omega⟩
theorem gL.app {m : Nat} {ls : List Str} {l : Str} (h : gL m ls) (hl : ∀ c ∈ l.cps.toList, c < 128) : gL (m + l.length + 1) (ls ++ [l]) :=
  ⟨fun x hx => by
    simp only [List.mem_append, List.mem_singleton] at hx
    rcases hx with hx | rfl
    · exact h.a x hx
    · exact hl, by
    rw [SL_app, SL_cons]
    have : SL [] = 0 := rfl
    have := h.s; omega⟩
theorem gL.er {m : Nat} {ls : List Str} {i : Nat} (h : gL m ls) : gL m (ls.eraseIdx i) :=
  ⟨fun x hx => h.a x (List.mem_of_mem_eraseIdx hx), by have := SL_erase ls i; have := h.s; omega⟩
theorem gL.mono {m n : Nat} {ls : List Str} (h : gL m ls) (l : m ≤ n) : gL n ls := ⟨h.a, Nat.le_trans h.s l⟩
theorem jl_len (s : Nat) : ∀ (ps : List (List Nat)), (TL.joinL [s] ps).length ≤ (ps.map (·.length)).sum + ps.length
  | [] => by simp [TL.joinL]
  | [p] => by simp [TL.joinL]
  | p :: q :: r => by
    have e : TL.joinL [s] (p :: q :: r) = p ++ ([s] ++ TL.joinL [s] (q :: r)) := rfl
    have ih := jl_len s (q :: r)
    rw [e, List.length_append, List.length_append]
    simp only [List.length_cons, List.length_nil, List.map_cons, List.sum_cons] at ih ⊢
    omega
theorem map_len_tl (ls : List Str) : ((ls.map TL.tl).map (·.length)).sum = (ls.map (·.length)).sum := by
  rw [List.map_map]
  congr 1
theorem gL.join {m : Nat} {ls : List Str} {y : Str} {s : Nat} (h : gL m ls) (ey : TL.tl y = [s]) (hs : s < 128) : okT m (Txt.join y ls) := by
  refine ⟨?_, fun c hc => ?_⟩
  · rw [TL.len_tl, tl_joinT, ey]
    have := jl_len s (ls.map TL.tl)
    rw [map_len_tl, List.length_map] at this
    have := h.s
    unfold SL at this
    omega
  · have hc' : c ∈ TL.tl (Txt.join y ls) := hc
    rw [tl_joinT, ey] at hc'
    rcases joinL_mem hc' with h1 | ⟨p, hp, h1⟩
    · simp at h1; omega
    · obtain ⟨l, hl, rfl⟩ := List.mem_map.mp hp
      exact h.a l hl c h1
theorem gL_ln {n : Nat} {t : Str} (h : okT n t) : gL (n + 1) (ln t) := by
  refine ⟨fun l hl => (ln_ok h hl).2, ?_⟩
  have := (jnl_ge (ln t)).2
  have e : jnl (ln t) = t := join_split ey_nl hk_nl
  rw [e] at this
  have := h.1
  unfold SL
  omega
theorem jsp_ge (ls : List Str) : (ls.map (·.length)).sum + ls.length ≤ (jsp ls).length + 1 := by
  have := (joinL_ge (s := 32) (ps := ls.map TL.tl)).2.2
  have e : (jsp ls).length = (TL.joinL [32] (ls.map TL.tl)).length := by
    unfold jsp
    rw [TL.len_tl, tl_joinT, ey_sp]
  rw [e]
  rw [map_len_tl, List.length_map] at this
  exact this
theorem gL_wd {n : Nat} {t : Str} (h : okT n t) : gL (n + 1) (wd t) := by
  refine ⟨fun l hl => (wd_ok h hl).2, ?_⟩
  have := jsp_ge (wd t)
  have e : jsp (wd t) = t := join_split ey_sp hk_sp
  rw [e] at this
  have := h.1
  unfold SL
  omega
/-- short plain texts -/
def shS (m : Nat) (s : Str) : Bool := decide (s.length ≤ m) && s.cps.toList.all fun c => decide (c < 128)
theorem shS_ok {m : Nat} {s : Str} (h : shS m s = true) : s.length ≤ m ∧ ∀ c ∈ s.cps.toList, c < 128 := by
  simp only [shS, Bool.and_eq_true, decide_eq_true_eq, List.all_eq_true] at h
  exact h
theorem coT.cr {c : Co} (h : coT c) : CoR c := by
  obtain ⟨z, hz⟩ := Int.eq_ofNat_of_zero_le (show 0 ≤ c.z by have := h.z0; omega)
  refine ⟨⟨z, hz, ?_⟩, fun es he e hee => ?_, h.dv, h.mn⟩
  · have := h.z1
    have : z ≤ 5 := by omega
    exact Nat.lt_of_le_of_lt this (by decide +kernel)
  · obtain ⟨_, _, h3, _⟩ := h.cx es he
    obtain ⟨a, b, c1, d⟩ := h3 e hee
    obtain ⟨k, hk⟩ := Int.eq_ofNat_of_zero_le (Int.le_of_lt b)
    refine ⟨alph_ok _ a, ⟨k, hk, by omega, ?_⟩, fun k hk => ?_⟩
    · have : k < 2 ^ 134 := by rw [hk] at c1; exact_mod_cast c1
      exact Nat.lt_of_lt_of_le this (by decide +kernel)
    · have := d k hk
      have := h.c1
      have : k ≤ 3 := by omega
      exact Nat.lt_of_le_of_lt this (by decide +kernel)
theorem SL_le {b : Nat} : ∀ {ls : List Str}, (∀ l ∈ ls, l.length ≤ b) → SL ls ≤ ls.length * (b + 1)
  | [], _ => by simp [SL]
  | a :: ls, h => by
    have := SL_le (b := b) (ls := ls) fun x hx => h x (List.mem_cons_of_mem _ hx)
    have := h a (by simp)
    rw [SL_cons, List.length_cons, Nat.add_mul ls.length 1]
    omega
theorem jsp_le {ws : List Str} {b : Nat} (h : ∀ w ∈ ws, w.length ≤ b) : (jsp ws).length ≤ ws.length * (b + 1) := by
  unfold jsp
  rw [TL.len_tl, tl_joinT, ey_sp]
  have := jl_len 32 (ws.map TL.tl)
  rw [map_len_tl, List.length_map] at this
  have h2 := SL_le h
  unfold SL at h2
  omega
theorem en_len {e : En} (h : EnR e) : (enTx e).length ≤ 183 := by
  obtain ⟨hl, ⟨k, hk, _, k1⟩, hn⟩ := h
  refine jsp_le (b := 60) fun w hw => ?_
  simp only [enWs, List.mem_cons, List.not_mem_nil, or_false] at hw
  rcases hw with rfl | rfl | rfl
  · rw [let_len hl]; omega
  · rw [hk]; exact num_len k1
  · cases h : e.n with
    | none => exact (by decide +kernel : ("end" : Str).length ≤ 60)
    | some j => exact num_len (hn j h)
theorem cs_len {cs : List (List En)} (h3 : ∀ es ∈ cs, es.length ≤ 4) : (csWs cs).length ≤ cs.length * 5 := by
  induction cs with
  | nil => simp [csWs]
  | cons es cs ih =>
    have := ih fun x hx => h3 x (List.mem_cons_of_mem _ hx)
    have := h3 es (by simp)
    have e : csWs (es :: cs) = [("context" : Str)] :: (es.map enWs ++ csWs cs) := by simp [csWs]
    rw [e]
    simp
    omega
theorem okT_co {c : Co} (h : coT c) : okT 3330 (coTx c) := by
  have cr := h.cr
  have fc := fr_co cr
  have c1 := h.c1
  have hl : ∀ ws ∈ coWs c, (jsp ws).length ≤ 184 := by
    intro ws hw
    unfold coWs at hw
    rcases List.mem_append.mp hw with hw | hw
    · simp only [hdWs, List.mem_cons, List.not_mem_nil, or_false] at hw
      obtain ⟨z, hz, hz1⟩ := cr.z
      rcases hw with rfl | rfl | rfl
      · refine Nat.le_trans (jsp_le (b := 60) fun w hw => ?_) (by simp)
        simp only [List.mem_cons, List.not_mem_nil, or_false] at hw
        rcases hw with rfl | rfl
        · decide +kernel
        · rw [hz]; exact num_len hz1
      · refine Nat.le_trans (jsp_le (b := 60) fun w hw => ?_) (by simp)
        simp only [List.mem_cons, List.not_mem_nil, or_false] at hw
        rcases hw with rfl | rfl
        · decide +kernel
        · have : ∀ s ∈ (["fine", "coarse"] : List Str), s.length ≤ 60 := by decide +kernel
          exact this _ cr.dv
      · refine Nat.le_trans (jsp_le (b := 60) fun w hw => ?_) (by simp)
        simp only [List.mem_cons, List.not_mem_nil, or_false] at hw
        rcases hw with rfl | rfl
        · decide +kernel
        · have : ∀ s ∈ (["plain", "pending", "cut", "late"] : List Str), s.length ≤ 60 := by decide +kernel
          exact this _ cr.mn
    · unfold csWs at hw
      obtain ⟨l, hl, hw⟩ := List.mem_flatten.mp hw
      obtain ⟨es, he, rfl⟩ := List.mem_map.mp hl
      rcases List.mem_cons.mp hw with rfl | hw
      · exact (by decide +kernel : (jsp [("context" : Str)]).length ≤ 184)
      · obtain ⟨e, hee, rfl⟩ := List.mem_map.mp hw
        exact Nat.le_trans (en_len (cr.cs es he e hee)) (by decide)
  have hn : (coWs c).length ≤ 18 := by
    unfold coWs hdWs
    have := cs_len (cs := c.cs) fun es he => (h.cx es he).2.1
    simp
    omega
  have g : gL 3330 ((coWs c).map jsp) := by
    refine ⟨fun l hl => ?_, ?_⟩
    · obtain ⟨ws, hw, rfl⟩ := List.mem_map.mp hl
      exact asc_jsp (fc ws hw).2
    · have := SL_le (b := 184) (ls := (coWs c).map jsp) fun l h2 => by
        obtain ⟨ws, hw, rfl⟩ := List.mem_map.mp h2
        exact hl ws hw
      rw [List.length_map] at this
      have : (coWs c).length * 185 ≤ 18 * 185 := Nat.mul_le_mul_right _ hn
      omega
  exact g.join ey_nl (by decide)
theorem num_lt_len (k : Nat) : k < 10 ^ (numS k).length := by
  have := dvLt (TL.numL k) 0 (TL.numL_digits k)
  have e : NumText.digitsVal (TL.numL k) = k := TL.numL_val k
  unfold NumText.digitsVal at e
  rw [e] at this
  rw [TL.len_tl, tl_numS]
  simpa using this
theorem bd_num {k : Nat} (h : k < 10 ^ 60) : Bd (4 * (numS k).length + 3) 0 (.int k) := by
  have h1 := num_len h
  have h2 := num_lt_len k
  refine bd_int (k := 4 * (numS k).length) (by omega) ?_
  rw [Int.natAbs_natCast]
  by_cases h0 : k = 0
  · subst h0; simp
  · refine Nat.le_of_lt ((Nat.log2_lt h0).mpr (Nat.lt_of_lt_of_le h2 ?_))
    rw [Nat.pow_mul]
    exact Nat.pow_le_pow_left (by decide) _
theorem num_ne (k : Nat) : 1 ≤ (numS k).length := by
  rw [TL.len_tl, tl_numS]
  exact List.length_pos_iff.mpr (TL.numL_ne k)
theorem bd_enL {e : En} (h : EnR e) : Bd (12 * SL (enWs e)) 1 (CO.enD e) ∧ 6 ≤ SL (enWs e) := by
  obtain ⟨hl, ⟨k, hk, _, k1⟩, hn⟩ := h
  have hs : SL (enWs e) = 1 + (numS k).length + (nxS e.n).length + 3 := by
    unfold enWs SL
    rw [hk]
    simp [let_len hl]
    omega
  have n1 := num_ne k
  have hnx : Bd (4 * (nxS e.n).length + 4) 0 (nxD e.n) ∧ 1 ≤ (nxS e.n).length := by
    cases h : e.n with
    | none => exact ⟨bd_non.mono, (by decide +kernel : 1 ≤ ("end" : Str).length)⟩
    | some j =>
      have e : (nxS (some j)).length = (numS j).length := rfl
      exact ⟨(bd_num (hn j h)).mono (by rw [e]; omega), num_ne j⟩
  have hc := bd_num k1
  have hc : Bd (4 * (numS (k : Int)).length + 3) 0 (.int e.c) := by rw [hk]; exact hc
  rw [hs]
  exact ⟨(Bds.cons (bd_l hl) (Bds.cons hc (Bds.cons hnx.1 (Bds.nil (d := 0))))).tup.mono, by have := hnx.2; omega⟩
def SR (R : List (List Str)) : Nat := (R.map SL).sum
theorem bds_es : ∀ {es : List En}, (∀ e ∈ es, EnR e) → Bds (14 * SR (es.map enWs)) 1 (es.map CO.enD)
  | [], _ => (Bds.nil (d := 0)).mono
  | e :: es, h => by
    obtain ⟨b, l⟩ := bd_enL (h e (by simp))
    have := bds_es (es := es) fun x hx => h x (List.mem_cons_of_mem _ hx)
    refine (Bds.cons b this).mono ?_
    simp only [SR, List.map_cons, List.sum_cons]
    omega
theorem SR_app (a b : List (List Str)) : SR (a ++ b) = SR a + SR b := by simp [SR]
theorem bds_cs : ∀ {cs : List (List En)}, (∀ es ∈ cs, ∀ e ∈ es, EnR e) → Bds (14 * SR (csWs cs)) 2 (cs.map cxD)
  | [], _ => (Bds.nil (d := 0)).mono
  | es :: cs, h => by
    have b : Bd _ 2 (cxD es) := (bds_es (h es (by simp))).tup
    have := bds_cs (cs := cs) fun x hx => h x (List.mem_cons_of_mem _ hx)
    refine (Bds.cons b this).mono ?_
    have e : csWs (es :: cs) = [("context" : Str)] :: (es.map enWs ++ csWs cs) := by simp [csWs]
    have e2 : SL [("context" : Str)] = 8 := by decide +kernel
    rw [e]
    have e3 : SR ([("context" : Str)] :: (es.map enWs ++ csWs cs)) = SL [("context" : Str)] + (SR (es.map enWs) + SR (csWs cs)) := by
      rw [← SR_app]; simp [SR]
    rw [e3, e2]
    omega
theorem SR_le (R : List (List Str)) : SR R ≤ ((R.map jsp).map (·.length)).sum + R.length := by
  induction R with
  | nil => simp [SR]
  | cons a R ih =>
    have := jsp_ge a
    simp only [SR, List.map_cons, List.sum_cons, List.length_cons] at ih ⊢
    unfold SL at ih ⊢
    omega
/-- values of texts that can be read are shown, compared -/
theorem bd_coR {c : Co} {t : Str} (h : CoR c) (ht : t = coTx c) (ho : okT 100000 t) : Bd 2000000 4 (coD c) := by
  have g := (jnl_ge ((coWs c).map jsp)).2
  have e : jnl ((coWs c).map jsp) = t := ht.symm
  rw [e, List.length_map] at g
  have hs := SR_le (coWs c)
  have e2 : SR (coWs c) = SR (hdWs c) + SR (csWs c.cs) := by unfold coWs; rw [SR_app]
  have hl := ho.1
  obtain ⟨z, hz, hz1⟩ := h.z
  have bz : Bd 1003 0 (.int c.z) := by rw [hz]; exact bd_intD hz1
  exact (Bds.cons bz (Bds.cons (bds_cs h.cs).tup (Bds.cons (dv_bd _ h.dv) (Bds.cons (mn_bd _ h.mn) (Bds.nil (d := 0)))))).tup.mono
end K
set_option maxHeartbeats 4000000
set_option exponentiation.threshold 2000
namespace K
open PySem DL DP CO
def mdZ (P : D → Hs → Prop) (x : Xn) (h : Hs) : Prop := x.c = 0 ∧ ∃ l k, x.fs = ([("field", k), ("line", l)] : List (Str × D)) ∧ P (.tup [.str "InvalidText", l, k]) h
def spMade : HFn := fun act h P _ => ∀ (P1 : D → Hs → Prop) (Z1 : XD), (∀ d h', P (.tup [.str "told", d]) h' → P1 d h') → (∀ x h', mdZ P x h' → Z1 x h') → act h P1 Z1
theorem k_law_made {F : Fns} : KpH M F m_law_made 3 spMade := by
  intro f act h Q Z q
  simp [m_law_made, Ss.d, S.d, dTryAs, E.d, Es.d, startF, sl24]
  refine q _ _ (fun d h' p => by simpa [fin] using p) fun x h' p => ?_
  have hb : (Str.ofString "line" == Str.ofString "field") = false := by decide +kernel
  obtain ⟨hc, l, k, hf, p⟩ := p
  refine ⟨by rw [hc]; decide, ?_⟩
  simp [M, hc, hf, xvals, XI.val, List.lookup, hb, Sk.go, fin]
  exact p
end K
set_option maxHeartbeats 4000000
set_option exponentiation.threshold 2000
namespace K
open PySem DL DP CO
theorem empty_app (s : Str) : Str.empty ++ s = s := TL.ext_tl (by rw [TL.tl_append] <;> rfl)
theorem b1_len : wB1 B1.len = wLen := rfl
def spEnT : FnD := fun xs h P _ => match xs with
  | [x] => ∃ e, x = CO.enD e ∧ EnR e ∧ P (.str (enTx e)) h
  | _ => False
theorem k_law_entry_text {F : Fns} : Kp M F m_law_entry_text 1 spEnT := by
  intro xs h Q Z q0
  match xs, q0 with
  | [x], ⟨e, hx, ok, q⟩ =>
    subst hx
    obtain ⟨hl, ⟨k, hk, k0, k1⟩, hn⟩ := ok
    have l1 := let_len hl
    have l2' : (Str.ofString ((k : Int).repr)).length ≤ 60 := num_len k1
    have e1 : (" " : Str).length = 1 := by decide +kernel
    have e3 : ("end" : Str).length = 3 := by decide +kernel
    have lk := lg60 k1
    rw [Int.natAbs_natCast] at lk
    unfold enTx enWs at q
    rw [jsp3, hk, empty_app] at q
    unfold CO.enD
    cases hne : e.n with
    | none =>
      rw [hne] at q
      simp [m_law_entry_text, Ss.d, S.d, E.d, E.t, Es.d, Es.len, startD, List.replicate_succ, fin, nxD, hk, wIx, seqW, lstW, tupW, L2.atI, L2.ixN, wBin, wCat, wB1, wStrc]
      exact ⟨slB (by omega), lk, slB (by simp only [len_app]; omega), slB (by simp only [len_app]; omega), slB (by simp only [len_app]; omega), q⟩
    | some j =>
      rw [hne] at q
      have hj := hn j hne
      have lj := lg60 hj
      rw [Int.natAbs_natCast] at lj
      have l3 : (Str.ofString ((j : Int).repr)).length ≤ 60 := num_len hj
      simp [m_law_entry_text, Ss.d, S.d, E.d, E.t, Es.d, Es.len, startD, List.replicate_succ, fin, nxD, hk, wIx, seqW, lstW, tupW, L2.atI, L2.ixN, wBin, wCat, wB1, wStrc]
      exact ⟨slB (by omega), lk, slB (by simp only [len_app]; omega), slB (by simp only [len_app]; omega), lj, slB (by simp only [len_app]; omega), q⟩
def spCoT : FnD := fun xs h P _ => match xs with
  | [x] => ∃ c, x = coD c ∧ CoR c ∧ (coTx c).length ≤ 100000 ∧ P (.str (coTx c)) h
  | _ => False
theorem ct_turnT {F : Fns} (f0 : F.f 16 = spEnT) {w0 w3 : Option W} {h : Hs} {E' : DEnds} : ∀ (cs : List (List En)) (ls : List Str) (w2 : Option W), (∀ es ∈ cs, ∀ e ∈ es, EnR e) → ls.length + ((csWs cs).length) ≤ 200000 →
    (∀ w2, E'.nx [w0, some (.d (.lst ((ls ++ (csWs cs).map jsp).map D.str))), w2, w3] h) →
    forD (.nm 2) (m_law_coder_text_B1.d M F) E' (cs.map cxD) [w0, some (.d (.lst (ls.map D.str))), w2, w3] h
  | [], ls, w2, hr, hl, q => by
    unfold forD
    simpa [csWs] using q w2
  | es :: cs, ls, w2, hr, hl, q => by
    rw [List.map_cons]
    unfold forD
    rw [put_nm]
    have e : csWs (es :: cs) = [("context" : Str)] :: (es.map enWs ++ csWs cs) := by simp [csWs]
    rw [e] at hl
    simp only [List.length_cons, List.length_append, List.length_map] at hl
    have ih := fun w2 => ct_turnT f0 (w0 := w0) (w3 := w3) (h := h) (E' := E') cs (ls ++ (("context" : Str) :: es.map enTx)) w2 (fun x hx => hr x (List.mem_cons_of_mem _ hx)) (by simp; omega) (fun w2 => by
      have := q w2
      rw [e] at this
      have e2 : ls ++ List.map jsp ([("context" : Str)] :: (es.map enWs ++ csWs cs)) = ls ++ (("context" : Str) :: es.map enTx) ++ (csWs cs).map jsp := by
        simp [jsp_one, enTx]
      rw [e2] at this
      exact this)
    generalize forD (.nm 2) (m_law_coder_text_B1.d M F) E' (cs.map cxD) = rest at ih ⊢
    simp [m_law_coder_text_B1, Ss.d, S.d, E.d, Es.d, Es.len, Ic.d, Oe.t, dLc, f0, wBin, wCat, lsjW]
    refine ⟨slB (by decide), slB (by omega), ?_⟩
    unfold dItT
    simp [cxD]
    refine lc_mp CO.enD (fun e => D.str (enTx e)) es [] (fun e he Kp k => ?_) (by simp; exact slB (by omega)) ?_
    · simp [Tg.put, wipeD, spEnT]
      exact ⟨e, rfl, hr es (by simp) e he, k⟩
    · simp
      exact ⟨slB (by omega), by simpa [Function.comp_def] using ih _⟩
theorem k_law_coder_text {F : Fns} (f0 : F.f 16 = spEnT) : Kp M F m_law_coder_text 4 spCoT := by
  intro xs h Q Z q0
  match xs, q0 with
  | [x], ⟨c, hx, cr, hl, q⟩ =>
    subst hx
    have hq : (hdWs c).map jsp ++ (csWs c.cs).map jsp = (coWs c).map jsp := by unfold coWs; rw [List.map_append]
    have gl := jnl_ge ((coWs c).map jsp)
    unfold coTx at hl q
    have hlen : (csWs c.cs).length + 3 ≤ 100001 := by
      have := gl.1
      rw [← hq] at this
      simp [hdWs] at this
      rw [← hq] at hl
      simp [hdWs] at hl
      omega
    have lp := fun w0 E' => ct_turnT f0 (w0 := w0) (w3 := none) (h := h) (E' := E') c.cs ((hdWs c).map jsp) none cr.cs (by simp [hdWs]; omega)
    obtain ⟨⟨z, hz, hz1⟩, hcs, hdv, hmn⟩ := cr
    have l2 : (Str.ofString ((z : Int).repr)).length ≤ 60 := num_len hz1
    have ld : c.dv.length ≤ 10 := by
      have : ∀ s ∈ (["fine", "coarse"] : List Str), s.length ≤ 10 := by decide +kernel
      exact this _ hdv
    have lm : c.mn.length ≤ 10 := by
      have : ∀ s ∈ (["plain", "pending", "cut", "late"] : List Str), s.length ≤ 10 := by decide +kernel
      exact this _ hmn
    have g1 : ("size " : Str).length = 5 := by decide +kernel
    have g2 : ("division " : Str).length = 9 := by decide +kernel
    have g3 : ("manner " : Str).length = 7 := by decide +kernel
    have eh : (hdWs c).map jsp = [("size " : Str) ++ numS z, ("division " : Str) ++ c.dv, ("manner " : Str) ++ c.mn] := by
      unfold hdWs
      simp only [List.map_cons, List.map_nil]
      rw [jsp2 (c := ("size " : Str)) (by decide +kernel), jsp2 (c := ("division " : Str)) (by decide +kernel), jsp2 (c := ("manner " : Str)) (by decide +kernel), hz, empty_app, empty_app, empty_app]
    rw [eh] at lp hq
    unfold m_law_coder_text m_law_coder_text_T1
    generalize m_law_coder_text_B1 = b at lp ⊢
    unfold coD
    rw [hz]
    simp [Ss.d, S.d, E.d, Es.d, Es.len, Ic.d, startD, List.replicate_succ, dItT, wIx, seqW, lstW, tupW, L2.atI, L2.ixN, wBin, wCat, wB1, wStrc]
    have lz : z.log2 < 1920 := by have := lg60 hz1; rwa [Int.natAbs_natCast] at this
    refine ⟨lz, slB (by omega), slB (by omega), slB (by omega), slB (by omega), ?_⟩
    refine lp _ _ fun w6 => ?_
    rw [hq]
    simp [dJoin, fin]
    refine ⟨_, (coWs c).map jsp, rfl, by simp [seqW, lstW], ?_, _, rfl, q⟩
    have g4 : ("\n" : Str).length = 1 := by decide +kernel
    have := gl.2
    rw [g4, Nat.mul_one]
    omega
def spSpL : FnD := fun xs h P _ => match xs with
  | [.ref 0, .str t] => ∃ k n, SH k h ∧ k ≤ 800000 ∧ okT n t ∧ n ≤ 20000 ∧ ∀ t' h', okT (4 * n + 80) t' → SH (k + 4) h' → P (.str t') h'
  | _ => False
section
variable {F : Fns} (f0 : F.f 12 = spDraw) (f1 : F.f 13 = spPick)
theorem sl_T5 {m : Nat} {ls : List Str} {w0 w1 w3 w4 w5 : Option W} {h : Hs} {E' : DEnds} (g : gL m ls) (hm : m ≤ 100000) (q : ∀ t, okT m t → E'.rt (.str t) h) :
    m_law_spoilt_line_T5.d M F [w0, w1, some (.own (ls.map D.str)), w3, w4, w5] h E' := by
  simp [m_law_spoilt_line_T5, Ss.d, S.d, E.d, dFrz, dJoin]
  have g4 : (" " : Str).length = 1 := by decide +kernel
  refine ⟨_, ls, rfl, by simp [seqW, lstW], ?_, _, rfl, q _ (g.join ey_sp (by decide))⟩
  have := g.s
  unfold SL at this
  rw [g4]
  omega
theorem cut_sub {s : Str} {lo hi : Option Int} {n : Nat} (h : s.length ≤ n ∧ ∀ c ∈ s.cps.toList, c < 128) : (L2.cutS s lo hi).length ≤ n ∧ ∀ c ∈ (L2.cutS s lo hi).cps.toList, c < 128 := by
  refine ⟨Nat.le_trans (L2.cutS_length s lo hi) h.1, fun c hc => ?_⟩
  have hc' : c ∈ List.take (HT.sIx s.length s.length hi - HT.sIx s.length 0 lo) (List.drop (HT.sIx s.length 0 lo) s.cps.toList) := hc
  exact h.2 c (List.mem_of_mem_drop (List.mem_of_mem_take hc'))
theorem ixN_n {n k : Nat} (h : k < n) : L2.ixN n (k : Int) = some k := by unfold L2.ixN; rw [if_pos (by omega), if_pos (by omega)]; simp
def odds : List Str := ["", "0", "00", "07", "7", repStr "1" 60, repStr "1" 61, "end", "End", "context", "size", "fine", "late", "a", "A", "ab", "-1", "1.", "\n"]
theorem odds_ok : ∀ s ∈ odds, shS 61 s = true := by decide +kernel
theorem sl_T4 {m a : Nat} {w : Int} {ls : List Str} {w0 w1 w5 : Option W} {h : Hs} {E' : DEnds} (g : gL m ls) (hm : m ≤ 50000) (ha : w = 5 → a < ls.length) (q : ∀ t, okT (2 * m) t → E'.rt (.str t) h) :
    m_law_spoilt_line_T4.d M F [w0, w1, some (.own (ls.map D.str)), some (.d (.int a)), some (.d (.int w)), w5] h E' := by
  have t5 := fun (m : Nat) (ls : List Str) (g : gL m ls) (hm : m ≤ 100000) => sl_T5 (F := F) (w0 := w0) (w1 := w1) (w3 := some (.d (.int a))) (w4 := some (.d (.int w))) (w5 := w5) (h := h) (E' := E') g hm
  unfold m_law_spoilt_line_T4
  generalize m_law_spoilt_line_T5 = T5 at t5 ⊢
  simp [Ss.d, S.d, E.d, E.t, wCmp, wEq]
  by_cases h5 : w = 5
  · rw [if_pos h5]
    have ha := ha h5
    have hl := SL_mem (List.getElem_mem ha)
    have gs := g.s
    simp [dSix, E.d, dSl, dNo, dPart, Oe.d]
    simp only [wIx]
    refine ⟨ls.map D.str, .str ls[a], rfl, by rw [atI_n (by simpa using ha), List.getElem_map], ?_⟩
    obtain ⟨ca, cb⟩ := cut_sub (lo := none) (hi := some (-1)) (n := m) ⟨by omega, g.a _ (List.getElem_mem ha)⟩
    have gg := g.set (i := a) cb
    refine ⟨_, rfl, slB (by omega), _, rfl, a, by simpa using ixN_n ha, ?_⟩
    have := t5 _ (ls.set a (L2.cutS ls[a] none (some (-1)))) gg (by omega) fun t ht => q t (ht.mono (by omega))
    rw [List.map_set] at this
    exact this
  · rw [if_neg h5]
    exact t5 m ls g (by omega) fun t ht => q t (ht.mono (by omega))
theorem odd_mem {r : D} (h : r ∈ odds.map D.str) : ∃ s : Str, r = .str s ∧ s.length ≤ 61 ∧ ∀ c ∈ s.cps.toList, c < 128 := by
  obtain ⟨s, hs, rfl⟩ := List.mem_map.mp h
  exact ⟨s, rfl, shS_ok (odds_ok s hs)⟩
theorem odd_pick {k : Nat} {h : Hs} {P : D → Hs → Prop} {Z : XD} (hs : SH k h) (hk : k ≤ 1000000) (q : ∀ s : Str, ∀ h', s.length ≤ 61 → (∀ c ∈ s.cps.toList, c < 128) → SH (k + 1) h' → P (.str s) h') : spPick [.ref 0, .lst (odds.map D.str)] h P Z := by
  refine ⟨k, hs, hk, by decide, by decide, fun r h' hr s' => ?_⟩
  obtain ⟨s, rfl, a, b⟩ := odd_mem hr
  exact q s h' a b s'
include f1 in
theorem sl_T3 {k m a : Nat} {w : Int} {ls : List Str} {w1 : Option W} {h : Hs} {E' : DEnds} (g : gL m ls) (hm : m ≤ 45000) (ha : w = 5 → a < ls.length) (hs : SH k h) (hk : k ≤ 900000) (q : ∀ t k' h', okT (2 * m) t ∨ okT (m + 62) t → k' ≤ k + 1 → SH k' h' → E'.rt (.str t) h') :
    m_law_spoilt_line_T3.d M F [some (.d (.ref 0)), w1, some (.own (ls.map D.str)), some (.d (.int a)), some (.d (.int w)), some (.d (.lst (odds.map D.str)))] h E' := by
  have l0 := SL_len ls
  have gs := g.s
  unfold m_law_spoilt_line_T3
  by_cases h4 : w = 4
  · subst h4
    have t5 := fun (m : Nat) (ls : List Str) h' (g : gL m ls) (hm : m ≤ 100000) => sl_T5 (F := F) (w0 := some (.d (.ref 0))) (w1 := w1) (w3 := some (.d (.int a))) (w4 := some (.d (.int 4))) (w5 := some (.d (.lst (odds.map D.str)))) (h := h') (E' := E') g hm
    unfold m_law_spoilt_line_T4
    generalize m_law_spoilt_line_T5 = T5 at t5 ⊢
    generalize hod : odds.map D.str = od at t5 ⊢
    simp [Ss.d, S.d, E.d, E.t, Es.d, Es.len, f1, wCmp, wEq, dApp]
    refine ⟨slB (by omega), ?_⟩
    rw [← hod]
    refine odd_pick hs (by omega) fun s h' hs1 hs2 s' => ?_
    have := t5 _ (ls ++ [s]) h' (g.app hs2) (by omega) fun t ht => q t (k + 1) h' (.inr (ht.mono (by omega))) (by omega) s'
    rw [hod]
    simpa using this
  · have t4 := sl_T4 (F := F) (w := w) (w0 := some (.d (.ref 0))) (w1 := w1) (w5 := some (.d (.lst (odds.map D.str)))) (h := h) (E' := E') g (by omega) ha fun t ht => q t k h (.inl ht) (by omega) hs
    generalize m_law_spoilt_line_T4 = T4 at t4 ⊢
    generalize hod : odds.map D.str = od at t4 ⊢
    simp [Ss.d, S.d, E.d, E.t, Es.d, Es.len, f1, wCmp, wEq]
    rw [if_neg h4]
    exact t4
include f1 in
theorem sl_T2 {k m a : Nat} {w : Int} {ls : List Str} {w1 : Option W} {h : Hs} {E' : DEnds} (g : gL m ls) (hm : m ≤ 44000) (ha : w ≠ 0 → a < ls.length) (hs : SH k h) (hk : k ≤ 900000) (q : ∀ t k' h', okT (2 * m) t ∨ okT (m + 62) t → k' ≤ k + 1 → SH k' h' → E'.rt (.str t) h') :
    m_law_spoilt_line_T2.d M F [some (.d (.ref 0)), w1, some (.own (ls.map D.str)), some (.d (.int a)), some (.d (.int w)), some (.d (.lst (odds.map D.str)))] h E' := by
  have l0 := SL_len ls
  have gs := g.s
  unfold m_law_spoilt_line_T2
  by_cases h23 : w = 2 ∨ w = 3
  · have ha := ha (by omega)
    have t5 := fun (m : Nat) (ls : List Str) h' (g : gL m ls) (hm : m ≤ 100000) => sl_T5 (F := F) (w0 := some (.d (.ref 0))) (w1 := w1) (w3 := some (.d (.int a))) (w4 := some (.d (.int w))) (w5 := some (.d (.lst (odds.map D.str)))) (h := h') (E' := E') g hm
    unfold m_law_spoilt_line_T3 m_law_spoilt_line_T4
    generalize m_law_spoilt_line_T5 = T5 at t5 ⊢
    generalize hod : odds.map D.str = od at t5 ⊢
    have n4 : ¬ w = 4 := by omega
    have n5 : ¬ w = 5 := by omega
    simp [Ss.d, S.d, E.d, E.t, Es.d, Es.len, f1, wCmp, wIn, wEq, dSix, n4, n5]
    refine ⟨slB (by decide), [2, 3], rfl, ?_⟩
    rw [if_pos (by simpa using h23), ← hod]
    refine odd_pick hs (by omega) fun s h' hs1 hs2 s' => ?_
    refine ⟨a, ixN_n ha, ?_⟩
    have := t5 _ (ls.set a s) h' (g.set hs2) (by omega) fun t ht => q t (k + 1) h' (.inr (ht.mono (by omega))) (by omega) s'
    rw [List.map_set] at this
    rw [hod]
    exact this
  · have t3 := sl_T3 (F := F) f1 (w := w) (w1 := w1) (h := h) (E' := E') g (by omega) (fun h5 => ha (by omega)) hs hk q
    generalize m_law_spoilt_line_T3 = T3 at t3 ⊢
    generalize hod : odds.map D.str = od at t3 ⊢
    simp [Ss.d, S.d, E.d, E.t, Es.d, Es.len, f1, wCmp, wIn, wEq]
    refine ⟨slB (by decide), [2, 3], rfl, ?_⟩
    rw [if_neg (by simpa using h23)]
    exact t3
include f1 in
theorem sl_T1 {k m a : Nat} {w : Int} {ls : List Str} {w1 : Option W} {h : Hs} {E' : DEnds} (g : gL m ls) (hm : m ≤ 20010) (ha : w ≠ 0 → a < ls.length) (hs : SH k h) (hk : k ≤ 890000) (q : ∀ t k' h', okT (4 * m + 66) t → k' ≤ k + 2 → SH k' h' → E'.rt (.str t) h') :
    m_law_spoilt_line_T1.d M F [some (.d (.ref 0)), w1, some (.own (ls.map D.str)), some (.d (.int a)), some (.d (.int w)), some (.d (.lst (odds.map D.str)))] h E' := by
  have l0 := SL_len ls
  have gs := g.s
  have t2 := fun (m' k' : Nat) (ls : List Str) h' (g : gL m' ls) (hm : m' ≤ 44000) ha hs hk => sl_T2 (F := F) f1 (k := k') (a := a) (w := w) (ls := ls) (w1 := w1) (h := h') (E' := E') g hm ha hs hk
  unfold m_law_spoilt_line_T1
  generalize m_law_spoilt_line_T2 = T2 at t2 ⊢
  generalize hod : odds.map D.str = od at t2 ⊢
  by_cases h1 : w = 1
  · have ha := ha (by omega)
    simp [Ss.d, S.d, E.d, E.t, Es.w, Es.len, f1, wCmp, wIn, wEq, dIns, dCallQ, dConsW, dNilW]
    rw [if_pos h1]
    obtain ⟨b, r, hbr⟩ : ∃ b r, ls = b :: r := by cases ls with | nil => simp at ha | cons b r => exact ⟨b, r, rfl⟩
    refine ⟨slB (by omega), a, rfl, by omega, ⟨rfl, by rw [hbr] <;> rfl⟩, ?_⟩
    simp only [wD]
    refine ⟨k, hs, by omega, by rw [List.length_map]; omega, by rw [List.length_map]; omega, fun r h' hr s' => ?_⟩
    obtain ⟨s, hsl, rfl⟩ := List.mem_map.mp hr
    have sa := SL_mem hsl
    refine ⟨rfl, s'.no, ?_⟩
    have := t2 (m + s.length + 1) (k + 1) (ls.take a ++ [s] ++ ls.drop a) h' (g.ins (g.a s hsl)) (by omega) (fun _ => by rw [List.length_append, List.length_append, List.length_take, List.length_drop, List.length_singleton]; omega) s' (by omega) fun t k' h' ht hk' s' => q t k' h' (by rcases ht with ht | ht <;> exact ht.mono (by omega)) (by omega) s'
    simpa using this
  · simp [Ss.d, S.d, E.d, E.t, wCmp, wEq]
    rw [if_neg h1]
    exact t2 m k ls h g (by omega) ha hs (by omega) fun t k' h' ht hk' s' => q t k' h' (by rcases ht with ht | ht <;> exact ht.mono (by omega)) (by omega) s'
include f0 f1 in
theorem k_law_spoilt_line_ : Kp M F m_law_spoilt_line 6 spSpL := by
  intro xs h Q Z q0
  match xs, q0 with
  | [.ref 0, .str t], ⟨k, n, hs, hk, ho, hn, q⟩ =>
    have hl : t.length ≤ n := ho.1
    have gl := gL_wd ho
    have hne := wd_ne t
    have hp : 0 < (wd t).length := List.length_pos_iff.mpr hne
    have ll := SL_len (wd t)
    have gs := gl.s
    have t1 := fun (m k' : Nat) (a : Nat) (w : Int) (ls : List Str) h' (E' : DEnds) (g : gL m ls) (hm : m ≤ 20010) ha (s : SH k' h') (hk' : k' ≤ 890000) => sl_T1 (F := F) f1 (a := a) (w := w) (w1 := some (.d (.str t))) (E' := E') g hm ha s hk'
    have el : (Txt.split t (Str.ofString " ")) = wd t := rfl
    have eo : (odds.map D.str) = [D.str (Str.ofString ""), D.str (Str.ofString "0"), D.str (Str.ofString "00"), D.str (Str.ofString "07"), D.str (Str.ofString "7"), D.str (repStr "1" 60), D.str (repStr "1" 61), D.str (Str.ofString "end"), D.str (Str.ofString "End"), D.str (Str.ofString "context"), D.str (Str.ofString "size"), D.str (Str.ofString "fine"), D.str (Str.ofString "late"), D.str (Str.ofString "a"), D.str (Str.ofString "A"), D.str (Str.ofString "ab"), D.str (Str.ofString "-1"), D.str (Str.ofString "1."), D.str (Str.ofString "\n")] := rfl
    unfold m_law_spoilt_line
    generalize m_law_spoilt_line_T1 = T1 at t1 ⊢
    simp [Ss.d, S.d, E.d, E.t, Es.d, Es.len, startD, List.replicate_succ, dSpl, el, f0, spDraw, wB1, wLen, seqW, lstW, tupW, dPar2, stW, wRepS]
    refine ⟨by decide +kernel, slB (by omega), k, hs, by omega, hp, by omega, fun r h1 r0 r1 s1 => ?_⟩
    obtain ⟨a, rfl⟩ := Int.eq_ofNat_of_zero_le r0
    have ha : a < (wd t).length := by omega
    refine ⟨k + 1, s1, by omega, fun w h2 w0 w6 s2 => ?_⟩
    refine ⟨by decide +kernel, by decide +kernel, by decide +kernel, by decide +kernel, slB (by decide), slB (by decide), ?_⟩
    simp [wBin, wCat, lsjW]
    refine ⟨slB (by decide), ?_⟩
    rw [← eo]
    simp only [wCmp, wEq]
    by_cases h0 : w = 0
    · refine .inr ⟨by simp [h0], ?_⟩
      have sq : seqIndex? (a : Int) (wd t).length = some a := by
        have := seqIx (k := (a : Int)) (n := (wd t).length) (by omega) (by omega)
        simpa using this
      have t1' := t1 (n + 1) (k + 2) a w ((wd t).eraseIdx a) h2 (fin Q Z) gl.er (by omega) (fun h => absurd h0 h) s2 (by omega) fun t' k' h' ht hk' s' => q t' h' (ht.mono (by omega)) (s'.mono (by omega))
      rw [← map_er] at t1'
      generalize odds.map D.str = od at t1' ⊢
      simp [dPopD, E.d]
      exact ⟨by omega, a, sq, ⟨.str (wd t)[a], (wd t)[a], by simp [ha], rfl⟩, t1'⟩
    · refine .inl ⟨by simp [h0], ?_⟩
      exact t1 (n + 1) (k + 2) a w (wd t) h2 (fin Q Z) gl (by omega) (fun _ => ha) s2 (by omega) fun t' k' h' ht hk' s' => q t' h' (ht.mono (by omega)) (s'.mono (by omega))
end
theorem k_law_spoilt_line {F : Fns} (f0 : F.f 12 = spDraw) (f1 : F.f 13 = spPick) : Kp M F m_law_spoilt_line 6 spSpL := k_law_spoilt_line_ f0 f1
end K
set_option maxHeartbeats 4000000
set_option exponentiation.threshold 2000
namespace K
open PySem DL DP CO
def spSp : FnD := fun xs h P _ => match xs with
  | [.ref 0, .str t] => ∃ k n, SH k h ∧ k ≤ 700000 ∧ okT n t ∧ n ≤ 19000 ∧ ∀ t' h', okT (5 * n + 100) t' → SH (k + 9) h' → P (.str t') h'
  | _ => False
theorem SL_out : ∀ {ls : List Str} {a : Nat} (h : a < ls.length), SL (ls.eraseIdx a) + ls[a].length + 1 = SL ls
  | [], a, h => by simp at h
  | x :: ls, 0, h => by simp only [List.eraseIdx_cons_zero, List.getElem_cons_zero]; rw [SL_cons]; omega
  | x :: ls, a + 1, h => by
    have := SL_out (ls := ls) (a := a) (by simpa using h)
    simp only [List.eraseIdx_cons_succ, List.getElem_cons_succ]
    rw [SL_cons, SL_cons]; omega
section
variable {F : Fns} (f0 : F.f 12 = spDraw) (f1 : F.f 13 = spPick) (f2 : F.f 25 = spSpL)
theorem sp_T5 {m : Nat} {ls : List Str} {w0 w1 w3 w4 : Option W} {h : Hs} {E' : DEnds} (g : gL m ls) (hm : m ≤ 100000) (q : ∀ t, okT m t → E'.rt (.str t) h) :
    m_law_spoilt_T5.d M F [w0, w1, some (.own (ls.map D.str)), w3, w4] h E' := by
  simp [m_law_spoilt_T5, Ss.d, S.d, E.d, dFrz, dJoin]
  have g4 : ("\n" : Str).length = 1 := by decide +kernel
  refine ⟨_, ls, rfl, by simp [seqW, lstW], ?_, _, rfl, q _ (g.join ey_nl (by decide))⟩
  have := g.s
  unfold SL at this
  rw [g4]
  omega
include f0 in
theorem sp_T4 {m n k : Nat} {w : Int} {t : Str} {ls : List Str} {w3 : Option W} {h : Hs} {E' : DEnds} (g : gL m ls) (hm : m ≤ 100000) (ho : okT n t) (hn : n ≤ 19000) (hs : SH k h) (hk : k ≤ 900000) (q : ∀ t k' h', okT (max m n) t → k' ≤ k + 1 → SH k' h' → E'.rt (.str t) h') :
    m_law_spoilt_T4.d M F [some (.d (.ref 0)), some (.d (.str t)), some (.own (ls.map D.str)), w3, some (.d (.int w))] h E' := by
  have t5 := sp_T5 (F := F) (w0 := some (.d (.ref 0))) (w1 := some (.d (.str t))) (w3 := w3) (w4 := some (.d (.int w))) (h := h) (E' := E') g hm fun t ht => q t k h (ht.mono (by omega)) (by omega) hs
  have hl := ho.1
  unfold m_law_spoilt_T4
  generalize m_law_spoilt_T5 = T5 at t5 ⊢
  simp [Ss.d, S.d, E.d, E.t, Es.d, Es.len, wCmp, wEq, f0, spDraw]
  by_cases h7 : w = 7
  · rw [if_pos h7]
    simp [dSl, dNo, dPart, Oe.d, E.d, Es.d, Es.len, f0, spDraw, b1_len, wLen, wBin, wInt]
    refine ⟨slB (by omega), k, hs, by omega, by omega, fun r h' r0 r1 s' => ?_⟩
    obtain ⟨ca, cb⟩ := cut_sub (lo := none) (hi := some r) ho
    simp [wSl]
    exact ⟨slB (by omega), q _ _ _ ⟨by omega, cb⟩ (by omega) s'⟩
  · rw [if_neg h7]
    exact t5
include f0 in
theorem sp_T3 {m n k a : Nat} {w : Int} {t : Str} {ls : List Str} {h : Hs} {E' : DEnds} (g : gL m ls) (hm : m ≤ 97000) (ha : w = 6 → a < ls.length) (ho : okT n t) (hn : n ≤ 19000) (hs : SH k h) (hk : k ≤ 900000) (q : ∀ t k' h', okT (max m n) t → k' ≤ k + 1 → SH k' h' → E'.rt (.str t) h') :
    m_law_spoilt_T3.d M F [some (.d (.ref 0)), some (.d (.str t)), some (.own (ls.map D.str)), some (.d (.int a)), some (.d (.int w))] h E' := by
  have t4 := fun (ls : List Str) (g : gL m ls) => sp_T4 (F := F) f0 (w := w) (w3 := some (.d (.int a))) (h := h) (E' := E') g (by omega) ho hn hs hk q
  have ll := SL_len ls
  have gs := g.s
  unfold m_law_spoilt_T3
  generalize m_law_spoilt_T4 = T4 at t4 ⊢
  simp [Ss.d, S.d, E.d, E.t, wCmp, wEq]
  by_cases h6 : w = 6
  · rw [if_pos h6]
    have ha := ha h6
    have sq : seqIndex? (a : Int) ls.length = some a := by
      have := seqIx (k := (a : Int)) (n := ls.length) (by omega) (by omega)
      simpa using this
    simp [dInsP, E.d]
    have sae := SL_out ha
    have g2 : gL m (ls[a] :: ls.eraseIdx a) := ⟨fun x hx => by
      rcases List.mem_cons.mp hx with rfl | hx
      · exact g.a _ (List.getElem_mem ha)
      · exact g.a x (List.mem_of_mem_eraseIdx hx), by rw [SL_cons]; omega⟩
    refine ⟨slB (by omega), 0, rfl, by omega, by omega, a, sq, .str ls[a], ⟨ls[a], by simp [ha], rfl⟩, ?_⟩
    have := t4 _ g2
    rw [List.map_cons, ← map_er] at this
    simpa using this
  · rw [if_neg h6]
    exact t4 ls g
include f0 f1 in
theorem sp_T2 {m n k a : Nat} {w : Int} {t : Str} {ls : List Str} {h : Hs} {E' : DEnds} (g : gL m ls) (hm : m ≤ 96000) (hm2 : w = 5 → m ≤ 40000) (ha : w = 6 → a < ls.length) (ho : okT n t) (hn : n ≤ 19000) (hs : SH k h) (hk : k ≤ 890000) (q : ∀ t k' h', okT (max m n) t ∨ (w = 5 ∧ okT (max (2 * m + 20) n) t) → k' ≤ k + 3 → SH k' h' → E'.rt (.str t) h') :
    m_law_spoilt_T2.d M F [some (.d (.ref 0)), some (.d (.str t)), some (.own (ls.map D.str)), some (.d (.int a)), some (.d (.int w))] h E' := by
  have t3 := fun (m k : Nat) (ls : List Str) h' (g : gL m ls) hm ha hs hk => sp_T3 (F := F) f0 (k := k) (a := a) (w := w) (t := t) (ls := ls) (h := h') (E' := E') (m := m) g hm ha ho hn hs hk
  have ll := SL_len ls
  have gs := g.s
  unfold m_law_spoilt_T2
  generalize m_law_spoilt_T3 = T3 at t3 ⊢
  simp [Ss.d, S.d, E.d, E.t, wCmp, wEq]
  by_cases h5 : w = 5
  · rw [if_pos h5]
    simp [dIns, E.d, Es.d, Es.len, f0, f1, spDraw, b1_len, wLen, seqW, lstW, wBin, wCat, lsjW, wInt]
    have hm2 := hm2 h5
    refine ⟨slB (by omega), k, hs, by omega, by omega, fun r h1 r0 r1 s1 => ?_⟩
    obtain ⟨j, rfl⟩ := Int.eq_ofNat_of_zero_le r0
    have hj : j ≤ ls.length := by omega
    refine ⟨j, rfl, by omega, slB (by decide), slB (by omega), k + 1, s1, by omega, by simp, by simp; omega, fun r h2 hr s2 => ?_⟩
    have hr2 : ∃ s : Str, r = .str s ∧ s.length ≤ m + 8 ∧ ∀ c ∈ s.cps.toList, c < 128 := by
      have f : ∀ s : Str, shS 8 s = true → s.length ≤ m + 8 ∧ ∀ c ∈ s.cps.toList, c < 128 := fun s h => ⟨by have := (shS_ok h).1; omega, (shS_ok h).2⟩
      rcases List.mem_append.mp hr with hr | hr
      · obtain ⟨s, hs, rfl⟩ := List.mem_map.mp hr
        have := SL_mem hs
        exact ⟨s, rfl, by omega, g.a s hs⟩
      · simp only [List.mem_cons, List.not_mem_nil, or_false] at hr
        rcases hr with rfl | rfl | rfl | rfl <;> exact ⟨_, rfl, f _ (by decide +kernel)⟩
    obtain ⟨s, rfl, hs1, hs2⟩ := hr2
    have := t3 (m + s.length + 1) (k + 2) (ls.take j ++ [s] ++ ls.drop j) h2 (g.ins hs2) (by omega) (fun h => by omega) s2 (by omega) fun t k' h' ht hk' s' => q t k' h' (.inr ⟨h5, ht.mono (by omega)⟩) (by omega) s'
    simpa using this
  · rw [if_neg h5]
    exact t3 m k ls h g (by omega) ha hs (by omega) fun t k' h' ht hk' s' => q t k' h' (.inl ht) (by omega) s'
include f0 f1 in
theorem sp_T1 {m n k a : Nat} {w : Int} {t : Str} {ls : List Str} {h : Hs} {E' : DEnds} (g : gL m ls) (hm : m ≤ 96000) (hm2 : w = 5 → m ≤ 40000) (ha : w = 6 ∨ w = 4 → a < ls.length) (ho : okT n t) (hn : n ≤ 19000) (hs : SH k h) (hk : k ≤ 890000) (q : ∀ t k' h', okT (max m n) t ∨ (w = 5 ∧ okT (max (2 * m + 20) n) t) → k' ≤ k + 3 → SH k' h' → E'.rt (.str t) h') :
    m_law_spoilt_T1.d M F [some (.d (.ref 0)), some (.d (.str t)), some (.own (ls.map D.str)), some (.d (.int a)), some (.d (.int w))] h E' := by
  have t2 := fun (ls : List Str) (g : gL m ls) ha => sp_T2 (F := F) f0 f1 (a := a) (w := w) (t := t) (ls := ls) (h := h) (E' := E') g hm hm2 ha ho hn hs hk q
  have ll := SL_len ls
  have gs := g.s
  unfold m_law_spoilt_T1
  generalize m_law_spoilt_T2 = T2 at t2 ⊢
  simp [Ss.d, S.d, E.d, E.t, wCmp, wEq]
  by_cases h4 : w = 4
  · rw [if_pos h4]
    have ha := ha (.inr h4)
    have sq : seqIndex? (a : Int) ls.length = some a := by
      have := seqIx (k := (a : Int)) (n := ls.length) (by omega) (by omega)
      simpa using this
    simp [dPopD, E.d]
    refine ⟨by omega, a, sq, ⟨.str ls[a], ls[a], by simp [ha], rfl⟩, ?_⟩
    have := t2 (ls.eraseIdx a) g.er (fun h => by omega)
    rw [← map_er] at this
    exact this
  · rw [if_neg h4]
    exact t2 ls g fun h => ha (.inl h)
include f0 f1 f2 in
theorem k_law_spoilt_ : Kp M F m_law_spoilt 5 spSp := by
  intro xs h Q Z q0
  match xs, q0 with
  | [.ref 0, .str t], ⟨k, n, hs, hk, ho, hn, q⟩ =>
    have hl : t.length ≤ n := ho.1
    have gl := gL_ln ho
    have hne := ln_ne t
    have hp : 0 < (ln t).length := List.length_pos_iff.mpr hne
    have ll := SL_len (ln t)
    have gs := gl.s
    have t1 := fun (m k' a : Nat) (w : Int) (ls : List Str) h' (E' : DEnds) (g : gL m ls) hm hm2 ha hs hk => sp_T1 (F := F) f0 f1 (k := k') (a := a) (w := w) (t := t) (ls := ls) (h := h') (E' := E') (m := m) g hm hm2 ha ho hn hs hk
    have el : (Txt.split t (Str.ofString "\n")) = ln t := rfl
    unfold m_law_spoilt
    generalize m_law_spoilt_T1 = T1 at t1 ⊢
    simp [Ss.d, S.d, E.d, E.t, Es.d, Es.len, startD, List.replicate_succ, dSpl, el, f0, spDraw, wB1, wLen, seqW, lstW, tupW, dPar2, stW]
    refine ⟨by decide +kernel, slB (by omega), k, hs, by omega, hp, by omega, fun r h1 r0 r1 s1 => ?_⟩
    obtain ⟨a, rfl⟩ := Int.eq_ofNat_of_zero_le r0
    have ha : a < (ln t).length := by omega
    refine ⟨k + 1, s1, by omega, fun w h2 w0 w8 s2 => ?_⟩
    simp [wCmp, wLt]
    by_cases h4 : w < 4
    · refine .inr ⟨h4, ?_⟩
      have hla := ln_ok ho (List.getElem_mem ha)
      simp [dSix, f2, spSpL]
      simp only [wIx]
      refine ⟨(ln t).map D.str, .str (ln t)[a], rfl, by rw [atI_n (by simpa using ha), List.getElem_map], _, rfl, k + 2, s2, by omega, n, hla, by omega, fun t' h3 ht s3 => ?_⟩
      refine ⟨a, ixN_n ha, ?_⟩
      have gg := gl.set (i := a) ht.2
      have htl := ht.1
      have := t1 (n + 1 + t'.length) (k + 6) a w ((ln t).set a t') h3 (fin Q Z) gg (by omega) (fun h => by omega) (fun h => by omega) s3 (by omega) fun t2 k' h' ht2 hk' s' => q t2 h' (by
        rcases ht2 with ht2 | ⟨h5, _⟩
        · exact ht2.mono (by omega)
        · omega) (s'.mono (by omega))
      rw [List.map_set] at this
      exact this
    · refine .inl ⟨by omega, ?_⟩
      exact t1 (n + 1) (k + 2) a w (ln t) h2 (fin Q Z) gl (by omega) (fun _ => by omega) (fun _ => ha) s2 (by omega) fun t2 k' h' ht2 hk' s' => q t2 h' (by
        rcases ht2 with ht2 | ⟨h5, ht2⟩
        · exact ht2.mono (by omega)
        · exact ht2.mono (by omega)) (s'.mono (by omega))
end
theorem k_law_spoilt {F : Fns} (f0 : F.f 12 = spDraw) (f1 : F.f 13 = spPick) (f2 : F.f 25 = spSpL) : Kp M F m_law_spoilt 5 spSp := k_law_spoilt_ f0 f1 f2
end K
set_option maxHeartbeats 4000000
set_option exponentiation.threshold 2000
namespace K
open PySem DL DP CO
theorem bd_nat64 {n : Nat} (h : n < 2 ^ 60) : Bd 67 0 (.int n) := by
  have h2 : (n : Int) < 2 ^ 60 := by exact_mod_cast h
  exact bd_int64 (by omega) (by omega)
theorem bd_inv {n k : Nat} (hn : n < 2 ^ 60) (hk : k < 2 ^ 60) : Bd 400 1 (.tup [.str "InvalidText", .int n, .int k]) :=
  (Bds.cons (n := 200) (d := 0) ⟨by decide +kernel, by decide +kernel, by decide +kernel⟩ (Bds.cons (bd_nat64 hn) (Bds.cons (bd_nat64 hk) (Bds.nil (d := 0))))).tup.mono
theorem bd_told {n d : Nat} {x : D} (h : Bd n d x) : Bd (n + 100) (d + 1) (.tup [.str "told", x]) :=
  (Bds.cons (n := 80) (d := 0) ⟨by decide +kernel, by decide +kernel, by decide +kernel⟩ (Bds.cons h (Bds.nil (d := 0)))).tup.mono (by omega) (by omega)
/-- a fault lies within the text -/
theorem ft_lt : ∀ (R : List (List Str)) (n : Nat) (has : Bool) (p : Nat × Nat), ftF n has R = some p → p.1 ≤ n + R.length ∧ p.2 ≤ 10
  | [], n, has, p, h => by
    simp only [ftF] at h
    split at h
    · cases h; simp
    · cases h
  | ws :: R, n, has, p, h => by
    simp only [ftF] at h
    cases hl : lnF n has ws with
    | some k =>
      rw [hl] at h
      cases h
      refine ⟨by simp, ?_⟩
      unfold lnF at hl
      cases hv : vV (lnP n has ws) ws with
      | inl ds => rw [hv] at hl; cases hl
      | inr k2 =>
        rw [hv] at hl
        cases hl
        have := (vV_k hv).1
        have : (lnP n has ws).length ≤ 3 := by
          unfold lnP hdp enP
          split
          · split <;> decide
          · split <;> decide
        show k ≤ 10
        omega
    | none =>
      rw [hl] at h
      have := ft_lt R (n + 1) _ p h
      simp only [List.length_cons]
      omega
section
variable {F : Fns} (f10 : F.f 10 = spCodR) (f8 : F.f 8 = spEntR) (f23 : F.f 23 = spCoF) (f24 : F.f 24 = spRdL) (f20 : F.f 20 = spEnF) (f21 : F.f 21 = spEntL) (g0 : F.g 0 = spMade)
include f10 f23 f24 g0 in
theorem law_B1 {t : Str} {w0 w1 w2 w3 w4 w6 w7 w8 w9 w10 w11 : Option W} {h : Hs} {E' : DEnds} (ho : okT 100000 t)
    (q : ∀ w6 w7, E'.nx [w0, w1, w2, w3, w4, some (.d (.str t)), w6, w7, w8, w9, w10, w11] h) :
    m_law_B1.d M F [w0, w1, w2, w3, w4, some (.d (.str t)), w6, w7, w8, w9, w10, w11] h E' := by
  have rl := rows_len ho
  cases hf : ftR (rows t) with
  | some p =>
    have hp := ft_lt _ _ _ p hf
    have bd := bd_inv (n := p.1) (k := p.2) (by omega) (by omega)
    simp [m_law_B1, Ss.d, S.d, E.d, E.t, Es.d, Es.len, f23, f24, spCoF, spRdL, ho, hf, ftP, wBin, wCat, dLam, g0, f10]
    refine ⟨slB (by decide), slB (by decide), ?_⟩
    intro P1 Z1 _ hz
    simp [spCodR, ho, hf, outX]
    refine hz _ _ ⟨rfl, _, _, rfl, ?_⟩
    exact repr_bd bd (by decide) (by decide) (repr_bd bd (by decide) (by decide) (neS (.inl ⟨rfl, q _ _⟩)))
  | none =>
    obtain ⟨htx, hcr⟩ := tx_rd hf
    have hb := bd_told (bd_coR hcr htx.symm ho)
    simp [m_law_B1, Ss.d, S.d, E.d, E.t, Es.d, Es.len, f23, f24, spCoF, spRdL, ho, hf, ftP, dLam, g0, f10]
    refine ⟨slB (by decide), ?_⟩
    intro P1 Z1 ht _
    simp [spCodR, ho, hf, outX]
    refine ht _ _ ?_
    exact repr_bd hb (by decide) (by decide) (repr_bd hb (by decide) (by decide) (neS (.inl ⟨rfl, q _ _⟩)))
include f8 f20 f21 g0 in
theorem law_B2 {t : Str} {a b : Nat} {w0 w1 w2 w3 w4 w6 w7 w8 w11 : Option W} {h : Hs} {E' : DEnds} (ho : okT 100000 t) (ha : a ≤ 10) (hb : b ≤ 10)
    (q : ∀ w6 w7, E'.nx [w0, w1, w2, w3, w4, some (.d (.str t)), w6, w7, w8, some (.d (.int a)), some (.d (.int b)), w11] h) :
    m_law_B2.d M F [w0, w1, w2, w3, w4, some (.d (.str t)), w6, w7, w8, some (.d (.int a)), some (.d (.int b)), w11] h E' := by
  cases hv : vV enP (wd t) with
  | inr k =>
    have hk := (vV_k hv).1
    rw [enP_len] at hk
    have bd := bd_inv (n := a) (k := b + k) (by omega) (by omega)
    have bd2 := bd_inv (n := 0) (k := k) (by omega) (by omega)
    simp [m_law_B2, m_law_T2, Ss.d, S.d, E.d, E.t, Es.d, Es.len, f20, f21, spEnF, spEntL, ho, hv, ftV, ftD, dLam, g0, f8, dCallO, pick, Kq.d, wBin, wInt]
    refine ⟨slB (by decide), ?_⟩
    intro P1 Z1 _ hz
    simp [spEntR, ho, hv, outE]
    refine hz _ _ ⟨rfl, _, _, rfl, ?_⟩
    have e1 : (b : Int) + (k : Int) = ((b + k : Nat) : Int) := by push_cast; rfl
    simp only [e1] at *
    refine repr_bd bd (by decide) (by decide) (repr_bd bd (by decide) (by decide) (neS (.inl ⟨rfl, ?_⟩)))
    intro P2 Z2 _ hz2
    simp [spEntR, ho, hv, outE]
    refine hz2 _ _ ⟨rfl, _, _, rfl, ?_⟩
    exact repr_bd bd2 (by decide) (by decide) ⟨slB (by decide), repr_bd bd2 (by decide) (by decide) (neS (.inl ⟨rfl, q _ _⟩))⟩
  | inl ds =>
    obtain ⟨l, c, n, k, hws, _, _, _, _, hen⟩ := vV_en hv
    have he := (enWs_enW hv).2
    have hsl : SL (enWs (enW (wd t))) ≤ 100001 := by
      rw [(enWs_enW hv).1]
      have := (gL_wd ho).s
      exact this
    have hbt := bd_told ((bd_enL he).1.mono (n' := 1300000) (by omega) (Nat.le_refl _))
    simp [m_law_B2, m_law_T2, Ss.d, S.d, E.d, E.t, Es.d, Es.len, f20, f21, spEnF, spEntL, ho, hv, ftV, ftD, dLam, g0, f8, dCallO, pick, Kq.d]
    refine ⟨slB (by decide), ?_⟩
    intro P1 Z1 ht _
    simp [spEntR, ho, hv, outE]
    refine ht _ _ ?_
    rw [hen]
    exact repr_bd hbt (by decide) (by decide) (repr_bd hbt (by decide) (by decide) (neS (.inl ⟨rfl, q _ _⟩)))
include f10 f23 f24 g0 in
theorem law_l1 {w0 w1 w2 w3 w4 w8 w9 w10 w11 : Option W} {h : Hs} {E' : DEnds} : ∀ (ts : List Str) (w5 w6 w7 : Option W), (∀ t ∈ ts, okT 100000 t) →
    (∀ w5 w6 w7, E'.nx [w0, w1, w2, w3, w4, w5, w6, w7, w8, w9, w10, w11] h) →
    forD (.nm 5) (m_law_B1.d M F) E' (ts.map D.str) [w0, w1, w2, w3, w4, w5, w6, w7, w8, w9, w10, w11] h
  | [], w5, w6, w7, ok, q => by
    unfold forD
    exact q w5 w6 w7
  | t :: ts, w5, w6, w7, ok, q => by
    rw [List.map_cons]
    unfold forD
    rw [put_nm]
    refine law_B1 f10 f23 f24 g0 (ok t (by simp)) fun w6 w7 => ?_
    exact law_l1 ts _ w6 w7 (fun x hx => ok x (List.mem_cons_of_mem _ hx)) q
include f8 f20 f21 g0 in
theorem law_l2 {a b : Nat} {w0 w1 w2 w3 w4 w8 w11 : Option W} {h : Hs} {E' : DEnds} (ha : a ≤ 10) (hb : b ≤ 10) : ∀ (ts : List Str) (w5 w6 w7 : Option W), (∀ t ∈ ts, okT 100000 t) →
    (∀ w5 w6 w7, E'.nx [w0, w1, w2, w3, w4, w5, w6, w7, w8, some (.d (.int a)), some (.d (.int b)), w11] h) →
    forD (.nm 5) (m_law_B2.d M F) E' (ts.map D.str) [w0, w1, w2, w3, w4, w5, w6, w7, w8, some (.d (.int a)), some (.d (.int b)), w11] h
  | [], w5, w6, w7, ok, q => by
    unfold forD
    exact q w5 w6 w7
  | t :: ts, w5, w6, w7, ok, q => by
    rw [List.map_cons]
    unfold forD
    rw [put_nm]
    refine law_B2 f8 f20 f21 g0 (ok t (by simp)) ha hb fun w6 w7 => ?_
    exact law_l2 ha hb ts _ w6 w7 (fun x hx => ok x (List.mem_cons_of_mem _ hx)) q
end
def spLaw : FnD := fun xs h P _ => match xs with
  | [.fro cs] => ∃ ns : List Int, cs = ns.map D.int ∧ h = [] ∧ ∀ h', P (.bl true) h'
  | _ => False
theorem ixT_co {c : Co} {Q : W → Prop} (q : Q (.d (.tup (c.cs.map cxD)))) : wIx (.d (coD c)) (.d (.int 1)) Q := ⟨_, _, rfl, rfl, q⟩
section
variable {F : Fns} (f10 : F.f 10 = spCodR) (f8 : F.f 8 = spEntR) (f23 : F.f 23 = spCoF) (f24 : F.f 24 = spRdL) (f20 : F.f 20 = spEnF) (f21 : F.f 21 = spEntL) (g0 : F.g 0 = spMade) (f11 : F.f 11 = spSource) (f12 : F.f 12 = spDraw) (f13 : F.f 13 = spPick) (f15 : F.f 15 = spCoder) (f16 : F.f 16 = spEnT) (f17 : F.f 17 = spCoT) (f25 : F.f 25 = spSpL) (f26 : F.f 26 = spSp)
include f8 f12 f13 f16 f20 f21 f25 g0 in
theorem law_T1 {c : Co} {k : Nat} {w0 w3 w4 w5 w6 w7 : Option W} {h : Hs} {E' : DEnds} (ct : coT c) (hs : SH k h) (hk : k ≤ 600000) (q : ∀ h', E'.rt (.bl true) h') :
    m_law_T1.d M F [w0, some (.d (.ref 0)), some (.d (coD c)), w3, w4, w5, w6, w7, none, none, none, none] h E' := by
  have lp := fun (a b : Nat) w8 w11 h' E'' ha hb ts => law_l2 (F := F) f8 f20 f21 g0 (a := a) (b := b) (w0 := w0) (w1 := some (.d (.ref 0))) (w2 := some (.d (coD c))) (w3 := w3) (w4 := w4) (w8 := w8) (w11 := w11) (h := h') (E' := E'') ha hb ts w5 w6 w7
  have cr := ct.cr
  unfold m_law_T1 m_law_T3
  generalize m_law_B2 = B2 at lp ⊢
  simp [Ss.d, S.d, E.d, E.t, Es.d, Es.len, Ic.d, f12, f13, f16, f25, dPar2, stW, dFrz, dItL, dApp]
  refine ixT_co ?_
  have c0 := ct.c0
  have c1 := ct.c1
  refine ⟨_, rfl, k, hs, by omega, by simpa using c0, by simp; omega, fun r h1 hr s1 => ?_⟩
  obtain ⟨es, he, rfl⟩ := List.mem_map.mp hr
  have cx := ct.cx es he
  have l2 := cx.1
  have l4 := cx.2.1
  refine ⟨k + 1, s1, by omega, by simp; omega, by simp; omega, fun r h2 hr s2 => ?_⟩
  obtain ⟨e, hee, rfl⟩ := List.mem_map.mp hr
  have er := cr.cs es he e hee
  refine ⟨e, rfl, er, ?_⟩
  have oe : okT 183 (enTx e) := ⟨en_len er, asc_jsp (fr_en er).2⟩
  refine ⟨k + 2, s2, by omega, by decide, by decide, fun r h3 r0 r1 s3 => ?_⟩
  obtain ⟨a, rfl⟩ := Int.eq_ofNat_of_zero_le r0
  refine ⟨slB (by decide), k + 3, s3, by omega, by decide, by decide, fun r h4 hr s4 => ?_⟩
  obtain ⟨b, rfl, hb⟩ : ∃ b : Nat, r = .int b ∧ b ≤ 10 := by
    simp only [List.mem_cons, List.not_mem_nil, or_false] at hr
    rcases hr with rfl | rfl | rfl
    · exact ⟨0, rfl, by decide⟩
    · exact ⟨1, rfl, by decide⟩
    · exact ⟨7, rfl, by decide⟩
  refine ⟨slB (by decide), rfl, k + 4, 183, s4, by omega, oe, by decide, fun t1 h5 o1 s5 => ?_⟩
  refine ⟨k + 8, 183, s5, by omega, oe, by decide, fun t2 h6 o2 s6 => ?_⟩
  refine ⟨slB (by decide), slB (by decide), slB (by decide), k + 12, s6, by omega, by decide, by decide, fun r h7 hr s7 => ?_⟩
  have hr2 : ∃ s : Str, r = .str s ∧ shS 8 s = true := by
    simp only [List.mem_cons, List.not_mem_nil, or_false] at hr
    rcases hr with rfl | rfl | rfl | rfl | rfl <;> exact ⟨_, rfl, by decide +kernel⟩
  obtain ⟨t3, rfl, h3⟩ := hr2
  have o3 : okT 8 t3 := shS_ok h3
  refine lp a b _ _ _ _ (by omega) hb [enTx e, t1, t2, t3] (fun t ht => ?_) fun w5 w6 w7 => q _
  simp only [List.mem_cons, List.not_mem_nil, or_false] at ht
  rcases ht with rfl | rfl | rfl | rfl
  · exact oe.mono (by decide)
  · exact o1.mono (by decide)
  · exact o2.mono (by decide)
  · exact o3.mono (by decide)
include f8 f10 f11 f12 f13 f15 f16 f17 f20 f21 f23 f24 f25 f26 g0 in
theorem k_law_ : Kp M F m_law 12 spLaw := by
  intro xs h Q Z q0
  match xs, q0 with
  | [.fro cs], ⟨ns, hc, hh, q⟩ =>
    subst hc hh
    have t1 := fun c k w0 w3 w4 w5 w6 w7 h E' ct hs hk => law_T1 (F := F) f8 f20 f21 g0 f12 f13 f16 f25 (c := c) (k := k) (w0 := w0) (w3 := w3) (w4 := w4) (w5 := w5) (w6 := w6) (w7 := w7) (h := h) (E' := E') ct hs hk
    have lp := fun w0 w1 w2 w3 w4 w8 w9 w10 w11 h' E'' ts w5 w6 w7 => law_l1 (F := F) f10 f23 f24 g0 (w0 := w0) (w1 := w1) (w2 := w2) (w3 := w3) (w4 := w4) (w8 := w8) (w9 := w9) (w10 := w10) (w11 := w11) (h := h') (E' := E'') ts w5 w6 w7
    unfold m_law
    generalize m_law_T1 = T1 at t1 ⊢
    generalize m_law_B1 = B1 at lp ⊢
    simp [Ss.d, S.d, E.d, E.t, Es.d, Es.len, Ic.d, startD, List.replicate_succ, f11, f13, f15, f17, f26, dFrz, dItL, dApp]
    refine ⟨ns, rfl, rfl, fun h1 s1 => ?_⟩
    refine ⟨0, s1, by omega, fun c h2 ct s2 => ?_⟩
    have oc := okT_co ct
    refine ⟨c, rfl, ct.cr, by have := oc.1; omega, ?_⟩
    refine ⟨0 + 31, 3330, s2, by omega, oc, by decide, fun t2 h3 o2 s3 => ?_⟩
    refine ⟨slB (by decide), slB (by decide), slB (by decide), 0 + 31 + 9, s3, by omega, by decide, by decide, fun r h4 hr s4 => ?_⟩
    have hr2 : ∃ s : Str, r = .str s ∧ shS 8 s = true := by
      simp only [List.mem_cons, List.not_mem_nil, or_false] at hr
      rcases hr with rfl | rfl | rfl | rfl | rfl | rfl | rfl <;> exact ⟨_, rfl, by decide +kernel⟩
    obtain ⟨t3, rfl, h3⟩ := hr2
    have o3 : okT 8 t3 := shS_ok h3
    refine ⟨slB (by decide), ?_⟩
    refine ⟨_, _, rfl, rfl, _, rfl, 0 + 31 + 9 + 1, 5 * 3330 + 100, s4, by omega, o2, by decide, fun t4 h5 o4 s5 => ?_⟩
    refine lp _ _ _ _ _ _ _ _ _ _ _ [coTx c, t2, t3, t4] _ _ _ (fun t ht => ?_) fun w5 w6 w7 => ?_
    · simp only [List.mem_cons, List.not_mem_nil, or_false] at ht
      rcases ht with rfl | rfl | rfl | rfl
      · exact oc.mono (by decide)
      · exact o2.mono (by decide)
      · exact o3.mono (by decide)
      · exact o4.mono (by decide)
    · exact t1 c _ _ _ _ _ _ _ _ _ ct s5 (by omega) q
end
theorem k_law {F : Fns} (f10 : F.f 10 = spCodR) (f8 : F.f 8 = spEntR) (f23 : F.f 23 = spCoF) (f24 : F.f 24 = spRdL) (f20 : F.f 20 = spEnF) (f21 : F.f 21 = spEntL) (g0 : F.g 0 = spMade) (f11 : F.f 11 = spSource) (f12 : F.f 12 = spDraw) (f13 : F.f 13 = spPick) (f15 : F.f 15 = spCoder) (f16 : F.f 16 = spEnT) (f17 : F.f 17 = spCoT) (f25 : F.f 25 = spSpL) (f26 : F.f 26 = spSp) : Kp M F m_law 12 spLaw := k_law_ f10 f8 f23 f24 f20 f21 g0 f11 f12 f13 f15 f16 f17 f25 f26
end K
set_option maxHeartbeats 4000000
namespace K
open PySem PySem.Spec PyProof.Rows L2 DL DP BM M17 CO
def F0 : Fns := L.F0
def F1 : Fns := F0.up 0 ((spW isLs))
theorem s0 : Kp M F0 m_is_letters N_is_letters.length ((spW isLs)) := k_is_letters rfl
def F2 : Fns := F1.up 1 ((spW CO.isL))
theorem s1 : Kp M F1 m_is_letter N_is_letter.length ((spW CO.isL)) := k_is_letter rfl
def F3 : Fns := F2.up 2 ((spW isDvS))
theorem s2 : Kp M F2 m_is_division N_is_division.length ((spW isDvS)) := k_is_division rfl
def F4 : Fns := F3.up 3 ((spW isMnS))
theorem s3 : Kp M F3 m_is_manner N_is_manner.length ((spW isMnS)) := k_is_manner rfl
def F5 : Fns := F4.up 4 ((spW isNW))
theorem s4 : Kp M F4 m_is_number_word N_is_number_word.length ((spW isNW)) := k_is_number_word rfl
def F6 : Fns := F5.up 5 (spNums)
theorem s5 : Kp M F5 m_numbers_in N_numbers_in.length (spNums) := k_numbers_in rfl rfl
def F7 : Fns := F6.up 6 (spWrit)
theorem s6 : Kp M F6 m_written_in N_written_in.length (spWrit) := k_written_in rfl rfl rfl rfl rfl
def F8 : Fns := F7.up 7 (spVals)
theorem s7 : Kp M F7 m_values_of N_values_of.length (spVals) := k_values_of rfl
def F9 : Fns := F8.up 8 (spEntR)
theorem s8 : Kp M F8 m_entry_read N_entry_read.length (spEntR) := k_entry_read rfl rfl
def F10 : Fns := F9.up 9 (spCtxs)
theorem s9 : Kp M F9 m_contexts_in N_contexts_in.length (spCtxs) := k_contexts_in rfl rfl rfl
def F11 : Fns := F10.up 10 (spCodR)
theorem s10 : Kp M F10 m_coder_read N_coder_read.length (spCodR) := k_coder_read rfl rfl rfl
def F12 : Fns := F11.up 11 (spSource)
theorem s11 : Kp M F11 m_law_source N_law_source.length (spSource) := k_law_source
def F13 : Fns := F12.up 12 (spDraw)
theorem s12 : Kp M F12 m_law_draw N_law_draw.length (spDraw) := k_law_draw
def F14 : Fns := F13.up 13 (spPick)
theorem s13 : Kp M F13 m_law_pick N_law_pick.length (spPick) := k_law_pick rfl
def F15 : Fns := F14.up 14 (spCtx)
theorem s14 : Kp M F14 m_law_context N_law_context.length (spCtx) := k_law_context rfl rfl
def F16 : Fns := F15.up 15 (spCoder)
theorem s15 : Kp M F15 m_law_coder N_law_coder.length (spCoder) := k_law_coder rfl rfl rfl
def F17 : Fns := F16.up 16 (spEnT)
theorem s16 : Kp M F16 m_law_entry_text N_law_entry_text.length (spEnT) := k_law_entry_text
def F18 : Fns := F17.up 17 (spCoT)
theorem s17 : Kp M F17 m_law_coder_text N_law_coder_text.length (spCoT) := k_law_coder_text rfl
def F19 : Fns := F18.up 18 ((spW isNW60))
theorem s18 : Kp M F18 m_law_is_number_word N_law_is_number_word.length ((spW isNW60)) := k_law_is_number_word
def F20 : Fns := F19.up 19 (spStand)
theorem s19 : Kp M F19 m_law_can_stand N_law_can_stand.length (spStand) := k_law_can_stand rfl
def F21 : Fns := F20.up 20 (spEnF)
theorem s20 : Kp M F20 m_law_entry_fault N_law_entry_fault.length (spEnF) := k_law_entry_fault rfl
def F22 : Fns := F21.up 21 (spEntL)
theorem s21 : Kp M F21 m_law_entry N_law_entry.length (spEntL) := k_law_entry
def F23 : Fns := F22.up 22 (spLnF)
theorem s22 : Kp M F22 m_law_line_fault N_law_line_fault.length (spLnF) := k_law_line_fault rfl rfl
def F24 : Fns := F23.up 23 (spCoF)
theorem s23 : Kp M F23 m_law_coder_fault N_law_coder_fault.length (spCoF) := k_law_coder_fault rfl
def F25 : Fns := F24.up 24 (spRdL)
theorem s24 : Kp M F24 m_law_read N_law_read.length (spRdL) := k_law_read rfl
def F26 : Fns := F25.up 25 (spSpL)
theorem s25 : Kp M F25 m_law_spoilt_line N_law_spoilt_line.length (spSpL) := k_law_spoilt_line rfl rfl
def F27 : Fns := F26.up 26 (spSp)
theorem s26 : Kp M F26 m_law_spoilt N_law_spoilt.length (spSp) := k_law_spoilt rfl rfl rfl
def F28 : Fns := F27.upH 0 (spMade)
theorem s27 : KpH M F27 m_law_made N_law_made.length (spMade) := k_law_made
section
variable {P : Program} {w : World} {K : Fg} {mg : Str → Option Value} {base : Heap}
theorem d0 (hd : Hd L P K mg) : ModD L.M L.G F0 (L.Cl K) true 1 P w K mg base := hd.first chk
theorem d1 (hd : Hd L P K mg) (htb : ∀ p ∈ L.cs K, LamX.TabB base mg p.1 p.2) : ModD L.M L.G F1 (L.Cl K) true 2 P w K mg base := hd.add chk htb (d0 hd) rfl 0 rfl _ s0 (by decide +kernel)
theorem d2 (hd : Hd L P K mg) (htb : ∀ p ∈ L.cs K, LamX.TabB base mg p.1 p.2) : ModD L.M L.G F2 (L.Cl K) true 3 P w K mg base := hd.add chk htb (d1 hd htb) rfl 1 rfl _ s1 (by decide +kernel)
theorem d3 (hd : Hd L P K mg) (htb : ∀ p ∈ L.cs K, LamX.TabB base mg p.1 p.2) : ModD L.M L.G F3 (L.Cl K) true 4 P w K mg base := hd.add chk htb (d2 hd htb) rfl 2 rfl _ s2 (by decide +kernel)
theorem d4 (hd : Hd L P K mg) (htb : ∀ p ∈ L.cs K, LamX.TabB base mg p.1 p.2) : ModD L.M L.G F4 (L.Cl K) true 5 P w K mg base := hd.add chk htb (d3 hd htb) rfl 3 rfl _ s3 (by decide +kernel)
theorem d5 (hd : Hd L P K mg) (htb : ∀ p ∈ L.cs K, LamX.TabB base mg p.1 p.2) : ModD L.M L.G F5 (L.Cl K) true 6 P w K mg base := hd.add chk htb (d4 hd htb) rfl 4 rfl _ s4 (by decide +kernel)
theorem d6 (hd : Hd L P K mg) (htb : ∀ p ∈ L.cs K, LamX.TabB base mg p.1 p.2) : ModD L.M L.G F6 (L.Cl K) true 7 P w K mg base := hd.add chk htb (d5 hd htb) rfl 5 rfl _ s5 (by decide +kernel)
theorem d7 (hd : Hd L P K mg) (htb : ∀ p ∈ L.cs K, LamX.TabB base mg p.1 p.2) : ModD L.M L.G F7 (L.Cl K) true 8 P w K mg base := hd.add chk htb (d6 hd htb) rfl 6 rfl _ s6 (by decide +kernel)
theorem d8 (hd : Hd L P K mg) (htb : ∀ p ∈ L.cs K, LamX.TabB base mg p.1 p.2) : ModD L.M L.G F8 (L.Cl K) true 9 P w K mg base := hd.add chk htb (d7 hd htb) rfl 7 rfl _ s7 (by decide +kernel)
theorem d9 (hd : Hd L P K mg) (htb : ∀ p ∈ L.cs K, LamX.TabB base mg p.1 p.2) : ModD L.M L.G F9 (L.Cl K) true 10 P w K mg base := hd.add chk htb (d8 hd htb) rfl 8 rfl _ s8 (by decide +kernel)
theorem d10 (hd : Hd L P K mg) (htb : ∀ p ∈ L.cs K, LamX.TabB base mg p.1 p.2) : ModD L.M L.G F10 (L.Cl K) true 11 P w K mg base := hd.add chk htb (d9 hd htb) rfl 9 rfl _ s9 (by decide +kernel)
theorem d11 (hd : Hd L P K mg) (htb : ∀ p ∈ L.cs K, LamX.TabB base mg p.1 p.2) : ModD L.M L.G F11 (L.Cl K) true 12 P w K mg base := hd.add chk htb (d10 hd htb) rfl 10 rfl _ s10 (by decide +kernel)
theorem d12 (hd : Hd L P K mg) (htb : ∀ p ∈ L.cs K, LamX.TabB base mg p.1 p.2) : ModD L.M L.G F12 (L.Cl K) true 13 P w K mg base := hd.add chk htb (d11 hd htb) rfl 11 rfl _ s11 (by decide +kernel)
theorem d13 (hd : Hd L P K mg) (htb : ∀ p ∈ L.cs K, LamX.TabB base mg p.1 p.2) : ModD L.M L.G F13 (L.Cl K) true 14 P w K mg base := hd.add chk htb (d12 hd htb) rfl 12 rfl _ s12 (by decide +kernel)
theorem d14 (hd : Hd L P K mg) (htb : ∀ p ∈ L.cs K, LamX.TabB base mg p.1 p.2) : ModD L.M L.G F14 (L.Cl K) true 15 P w K mg base := hd.add chk htb (d13 hd htb) rfl 13 rfl _ s13 (by decide +kernel)
theorem d15 (hd : Hd L P K mg) (htb : ∀ p ∈ L.cs K, LamX.TabB base mg p.1 p.2) : ModD L.M L.G F15 (L.Cl K) true 16 P w K mg base := hd.add chk htb (d14 hd htb) rfl 14 rfl _ s14 (by decide +kernel)
theorem d16 (hd : Hd L P K mg) (htb : ∀ p ∈ L.cs K, LamX.TabB base mg p.1 p.2) : ModD L.M L.G F16 (L.Cl K) true 17 P w K mg base := hd.add chk htb (d15 hd htb) rfl 15 rfl _ s15 (by decide +kernel)
theorem d17 (hd : Hd L P K mg) (htb : ∀ p ∈ L.cs K, LamX.TabB base mg p.1 p.2) : ModD L.M L.G F17 (L.Cl K) true 18 P w K mg base := hd.add chk htb (d16 hd htb) rfl 16 rfl _ s16 (by decide +kernel)
theorem d18 (hd : Hd L P K mg) (htb : ∀ p ∈ L.cs K, LamX.TabB base mg p.1 p.2) : ModD L.M L.G F18 (L.Cl K) true 19 P w K mg base := hd.add chk htb (d17 hd htb) rfl 17 rfl _ s17 (by decide +kernel)
theorem d19 (hd : Hd L P K mg) (htb : ∀ p ∈ L.cs K, LamX.TabB base mg p.1 p.2) : ModD L.M L.G F19 (L.Cl K) true 20 P w K mg base := hd.add chk htb (d18 hd htb) rfl 18 rfl _ s18 (by decide +kernel)
theorem d20 (hd : Hd L P K mg) (htb : ∀ p ∈ L.cs K, LamX.TabB base mg p.1 p.2) : ModD L.M L.G F20 (L.Cl K) true 21 P w K mg base := hd.add chk htb (d19 hd htb) rfl 19 rfl _ s19 (by decide +kernel)
theorem d21 (hd : Hd L P K mg) (htb : ∀ p ∈ L.cs K, LamX.TabB base mg p.1 p.2) : ModD L.M L.G F21 (L.Cl K) true 22 P w K mg base := hd.add chk htb (d20 hd htb) rfl 20 rfl _ s20 (by decide +kernel)
theorem d22 (hd : Hd L P K mg) (htb : ∀ p ∈ L.cs K, LamX.TabB base mg p.1 p.2) : ModD L.M L.G F22 (L.Cl K) true 23 P w K mg base := hd.add chk htb (d21 hd htb) rfl 21 rfl _ s21 (by decide +kernel)
theorem d23 (hd : Hd L P K mg) (htb : ∀ p ∈ L.cs K, LamX.TabB base mg p.1 p.2) : ModD L.M L.G F23 (L.Cl K) true 24 P w K mg base := hd.add chk htb (d22 hd htb) rfl 22 rfl _ s22 (by decide +kernel)
theorem d24 (hd : Hd L P K mg) (htb : ∀ p ∈ L.cs K, LamX.TabB base mg p.1 p.2) : ModD L.M L.G F24 (L.Cl K) true 25 P w K mg base := hd.add chk htb (d23 hd htb) rfl 23 rfl _ s23 (by decide +kernel)
theorem d25 (hd : Hd L P K mg) (htb : ∀ p ∈ L.cs K, LamX.TabB base mg p.1 p.2) : ModD L.M L.G F25 (L.Cl K) true 26 P w K mg base := hd.add chk htb (d24 hd htb) rfl 24 rfl _ s24 (by decide +kernel)
theorem d26 (hd : Hd L P K mg) (htb : ∀ p ∈ L.cs K, LamX.TabB base mg p.1 p.2) : ModD L.M L.G F26 (L.Cl K) true 27 P w K mg base := hd.add chk htb (d25 hd htb) rfl 25 rfl _ s25 (by decide +kernel)
theorem d27 (hd : Hd L P K mg) (htb : ∀ p ∈ L.cs K, LamX.TabB base mg p.1 p.2) : ModD L.M L.G F27 (L.Cl K) true 28 P w K mg base := hd.add chk htb (d26 hd htb) rfl 26 rfl _ s26 (by decide +kernel)
theorem d28 (hd : Hd L P K mg) (htb : ∀ p ∈ L.cs K, LamX.TabB base mg p.1 p.2) : ModD L.M L.G F28 (L.Cl K) true 28 P w K mg base := hd.addH chk (d27 hd htb) 0 rfl _ s27
abbrev kL : Nat := 31
theorem last (hd : Hd L P K mg) (htb : ∀ p ∈ L.cs K, LamX.TabB base mg p.1 p.2) {fd : FuncData} (Fu : FunD K "law" "law" (defArgs s_law) (defBody s_law) (defScope s_law) [] [] (He.ga K "law") fd) : FnG P w K mg base true kL (He.ga K "law") fd P_law (liftF K (L.Cl K) 1 spLaw) ∧ Binds K fd P_law [] := by
  have z := hd.one_ chk (d28 (w := w) hd htb) rfl htb (i := 27) rfl (sp := spLaw) (k_law rfl rfl rfl rfl rfl rfl rfl rfl rfl rfl rfl rfl rfl rfl rfl) Fu
  exact ⟨z.1, z.2 rfl⟩
end
theorem law_true (ns : List Int) (_ : ns.length ≤ 63) : spLaw [.fro (ns.map D.int)] [] (fun d _ => d = .bl true) fun _ _ => False := ⟨ns, rfl, rfl, fun _ => rfl⟩
end K
set_option maxHeartbeats 0
open PySem PySem.W PySem.Calls PyProof.Rows DL
set_option maxRecDepth 100000 in
set_option maxHeartbeats 0 in
theorem PySem.Challenge.cw_bitspans_k07_whole_readers_errors_holds : PySem.Challenge.rw_bitspans_k07_whole_readers_errors.Holds := by
  w_on; o_law
  refine HandSHeadRun.head_any (r := OpenLaw.row PySem.Challenge.rw_bitspans_k07_whole_readers_errors) (q := view (OpenLaw.row PySem.Challenge.rw_bitspans_k07_whole_readers_errors).prog [44]) (H := K.hk) (ob := K.ob) (M := 4000) (loose := K.nm) (d := HandSHeadRun.topDef (OpenLaw.row PySem.Challenge.rw_bitspans_k07_whole_readers_errors).prog 44) (kwd := []) K.ob_eq
    (by kernel_rfl) (fun s => by kernel_rfl) K.run (by kernel_rfl) (by kernel_rfl) (by kernel_rfl) (by rfl) (by first | assumption | decide +kernel) (by decide +kernel) ⟨rfl, rfl, rfl, rfl, rfl, by decide +kernel⟩ ?hw ?hc
  case hw => w_witness2
  case hc =>
    refine walk_D (l := PySem.Challenge.rw_bitspans_k07_whole_readers_errors) (n := 63) (k := K.kL) (x := "_law_script") (gd := true) (f := K.spLaw) rfl (by decide) (by kernel_rfl) ⟨rfl, by decide, by decide⟩ K.law_true ?F
    intro w mg fa h Y G hmg0
    obtain ⟨KK, KX, c⟩ := Y
    have hmg : mg ("law" : PySem.Str) = some (.ref fa) := by
      have e : (HandSHeadRun.topDef (OpenLaw.row PySem.Challenge.rw_bitspans_k07_whole_readers_errors).prog 44).name = ("law" : PySem.Str) := by kernel_rfl
      rw [← e]
      exact hmg0
    have hd : Hd K.L (PySem.Challenge.rw_bitspans_k07_whole_readers_errors).prog KK mg := Hd.of KX G (by decide +kernel) c
    obtain ⟨fd, Fu, hg⟩ := hd.def_ 27 ⟨"law", K.s_law, K.N_law, K.P_law, K.m_law⟩ rfl
    have e2 := hmg.symm.trans hg
    cases e2
    have b := funD_binds Fu (chk_pos (Lw.chk_at K.chk (i := 27) rfl) rfl)
    exact ⟨KK, fd, K.L.Cl KK, K.L.cs KK, KX, fun s u => posA_bindsTo Fu (chk_pos (Lw.chk_at K.chk (i := 27) rfl) rfl) s u, Lw.cs_emp c, Lw.cs_out c, Lw.cs_hd c, Lw.cs_T, fun base _ _ htb => (K.last hd htb Fu).1⟩

