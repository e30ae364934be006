import PyProof.Rows.All
import Wide.All
import OpenK.AllK
import Wide.FinOn
import HandS.ForMost
import HandS.ForExc
import HandS.ExcCtx
import HandS.HotCalls
import HandS.Wide
import HandS.Gcd
import HandS.IsInst
import HandS.TupAny
import HandS.Style
import HandS.Flow
import HandS.More
import HandS.RaiseMore
import HandS.CallSlots
import HandS.Defaults
import HandS.Star
import KE.KExcInit
import KE.KExcSuper
import KE.KSuper
import HandS.Base
import HandS.Call
import HandS.Exc
import HandS.ExcSuper
import HandS.ExcInit
import HandS.ExcField
import HandS.ExcIs
import KE.KExcIs
import HandS.Head0
import HandS.Head1
import HandS.Head2
import HandS.HeadEnd
import HandS.HeadHook1
import HandS.HeadHook2
import HandS.Words
import HandS.WordsExc
import HandS.Text
import HandS.StrMore
import HandS.FStr
import HandS.Comp
import HandS.Zip
import HandS.Iter
import HandS.List
import HandS.TupMul
import KE.GoesZip
import KE.GoesMore
import PyProof.EnumMake
import PyProof.Rows.StrLawsPart
import KE.IntTextLaws
import KE.KBytesStep
import HandS.Head3
import PySem.Challenge.RW_pagefit_k04_multipliers_shown
set_option Elab.async false
set_option linter.all false
set_option maxRecDepth 100000
set_option maxHeartbeats 4000000
/-! MP: programs over plain data. A value is a datum D (tuples are data, lists are places of a store S); every construct
has a denotation, a plain function of environment and store; each rule says that HandS's judgement holds with the reading
that the denotation gives. -/
namespace MP
open PySem L2

inductive D where
  | non | bl (b : Bool) | int (i : Int) | str (x : Str) | tup (xs : List D) | loc (n : Nat)
  deriving Inhabited
/-- a list; a list that is only read; the own dict of an exception -/
inductive Ob where
  | lst (ds : List D) | fz (ds : List D) | xd (fs : List (Str × D)) | nu
  deriving Inhabited
abbrev S := List Ob
/-- an exception: its class's name, the place of its own dict -/
structure Ex where
  cls : Str
  at_ : Nat

/-! ### representation -/
section
variable (K : PySem.W.Frag) (m : Nat → Addr) (n : Nat) (H : Hp)
mutual
def RV : D → V → Prop
  | .non, v => v = .non
  | .bl b, v => v = .bl b
  | .int i, v => v = .int i
  | .str x, v => v = .str x
  | .loc k, v => k < n ∧ v = .ref (m k)
  | .tup ds, v => ∃ a vs, v = .ref a ∧ SqT K H a vs ∧ RVs ds vs
def RVs : List D → List V → Prop
  | [], vs => vs = []
  | d :: ds, vs => ∃ v r, vs = v :: r ∧ RV d v ∧ RVs ds r
end
end

/-- a list of the written part, or a locked one -/
def FzL (K : PySem.W.Frag) (H : Hp) (a : Addr) (xs : List V) : Prop :=
  (∃ o, H a = some (.frz o (.lst xs))) ∨
    ∃ (o : Obj) (its : Array Value) (n : Nat), K.lookup a = some o ∧ o.cls = .type "list" ∧ o.dict = none ∧ o.data = .seq its n ∧ its.size ≤ sizeLine ∧ Vals xs its.toList
theorem FzL.seq {K : PySem.W.Frag} {H : Hp} {a : Addr} {xs : List V} (h : FzL K H a xs) : SqL K H a xs := by
  rcases h with ⟨o, h⟩ | h
  · exact .inl (.inr ⟨o, h⟩)
  · exact .inr h

def RO (K : PySem.W.Frag) (m : Nat → Addr) (n : Nat) (H : Hp) : Ob → Addr → Prop
  | .lst ds, a => ∃ vs, H a = some (.lst vs) ∧ RVs K m n H ds vs
  | .fz ds, a => ∃ vs, FzL K H a vs ∧ RVs K m n H ds vs
  | .xd fs, a => ∃ vs, H a = some (.xd ((fs.map (·.1)).zip vs)) ∧ RVs K m n H (fs.map (·.2)) vs
  | .nu, _ => True
def Ob.mut : Ob → Bool
  | .lst _ => true
  | .fz _ => false
  | .xd _ => false
  | .nu => false
structure RS (K : PySem.W.Frag) (m : Nat → Addr) (st : S) (H : Hp) : Prop where
  at_ : ∀ k o, st[k]? = some o → RO K m st.length H o (m k)
  inj : ∀ i j oi oj, st[i]? = some oi → st[j]? = some oj → oi.mut = true → oj.mut = true → m i = m j → i = j

/-- what holds of values ahead holds behind -/
def Mn (K : PySem.W.Frag) (m : Nat → Addr) (n : Nat) (H : Hp) (m' : Nat → Addr) (n' : Nat) (H' : Hp) : Prop :=
  ∀ d v, RV K m n H d v → RV K m' n' H' d v
theorem Mn.refl {K : PySem.W.Frag} {m : Nat → Addr} {n : Nat} {H : Hp} : Mn K m n H m n H := fun _ _ h => h
theorem Mn.trans {K : PySem.W.Frag} {m m1 m2 : Nat → Addr} {n n1 n2 : Nat} {H H1 H2 : Hp} (a : Mn K m n H m1 n1 H1) (b : Mn K m1 n1 H1 m2 n2 H2) : Mn K m n H m2 n2 H2 :=
  fun d v h => b d v (a d v h)
theorem Mn.all {K : PySem.W.Frag} {m m' : Nat → Addr} {n n' : Nat} {H H' : Hp} (a : Mn K m n H m' n' H') : ∀ {ds : List D} {vs : List V}, RVs K m n H ds vs → RVs K m' n' H' ds vs
  | [], vs, h => h
  | d :: ds, vs, h => by
    obtain ⟨v, r, e, h1, h2⟩ := h
    exact ⟨v, r, e, a d v h1, Mn.all a h2⟩

section
variable {K : PySem.W.Frag} {m m' : Nat → Addr} {n n' : Nat} {H H' : Hp}
mutual
theorem rv_mono (ht : ∀ a vs, SqT K H a vs → SqT K H' a vs) (hn : n ≤ n') (hm : ∀ k, k < n → m' k = m k) : ∀ (d : D) (v : V), RV K m n H d v → RV K m' n' H' d v
  | .non, v, h => h
  | .bl b, v, h => h
  | .int i, v, h => h
  | .str x, v, h => h
  | .loc k, v, h => by
    obtain ⟨h1, h2⟩ := h
    exact ⟨Nat.lt_of_lt_of_le h1 hn, by rw [hm k h1]; exact h2⟩
  | .tup ds, v, h => by
    obtain ⟨a, vs, e, h1, h2⟩ := h
    exact ⟨a, vs, e, ht a vs h1, rvs_mono ht hn hm ds vs h2⟩
theorem rvs_mono (ht : ∀ a vs, SqT K H a vs → SqT K H' a vs) (hn : n ≤ n') (hm : ∀ k, k < n → m' k = m k) : ∀ (ds : List D) (vs : List V), RVs K m n H ds vs → RVs K m' n' H' ds vs
  | [], vs, h => h
  | d :: ds, vs, h => by
    obtain ⟨v, r, e, h1, h2⟩ := h
    exact ⟨v, r, e, rv_mono ht hn hm d v h1, rvs_mono ht hn hm ds r h2⟩
end
theorem Mn.of (ht : ∀ a vs, SqT K H a vs → SqT K H' a vs) (hn : n ≤ n') (hm : ∀ k, k < n → m' k = m k) : Mn K m n H m' n' H' := rv_mono ht hn hm
end

theorem sqt_upd {K : PySem.W.Frag} {H : Hp} {p : Addr} {o : HO} (hp : ∀ xs, ¬ Rd H p (.tup xs)) {a : Addr} {vs : List V} (h : SqT K H a vs) : SqT K (upd H p o) a vs := by
  rcases h with h | h
  · have ne : a ≠ p := fun e => hp vs (e ▸ h)
    rcases h with h | ⟨o', h⟩
    · exact .inl (.inl (by rw [upd_ne ne]; exact h))
    · exact .inl (.inr ⟨o', by rw [upd_ne ne]; exact h⟩)
  · exact .inr h
theorem nord_none {H : Hp} {p : Addr} (h : H p = none) (xs : List V) : ¬ Rd H p (.tup xs) := by
  rintro (q | ⟨o, q⟩) <;> rw [h] at q <;> cases q
theorem nord_lst {H : Hp} {p : Addr} {ys : List V} (h : H p = some (.lst ys)) (xs : List V) : ¬ Rd H p (.tup xs) := by
  rintro (q | ⟨o, q⟩) <;> rw [h] at q <;> cases q
theorem fz_upd {K : PySem.W.Frag} {H : Hp} {p : Addr} {o : HO} (hp : ∀ b xs, H p ≠ some (.frz b (.lst xs))) {a : Addr} {vs : List V} (h : FzL K H a vs) : FzL K (upd H p o) a vs := by
  rcases h with ⟨b, h⟩ | h
  · have ne : a ≠ p := fun e => hp b vs (e ▸ h)
    exact .inl ⟨b, by rw [upd_ne ne]; exact h⟩
  · exact .inr h

section
variable {K : PySem.W.Frag} {m : Nat → Addr} {st : S} {H : Hp}
/-- a new tuple (or another object that no place names) is laid -/
theorem RS.laid (r : RS K m st H) {p : Addr} {o : HO} (hp : H p = none) : RS K m st (upd H p o) ∧ Mn K m st.length H m st.length (upd H p o) := by
  have mn : Mn K m st.length H m st.length (upd H p o) := Mn.of (fun a vs h => sqt_upd (nord_none hp) h) (Nat.le_refl _) (fun _ _ => rfl)
  refine ⟨⟨fun k ob e => ?_, r.inj⟩, mn⟩
  have h := r.at_ k ob e
  cases ob with
  | lst ds =>
    obtain ⟨vs, h1, h2⟩ := h
    have ne : m k ≠ p := fun q => by rw [q, hp] at h1; cases h1
    exact ⟨vs, by rw [upd_ne ne]; exact h1, mn.all h2⟩
  | fz ds =>
    obtain ⟨vs, h1, h2⟩ := h
    exact ⟨vs, fz_upd (fun b xs q => by rw [hp] at q; cases q) h1, mn.all h2⟩
  | xd fs =>
    obtain ⟨vs, h1, h2⟩ := h
    have ne : m k ≠ p := fun q => by rw [q, hp] at h1; cases h1
    exact ⟨vs, by rw [upd_ne ne]; exact h1, mn.all h2⟩
  | nu => trivial
/-- a new object gets the next place -/
theorem RS.pushO (r : RS K m st H) {p : Addr} (hp : H p = none) {ob : Ob} {u : HO} (hv : ∀ m' n' H', H' p = some u → Mn K m st.length H m' n' H' → RO K m' n' H' ob p) :
    ∃ m', m' st.length = p ∧ RS K m' (st ++ [ob]) (upd H p u) ∧ Mn K m st.length H m' (st ++ [ob]).length (upd H p u) := by
  have hl : (st ++ [ob]).length = st.length + 1 := by simp
  have mn : Mn K m st.length H (fun k => if k = st.length then p else m k) (st ++ [ob]).length (upd H p u) :=
    Mn.of (fun a vs h => sqt_upd (nord_none hp) h) (by rw [hl]; omega) (fun k hk => by rw [if_neg (by omega)])
  refine ⟨fun k => if k = st.length then p else m k, by simp, ⟨fun k ob' e => ?_, fun i j oi oj ei ej mi mj q => ?_⟩, mn⟩
  · by_cases hk : k = st.length
    · subst hk
      simp at e
      subst e
      show RO K _ _ _ ob (if st.length = st.length then p else m st.length)
      rw [if_pos rfl]
      exact hv _ _ _ upd_same mn
    · have hk2 : k < st.length := by
        have := (List.getElem?_eq_some_iff.mp e).1
        rw [hl] at this
        omega
      rw [List.getElem?_append_left hk2] at e
      have h := r.at_ k ob' e
      show RO K _ _ _ ob' (if k = st.length then p else m k)
      rw [if_neg hk]
      cases ob' with
      | lst ds' =>
        obtain ⟨vs', h1, h2⟩ := h
        have ne : m k ≠ p := fun q => by rw [q, hp] at h1; cases h1
        exact ⟨vs', by rw [upd_ne ne]; exact h1, mn.all h2⟩
      | fz ds' =>
        obtain ⟨vs', h1, h2⟩ := h
        exact ⟨vs', fz_upd (fun b xs q => by rw [hp] at q; cases q) h1, mn.all h2⟩
      | xd fs =>
        obtain ⟨vs', h1, h2⟩ := h
        have ne : m k ≠ p := fun q => by rw [q, hp] at h1; cases h1
        exact ⟨vs', by rw [upd_ne ne]; exact h1, mn.all h2⟩
      | nu => trivial
  · have old : ∀ k o, (st ++ [ob])[k]? = some o → k ≠ st.length → st[k]? = some o := fun k o e hk => by
      have hk2 : k < st.length := by
        have := (List.getElem?_eq_some_iff.mp e).1
        rw [hl] at this
        omega
      rw [List.getElem?_append_left hk2] at e
      exact e
    have far : ∀ k o, st[k]? = some o → o.mut = true → m k ≠ p := fun k o e hm q => by
      have h := r.at_ k o e
      cases o with
      | lst ds' =>
        obtain ⟨vs', h1, h2⟩ := h
        rw [q, hp] at h1; cases h1
      | fz ds' => cases hm
      | xd fs => cases hm
      | nu => cases hm
    have q' : (if i = st.length then p else m i) = (if j = st.length then p else m j) := q
    by_cases hi : i = st.length
    · by_cases hj : j = st.length
      · rw [hi, hj]
      · rw [if_pos hi, if_neg hj] at q'
        exact absurd q'.symm (far j oj (old j oj ej hj) mj)
    · by_cases hj : j = st.length
      · rw [if_neg hi, if_pos hj] at q'
        exact absurd q' (far i oi (old i oi ei hi) mi)
      · rw [if_neg hi, if_neg hj] at q'
        exact r.inj i j oi oj (old i oi ei hi) (old j oj ej hj) mi mj q'
theorem RS.push (r : RS K m st H) {p : Addr} (hp : H p = none) {ds : List D} {vs : List V} (hv : RVs K m st.length H ds vs) :
    ∃ m', m' st.length = p ∧ RS K m' (st ++ [.lst ds]) (upd H p (.lst vs)) ∧ Mn K m st.length H m' (st ++ [Ob.lst ds]).length (upd H p (.lst vs)) :=
  r.pushO hp fun _ _ _ e mn => ⟨vs, e, mn.all hv⟩
theorem RS.pushX (r : RS K m st H) {p : Addr} (hp : H p = none) {fs : List (Str × D)} {vs : List V} (hv : RVs K m st.length H (fs.map (·.2)) vs) :
    ∃ m', m' st.length = p ∧ RS K m' (st ++ [.xd fs]) (upd H p (.xd ((fs.map (·.1)).zip vs))) ∧ Mn K m st.length H m' (st ++ [Ob.xd fs]).length (upd H p (.xd ((fs.map (·.1)).zip vs))) :=
  r.pushO hp fun _ _ _ e mn => ⟨vs, e, mn.all hv⟩
/-- an address gets a place, nothing is said of it -/
theorem RS.pushN (r : RS K m st H) (p : Addr) : ∃ m', m' st.length = p ∧ RS K m' (st ++ [.nu]) H ∧ Mn K m st.length H m' (st ++ [Ob.nu]).length H := by
  have hl : (st ++ [Ob.nu]).length = st.length + 1 := by simp
  have mn : Mn K m st.length H (fun k => if k = st.length then p else m k) (st ++ [Ob.nu]).length H :=
    Mn.of (fun a vs h => h) (by rw [hl]; omega) (fun k hk => by rw [if_neg (by omega)])
  have old : ∀ k o, (st ++ [Ob.nu])[k]? = some o → k ≠ st.length → k < st.length ∧ st[k]? = some o := fun k o e hk => by
    have hk2 : k < st.length := by
      have := (List.getElem?_eq_some_iff.mp e).1
      rw [hl] at this
      omega
    rw [List.getElem?_append_left hk2] at e
    exact ⟨hk2, e⟩
  have mut_old : ∀ k o, (st ++ [Ob.nu])[k]? = some o → o.mut = true → k < st.length ∧ st[k]? = some o := fun k o e hm => by
    by_cases hk : k = st.length
    · subst hk
      simp at e
      subst e
      cases hm
    · exact old k o e hk
  refine ⟨fun k => if k = st.length then p else m k, by simp, ⟨fun k ob' e => ?_, fun i j oi oj ei ej mi mj q => ?_⟩, mn⟩
  · by_cases hk : k = st.length
    · subst hk
      simp at e
      subst e
      trivial
    · obtain ⟨hk2, e⟩ := old k ob' e hk
      have h := r.at_ k ob' e
      show RO K _ _ _ ob' (if k = st.length then p else m k)
      rw [if_neg hk]
      cases ob' with
      | lst ds' =>
        obtain ⟨vs', h1, h2⟩ := h
        exact ⟨vs', h1, mn.all h2⟩
      | fz ds' =>
        obtain ⟨vs', h1, h2⟩ := h
        exact ⟨vs', h1, mn.all h2⟩
      | xd fs =>
        obtain ⟨vs', h1, h2⟩ := h
        exact ⟨vs', h1, mn.all h2⟩
      | nu => trivial
  · obtain ⟨hi, ei⟩ := mut_old i oi ei mi
    obtain ⟨hj, ej⟩ := mut_old j oj ej mj
    have q' : (if i = st.length then p else m i) = (if j = st.length then p else m j) := q
    rw [if_neg (by omega), if_neg (by omega)] at q'
    exact r.inj i j oi oj ei ej mi mj q'
/-- a list is changed -/
theorem RS.write (r : RS K m st H) {k : Nat} {ds0 ds : List D} {vs : List V} (e0 : st[k]? = some (.lst ds0)) (hv : RVs K m st.length H ds vs) :
    RS K m (st.set k (.lst ds)) (upd H (m k) (.lst vs)) ∧ Mn K m st.length H m (st.set k (.lst ds)).length (upd H (m k) (.lst vs)) := by
  obtain ⟨vs0, h0, _⟩ := r.at_ k _ e0
  have hl : (st.set k (.lst ds)).length = st.length := by simp
  have hk : k < st.length := (List.getElem?_eq_some_iff.mp e0).1
  have mn : Mn K m st.length H m (st.set k (.lst ds)).length (upd H (m k) (.lst vs)) :=
    Mn.of (fun a vs h => sqt_upd (nord_lst h0) h) (by rw [hl]; omega) (fun _ _ => rfl)
  have old : ∀ i ob, (st.set k (.lst ds))[i]? = some ob → i ≠ k → st[i]? = some ob := fun i ob e hi => by
    rw [List.getElem?_set_ne (Ne.symm hi)] at e; exact e
  refine ⟨⟨fun i ob e => ?_, fun i j oi oj ei ej mi mj q => ?_⟩, mn⟩
  · by_cases hi : i = k
    · subst hi
      rw [List.getElem?_set_self hk] at e
      cases e
      exact ⟨vs, upd_same, mn.all hv⟩
    · have e' := old i ob e hi
      have h := r.at_ i ob e'
      cases ob with
      | lst ds' =>
        obtain ⟨vs', h1, h2⟩ := h
        have ne : m i ≠ m k := fun q => hi (r.inj i k _ _ e' e0 rfl rfl q)
        exact ⟨vs', by rw [upd_ne ne]; exact h1, mn.all h2⟩
      | fz ds' =>
        obtain ⟨vs', h1, h2⟩ := h
        exact ⟨vs', fz_upd (fun b xs q => by rw [h0] at q; cases q) h1, mn.all h2⟩
      | xd fs =>
        obtain ⟨vs', h1, h2⟩ := h
        have ne : m i ≠ m k := fun q => by rw [q, h0] at h1; cases h1
        exact ⟨vs', by rw [upd_ne ne]; exact h1, mn.all h2⟩
      | nu => trivial
  · have mm : ∀ (i : Nat) (oi : Ob), (st.set k (Ob.lst ds))[i]? = some oi → oi.mut = true → ∃ o' : Ob, st[i]? = some o' ∧ o'.mut = true := fun i oi e hm => by
      by_cases hi : i = k
      · exact ⟨_, hi ▸ e0, rfl⟩
      · exact ⟨oi, old i oi e hi, hm⟩
    obtain ⟨a, ea, ma⟩ := mm i oi ei mi
    obtain ⟨b, eb, mb⟩ := mm j oj ej mj
    exact r.inj i j a b ea eb ma mb q
end
/-! ### environments -/
abbrev En := List (Option D)
/-- gh: data that stand for values beside the slots -/
structure RE (gh : List (D × V)) (K : PySem.W.Frag) (m : Nat → Addr) (n : Nat) (H : Hp) (ρ : En) (σ : L2.St) : Prop where
  len : ρ.length = σ.length
  get : ∀ (i : Nat) (d : D), ρ[i]? = some (some d) → ∃ v, σ[i]? = some (some v) ∧ RV K m n H d v
  gho : ∀ p ∈ gh, RV K m n H p.1 p.2
section
variable {K : PySem.W.Frag} {m m' : Nat → Addr} {n n' : Nat} {H H' : Hp} {ρ : En} {σ : L2.St} {gh : List (D × V)}
theorem RE.mono (r : RE gh K m n H ρ σ) (mn : Mn K m n H m' n' H') : RE gh K m' n' H' ρ σ :=
  ⟨r.len, fun i d e => by obtain ⟨v, h1, h2⟩ := r.get i d e; exact ⟨v, h1, mn d v h2⟩, fun p hp => mn _ _ (r.gho p hp)⟩
theorem RE.set (r : RE gh K m n H ρ σ) {i : Nat} {d : D} {v : V} (h : RV K m n H d v) : RE gh K m n H (ρ.set i (some d)) (σ.set i (some v)) := by
  refine ⟨by simp [r.len], fun j e hj => ?_, r.gho⟩
  by_cases q : j = i
  · subst q
    have hl : j < ρ.length := by
      have := (List.getElem?_eq_some_iff.mp hj).1
      simpa using this
    rw [List.getElem?_set_self hl] at hj
    cases hj
    exact ⟨v, by rw [List.getElem?_set_self (r.len ▸ hl)], h⟩
  · rw [List.getElem?_set_ne (Ne.symm q)] at hj
    obtain ⟨w, h1, h2⟩ := r.get j e hj
    exact ⟨w, by rw [List.getElem?_set_ne (Ne.symm q)]; exact h1, h2⟩
theorem RE.drop (r : RE gh K m n H ρ σ) {i : Nat} : RE gh K m n H (ρ.set i none) (σ.set i none) := by
  refine ⟨by simp [r.len], fun j e hj => ?_, r.gho⟩
  by_cases q : j = i
  · subst q
    have hl : j < ρ.length := by
      have := (List.getElem?_eq_some_iff.mp hj).1
      simpa using this
    rw [List.getElem?_set_self hl] at hj
    cases hj
  · rw [List.getElem?_set_ne (Ne.symm q)] at hj
    obtain ⟨w, h1, h2⟩ := r.get j e hj
    exact ⟨w, by rw [List.getElem?_set_ne (Ne.symm q)]; exact h1, h2⟩
theorem RE.forget (r : RE gh K m n H ρ σ) {i : Nat} {x : Option V} : RE gh K m n H (ρ.set i none) (σ.set i x) := by
  refine ⟨by simp [r.len], fun j e hj => ?_, r.gho⟩
  by_cases q : j = i
  · subst q
    have hl : j < ρ.length := by
      have := (List.getElem?_eq_some_iff.mp hj).1
      simpa using this
    rw [List.getElem?_set_self hl] at hj
    cases hj
  · rw [List.getElem?_set_ne (Ne.symm q)] at hj
    obtain ⟨w, h1, h2⟩ := r.get j e hj
    exact ⟨w, by rw [List.getElem?_set_ne (Ne.symm q)]; exact h1, h2⟩
end
theorem RVs.len {K : PySem.W.Frag} {m : Nat → Addr} {n : Nat} {H : Hp} : ∀ {ds : List D} {vs : List V}, RVs K m n H ds vs → ds.length = vs.length
  | [], vs, h => by cases h; rfl
  | d :: ds, vs, h => by
    obtain ⟨v, r, e, _, h2⟩ := h
    subst e
    simp [RVs.len h2]
theorem RVs.get {K : PySem.W.Frag} {m : Nat → Addr} {n : Nat} {H : Hp} : ∀ {ds : List D} {vs : List V} {i : Nat} {d : D}, RVs K m n H ds vs → ds[i]? = some d → ∃ v, vs[i]? = some v ∧ RV K m n H d v
  | [], vs, i, d, h, e => by simp at e
  | d' :: ds, vs, 0, d, h, e => by
    obtain ⟨v, r, e1, h1, h2⟩ := h
    subst e1
    simp at e
    subst e
    exact ⟨v, rfl, h1⟩
  | d' :: ds, vs, i + 1, d, h, e => by
    obtain ⟨v, r, e1, h1, h2⟩ := h
    subst e1
    obtain ⟨w, h3, h4⟩ := RVs.get (i := i) h2 (by simpa using e)
    exact ⟨w, by simpa using h3, h4⟩
theorem RVs.app {K : PySem.W.Frag} {m : Nat → Addr} {n : Nat} {H : Hp} : ∀ {ds es : List D} {vs ws : List V}, RVs K m n H ds vs → RVs K m n H es ws → RVs K m n H (ds ++ es) (vs ++ ws)
  | [], es, vs, ws, h, h' => by cases h; exact h'
  | d :: ds, es, vs, ws, h, h' => by
    obtain ⟨v, r, e, h1, h2⟩ := h
    subst e
    exact ⟨v, r ++ ws, rfl, h1, RVs.app h2 h'⟩
theorem RVs.one {K : PySem.W.Frag} {m : Nat → Addr} {n : Nat} {H : Hp} {d : D} {v : V} (h : RV K m n H d v) : RVs K m n H [d] [v] := ⟨v, [], rfl, h, rfl⟩
theorem RVs.set {K : PySem.W.Frag} {m : Nat → Addr} {n : Nat} {H : Hp} {d : D} {v : V} (h : RV K m n H d v) : ∀ {ds : List D} {vs : List V} (i : Nat), RVs K m n H ds vs → RVs K m n H (ds.set i d) (vs.set i v)
  | [], vs, i, h' => by cases h'; exact rfl
  | d' :: ds, vs, 0, h' => by
    obtain ⟨w, r, e, h1, h2⟩ := h'
    subst e
    exact ⟨v, r, rfl, h, h2⟩
  | d' :: ds, vs, i + 1, h' => by
    obtain ⟨w, r, e, h1, h2⟩ := h'
    subst e
    exact ⟨w, r.set i v, rfl, h1, RVs.set h i h2⟩
theorem RVs.take {K : PySem.W.Frag} {m : Nat → Addr} {n : Nat} {H : Hp} : ∀ {ds : List D} {vs : List V} (i : Nat), RVs K m n H ds vs → RVs K m n H (ds.take i) (vs.take i)
  | ds, vs, 0, h => by simp only [List.take_zero]; exact rfl
  | [], vs, i + 1, h' => by cases h'; exact rfl
  | d' :: ds, vs, i + 1, h' => by
    obtain ⟨w, r, e, h1, h2⟩ := h'
    subst e
    exact ⟨w, r.take i, rfl, h1, RVs.take i h2⟩
theorem RVs.drop {K : PySem.W.Frag} {m : Nat → Addr} {n : Nat} {H : Hp} : ∀ {ds : List D} {vs : List V} (i : Nat), RVs K m n H ds vs → RVs K m n H (ds.drop i) (vs.drop i)
  | ds, vs, 0, h => h
  | [], vs, i + 1, h' => by cases h'; exact rfl
  | d' :: ds, vs, i + 1, h' => by
    obtain ⟨w, r, e, h1, h2⟩ := h'
    subst e
    exact RVs.drop i h2

/-! ### outcomes -/
inductive Out (α : Type) where
  | ok (a : α) (st : S) | exc (e : Ex) (st : S) | bad
def Out.bind {α β : Type} (o : Out α) (k : α → S → Out β) : Out β := match o with
  | .ok a st => k a st
  | .exc e st => .exc e st
  | .bad => .bad
@[simp] theorem Out.bind_ok {α β : Type} (a : α) (st : S) (k : α → S → Out β) : (Out.ok a st).bind k = k a st := rfl
@[simp] theorem Out.bind_exc {α β : Type} (e : Ex) (st : S) (k : α → S → Out β) : (Out.exc e st).bind k = .exc e st := rfl
@[simp] theorem Out.bind_bad {α β : Type} (k : α → S → Out β) : (Out.bad).bind k = .bad := rfl

/-- what an exception is -/
def RX (K : PySem.W.Frag) (mg : Str → Option Value) (m : Nat → Addr) (n : Nat) (H : Hp) (e : Ex) (cls : Value) (od : Option Addr) : Prop :=
  ∃ (C dx : Addr), mg e.cls = some (.ref C) ∧ cls = .ref C ∧ od = some dx ∧ RV K m n H (.loc e.at_) (.ref dx)
/-- behind (m, n, H): the outcome o meets what is wanted -/
def Meet {α : Type} (K : PySem.W.Frag) (mg : Str → Option Value) (m : Nat → Addr) (n : Nat) (H : Hp) (o : Out α) (Q : α → S → (Nat → Addr) → Hp → Prop) (E : XK) : Prop := match o with
  | .ok a st' => ∀ m' H', RS K m' st' H' → Mn K m n H m' st'.length H' → Q a st' m' H'
  | .exc e st' => ∀ m' H' cls od, RS K m' st' H' → Mn K m n H m' st'.length H' → RX K mg m' st'.length H' e cls od → E cls od H'
  | .bad => False
section
variable {α β : Type} {K : PySem.W.Frag} {mg : Str → Option Value} {m : Nat → Addr} {n : Nat} {H : Hp} {o : Out α} {E : XK}
theorem Meet.imp {Q Q' : α → S → (Nat → Addr) → Hp → Prop} (h : Meet K mg m n H o Q E) (hq : ∀ a st' m' H', RS K m' st' H' → Mn K m n H m' st'.length H' → Q a st' m' H' → Q' a st' m' H') : Meet K mg m n H o Q' E := by
  cases o with
  | ok a st' => exact fun m' H' r mn => hq _ _ _ _ r mn (h m' H' r mn)
  | exc e st' => exact h
  | bad => exact h
theorem Meet.bind {k : α → S → Out β} {Q : β → S → (Nat → Addr) → Hp → Prop} (h : Meet K mg m n H (o.bind k) Q E) :
    Meet K mg m n H o (fun a st' m' H' => Meet K mg m' st'.length H' (k a st') Q E) E := by
  cases o with
  | ok a st' =>
    intro m' H' r mn
    show Meet K mg m' st'.length H' (k a st') Q E
    have h1 : Meet K mg m n H (k a st') Q E := h
    cases hk : k a st' with
    | ok b st2 => rw [hk] at h1; exact fun m2 H2 r2 mn2 => h1 m2 H2 r2 (mn.trans mn2)
    | exc e st2 => rw [hk] at h1; exact fun m2 H2 cls od r2 mn2 rx => h1 m2 H2 cls od r2 (mn.trans mn2) rx
    | bad => rw [hk] at h1; exact h1
  | exc e st' => exact h
  | bad => exact h
end

/-! ### readings of denotations -/
/-- what is wanted of exceptions, and what stands for values beside the slots -/
structure Wc where
  W : WX
  gh : List (D × V) := []
abbrev FE := En → S → Out D
abbrev FT := En → S → Out Bool
abbrev FA := En → S → Out (List D)
section
variable (K : PySem.W.Frag) (mg : Str → Option Value) (W : Wc)
def rE (f : FE) : TE := fun σ H Q => ∃ m st ρ, RS K m st H ∧ RE W.gh K m st.length H ρ σ ∧
  Meet K mg m st.length H (f ρ st) (fun d st' m' H' => ∀ v, RV K m' st'.length H' d v → Q v H') (fun cls od H' => W.W cls od σ H')
def rT (f : FT) : TT := fun σ H Q => ∃ m st ρ, RS K m st H ∧ RE W.gh K m st.length H ρ σ ∧
  Meet K mg m st.length H (f ρ st) (fun b st' m' H' => Q b H') (fun cls od H' => W.W cls od σ H')
def rA (f : FA) : TA := fun σ H Q => ∃ m st ρ, RS K m st H ∧ RE W.gh K m st.length H ρ σ ∧
  Meet K mg m st.length H (f ρ st) (fun ds st' m' H' => ∀ vs, RVs K m' st'.length H' ds vs → Q vs H') (fun cls od H' => W.W cls od σ H')
end
inductive SO where
  | nx (ρ : En) (st : S) | rt (d : D) (st : S) | bk (ρ : En) (st : S) | ct (ρ : En) (st : S) | ex (e : Ex) (ρ : En) (st : S) | bad
abbrev FS := En → S → SO
/-- the statement's outcome meets its ends -/
def MeetS (K : PySem.W.Frag) (mg : Str → Option Value) (W : Wc) (m : Nat → Addr) (n : Nat) (H : Hp) (o : SO) (E : Ends) : Prop := match o with
  | .nx ρ st => ∀ m' H' σ, RS K m' st H' → Mn K m n H m' st.length H' → RE W.gh K m' st.length H' ρ σ → E.nx σ H'
  | .rt d st => ∀ m' H' v, RS K m' st H' → Mn K m n H m' st.length H' → RV K m' st.length H' d v → E.rt v H'
  | .bk ρ st => ∀ m' H' σ, RS K m' st H' → Mn K m n H m' st.length H' → RE W.gh K m' st.length H' ρ σ → E.bk σ H'
  | .ct ρ st => ∀ m' H' σ, RS K m' st H' → Mn K m n H m' st.length H' → RE W.gh K m' st.length H' ρ σ → E.ct σ H'
  | .ex e ρ st => ∀ m' H' σ cls od, RS K m' st H' → Mn K m n H m' st.length H' → RE W.gh K m' st.length H' ρ σ → RX K mg m' st.length H' e cls od → W.W cls od σ H'
  | .bad => False
def rS (K : PySem.W.Frag) (mg : Str → Option Value) (W : Wc) (f : FS) : TS := fun E σ H => ∃ m st ρ, RS K m st H ∧ RE W.gh K m st.length H ρ σ ∧ MeetS K mg W m st.length H (f ρ st) E
end MP

set_option Elab.async false
set_option linter.all false
set_option maxRecDepth 100000
set_option maxHeartbeats 4000000
namespace MP
open PySem L2

/-! ### equality of data is decidable -/
mutual
def D.same : D → D → Bool
  | .non, .non => true
  | .bl a, .bl b => a == b
  | .int i, .int j => decide (i = j)
  | .str x, .str y => decide (x = y)
  | .tup xs, .tup ys => D.sames xs ys
  | .loc i, .loc j => decide (i = j)
  | _, _ => false
def D.sames : List D → List D → Bool
  | [], [] => true
  | x :: xs, y :: ys => D.same x y && D.sames xs ys
  | _, _ => false
end
mutual
theorem D.same_eq : ∀ (a b : D), D.same a b = true → a = b
  | .non, b, h => by cases b <;> first | rfl | simp [D.same] at h
  | .bl a, b, h => by cases b <;> first | simp [D.same] at h | skip
                      all_goals (subst h; rfl)
  | .int i, b, h => by cases b <;> first | simp [D.same] at h | skip
                       all_goals (subst h; rfl)
  | .str x, b, h => by cases b <;> first | simp [D.same] at h | skip
                       all_goals (subst h; rfl)
  | .tup xs, b, h => by
    cases b with
    | tup ys =>
      have e := D.sames_eq xs ys (by simpa [D.same] using h)
      rw [e]
    | _ => simp [D.same] at h
  | .loc i, b, h => by cases b <;> first | simp [D.same] at h | skip
                       all_goals (subst h; rfl)
theorem D.sames_eq : ∀ (a b : List D), D.sames a b = true → a = b
  | [], b, h => by cases b <;> first | rfl | simp [D.sames] at h
  | x :: xs, b, h => by
    cases b with
    | nil => simp [D.sames] at h
    | cons y ys =>
      have h2 : (D.same x y && D.sames xs ys) = true := by simpa [D.sames] using h
      obtain ⟨h3, h4⟩ := Bool.and_eq_true_iff.mp h2
      rw [D.same_eq x y h3, D.sames_eq xs ys h4]
end
mutual
theorem D.same_self : ∀ a : D, D.same a a = true
  | .non => by simp [D.same]
  | .bl _ => by simp [D.same]
  | .int _ => by simp [D.same]
  | .str _ => by simp [D.same]
  | .tup xs => by simp [D.same, D.sames_self xs]
  | .loc _ => by simp [D.same]
theorem D.sames_self : ∀ a : List D, D.sames a a = true
  | [] => by simp [D.sames]
  | x :: xs => by simp [D.sames, D.same_self x, D.sames_self xs]
end
instance : DecidableEq D := fun a b => if h : D.same a b = true then .isTrue (D.same_eq a b h) else .isFalse fun e => h (by rw [e]; exact D.same_self b)
instance : DecidableEq Ob := fun a b => match a, b with
  | .lst xs, .lst ys => if h : xs = ys then .isTrue (by rw [h]) else .isFalse fun e => h (by injection e)
  | .fz xs, .fz ys => if h : xs = ys then .isTrue (by rw [h]) else .isFalse fun e => h (by injection e)
  | .xd xs, .xd ys => if h : xs = ys then .isTrue (by rw [h]) else .isFalse fun e => h (by injection e)
  | .lst _, .fz _ => .isFalse fun e => by cases e
  | .fz _, .lst _ => .isFalse fun e => by cases e
  | .lst _, .xd _ => .isFalse fun e => by cases e
  | .fz _, .xd _ => .isFalse fun e => by cases e
  | .xd _, .lst _ => .isFalse fun e => by cases e
  | .xd _, .fz _ => .isFalse fun e => by cases e
  | .nu, .nu => .isTrue rfl
  | .nu, .lst _ => .isFalse fun e => by cases e
  | .nu, .fz _ => .isFalse fun e => by cases e
  | .nu, .xd _ => .isFalse fun e => by cases e
  | .lst _, .nu => .isFalse fun e => by cases e
  | .fz _, .nu => .isFalse fun e => by cases e
  | .xd _, .nu => .isFalse fun e => by cases e
/-- the list at a place -/
def lstAt (st : S) (n : Nat) : Option (List D) := match st[n]? with
  | some (.lst ds) => some ds
  | some (.fz ds) => some ds
  | _ => none
theorem lstAt_ok {K : PySem.W.Frag} {m : Nat → Addr} {st : S} {H : Hp} (rs : RS K m st H) {n : Nat} {ds : List D} (h : lstAt st n = some ds) : ∃ vs, SqL K H (m n) vs ∧ RVs K m st.length H ds vs ∧ ((∃ xs, H (m n) = some (.lst xs)) ∨ ∃ xs, FzL K H (m n) xs) := by
  unfold lstAt at h
  cases q : st[n]? with
  | none => rw [q] at h; cases h
  | some ob =>
    rw [q] at h
    have ro := rs.at_ n ob q
    cases ob with
    | lst xs =>
      cases h
      obtain ⟨vs, h1, h2⟩ := ro
      exact ⟨vs, SqL.of h1, h2, .inl ⟨vs, h1⟩⟩
    | fz xs =>
      cases h
      obtain ⟨vs, h1, h2⟩ := ro
      exact ⟨vs, h1.seq, h2, .inr ⟨vs, h1⟩⟩
    | xd fs => cases h
    | nu => cases h

/-! ### weakening readings -/
section
variable {X : Cx} {e : Expr} {es : List Expr} {st : Stmt} {sts : List Stmt}
theorem pe_imp {t t' : TE} (h : PE X e t) (hi : ∀ σ H Q, t' σ H Q → t σ H Q) : PE X e t' := ⟨fun pins s σ H Q I hw => h.run pins s σ H Q I (hi σ H Q hw)⟩
theorem pt_imp {t t' : TT} (h : PT X e t) (hi : ∀ σ H Q, t' σ H Q → t σ H Q) : PT X e t' := ⟨fun pins s σ H Q I hw => h.run pins s σ H Q I (hi σ H Q hw)⟩
theorem pw_imp {t t' : TT} (h : PW X e t) (hi : ∀ σ H Q, t' σ H Q → t σ H Q) : PW X e t' := ⟨fun wh pins s σ H Q I hw => h.run wh pins s σ H Q I (hi σ H Q hw)⟩
theorem pa_imp {t t' : TA} (h : PA X es t) (hi : ∀ σ H Q, t' σ H Q → t σ H Q) : PA X es t' := ⟨fun pos pins s σ H Q I hw => h.run pos pins s σ H Q I (hi σ H Q hw)⟩
theorem ps_imp {t t' : TS} (h : PS X st t) (hi : ∀ E σ H, t' E σ H → t E σ H) : PS X st t' := ⟨fun pins s σ H E I hw => h.run pins s σ H E I (hi E σ H hw)⟩
theorem pss_imp {t t' : TS} (h : PSs X sts t) (hi : ∀ E σ H, t' E σ H → t E σ H) : PSs X sts t' := ⟨fun pins s σ H E I hw => h.run pins s σ H E I (hi E σ H hw)⟩
end
abbrev JE (X : Cx) (W : Wc) (e : Expr) (f : FE) : Prop := PE X e (rE X.K X.mg W f)
abbrev JT (X : Cx) (W : Wc) (e : Expr) (f : FT) : Prop := PT X e (rT X.K X.mg W f)
abbrev JW (X : Cx) (W : Wc) (e : Expr) (f : FT) : Prop := PW X e (rT X.K X.mg W f)
abbrev JA (X : Cx) (W : Wc) (es : List Expr) (f : FA) : Prop := PA X es (rA X.K X.mg W f)
abbrev JS (X : Cx) (W : Wc) (st : Stmt) (f : FS) : Prop := PS X st (rS X.K X.mg W f)
abbrev JB (X : Cx) (W : Wc) (sts : List Stmt) (f : FS) : Prop := PSs X sts (rS X.K X.mg W f)

/-! ### denotations of expressions -/
def fVar (i : Nat) : FE := fun ρ st => match ρ[i]? with
  | some (some d) => .ok d st
  | _ => .bad
def fC (d : D) : FE := fun _ st => .ok d st
def ofO {α : Type} (o : Option (α × S)) : Out α := match o with
  | some (a, st) => .ok a st
  | none => .bad
@[simp] theorem ofO_some {α : Type} (a : α) (st : S) : ofO (some (a, st)) = .ok a st := rfl
@[simp] theorem ofO_none {α : Type} : ofO (none : Option (α × S)) = .bad := rfl
def fBin (g : D → D → S → Option (D × S)) (a b : FE) : FE := fun ρ st => (a ρ st).bind fun x st1 => (b ρ st1).bind fun y st2 => ofO (g x y st2)
def fUn (g : D → S → Option (D × S)) (a : FE) : FE := fun ρ st => (a ρ st).bind fun x st1 => ofO (g x st1)
def fNil : FA := fun _ st => .ok [] st
def fCons (a : FE) (r : FA) : FA := fun ρ st => (a ρ st).bind fun x st1 => (r ρ st1).bind fun xs st2 => .ok (x :: xs) st2
def fTup (a : FA) : FE := fun ρ st => (a ρ st).bind fun ds st1 => .ok (.tup ds) st1
def fLst (a : FA) : FE := fun ρ st => (a ρ st).bind fun ds st1 => .ok (.loc st1.length) (st1 ++ [.lst ds])
def fArgs (g : List D → S → Option (D × S)) (a : FA) : FE := fun ρ st => (a ρ st).bind fun ds st1 => ofO (g ds st1)
def fMeth (g : D → List D → S → Option (D × S)) (o : FE) (a : FA) : FE := fun ρ st => (o ρ st).bind fun x st1 => (a ρ st1).bind fun ds st2 => ofO (g x ds st2)
def fCall (g : List D → S → Out D) (a : FA) : FE := fun ρ st => (a ρ st).bind fun ds st1 => g ds st1
def fIsB (a : FE) : FT := fun ρ st => (a ρ st).bind fun x st1 => match x with
  | .bl b => .ok b st1
  | _ => .bad
/-- the truth of a value -/
def truD (st : S) : D → Option Bool
  | .non => some false
  | .bl b => some b
  | .int i => some (i != 0)
  | .str x => if x.length ≤ sizeLine then some (x.length != 0) else none
  | .tup ds => some (!ds.isEmpty)
  | .loc n => (lstAt st n).map fun ds => !ds.isEmpty
def fTru (a : FE) : FT := fun ρ st => (a ρ st).bind fun x st1 => match truD st1 x with
  | some b => .ok b st1
  | none => .bad
def fAnd (a b : FT) : FT := fun ρ st => (a ρ st).bind fun x st1 => if x = true then b ρ st1 else .ok false st1
def fOr (a b : FT) : FT := fun ρ st => (a ρ st).bind fun x st1 => if x = true then .ok true st1 else b ρ st1
def fNot (a : FT) : FT := fun ρ st => (a ρ st).bind fun x st1 => .ok (!x) st1
def fAndV (a b : FE) : FE := fun ρ st => (fIsB a ρ st).bind fun x st1 => if x = true then b ρ st1 else .ok (.bl false) st1
def fOrV (a b : FE) : FE := fun ρ st => (fIsB a ρ st).bind fun x st1 => if x = true then .ok (.bl true) st1 else b ρ st1
def fNotV (a : FE) : FE := fun ρ st => (fIsB a ρ st).bind fun x st1 => .ok (.bl (!x)) st1
def fIf (t : FT) (a b : FE) : FE := fun ρ st => (t ρ st).bind fun x st1 => if x = true then a ρ st1 else b ρ st1

/-- the length of an argument list -/
def FLen (f : FA) (n : Nat) : Prop := ∀ ρ st ds st', f ρ st = .ok ds st' → ds.length = n
theorem flen_nil : FLen fNil 0 := fun _ _ _ _ h => by cases h; rfl
theorem flen_cons {a : FE} {r : FA} {n : Nat} (h : FLen r n) : FLen (fCons a r) (n + 1) := fun ρ st ds st' e => by
  unfold fCons at e
  cases ha : a ρ st with
  | ok x st1 =>
    rw [ha] at e
    simp only [Out.bind_ok] at e
    cases hr : r ρ st1 with
    | ok xs st2 =>
      rw [hr] at e
      simp only [Out.bind_ok] at e
      cases e
      simp [h _ _ _ _ hr]
    | exc _ _ => rw [hr] at e; cases e
    | bad => rw [hr] at e; cases e
  | exc _ _ => rw [ha] at e; cases e
  | bad => rw [ha] at e; cases e

/-! ### glue -/
section
variable {K : PySem.W.Frag} {mg : Str → Option Value} {W : Wc} {α : Type}
/-- two steps in a row -/
theorem re_bind {f : FE} {k : D → S → En → Out α} {m : Nat → Addr} {st : S} {ρ : En} {σ : L2.St} {H : Hp} {Qa : α → S → (Nat → Addr) → Hp → Prop} {R : V → Hp → Prop}
    (rs : RS K m st H) (re : RE W.gh K m st.length H ρ σ) (h : Meet K mg m st.length H ((f ρ st).bind fun d st1 => k d st1 ρ) Qa (fun cls od H' => W.W cls od σ H'))
    (hr : ∀ d st1 m1 H1 v, RS K m1 st1 H1 → RE W.gh K m1 st1.length H1 ρ σ → Mn K m st.length H m1 st1.length H1 → RV K m1 st1.length H1 d v → Meet K mg m1 st1.length H1 (k d st1 ρ) Qa (fun cls od H' => W.W cls od σ H') → R v H1) :
    rE K mg W f σ H R :=
  ⟨m, st, ρ, rs, re, (Meet.bind h).imp fun d st1 m1 H1 r1 mn h1 v rv => hr d st1 m1 H1 v r1 (re.mono mn) mn rv h1⟩
theorem ra_bind {f : FA} {k : List D → S → En → Out α} {m : Nat → Addr} {st : S} {ρ : En} {σ : L2.St} {H : Hp} {Qa : α → S → (Nat → Addr) → Hp → Prop} {R : List V → Hp → Prop}
    (rs : RS K m st H) (re : RE W.gh K m st.length H ρ σ) (h : Meet K mg m st.length H ((f ρ st).bind fun d st1 => k d st1 ρ) Qa (fun cls od H' => W.W cls od σ H'))
    (hr : ∀ d st1 m1 H1 v, RS K m1 st1 H1 → RE W.gh K m1 st1.length H1 ρ σ → Mn K m st.length H m1 st1.length H1 → RVs K m1 st1.length H1 d v → Meet K mg m1 st1.length H1 (k d st1 ρ) Qa (fun cls od H' => W.W cls od σ H') → R v H1) :
    rA K mg W f σ H R :=
  ⟨m, st, ρ, rs, re, (Meet.bind h).imp fun d st1 m1 H1 r1 mn h1 v rv => hr d st1 m1 H1 v r1 (re.mono mn) mn rv h1⟩
theorem rt_bind {f : FT} {k : Bool → S → En → Out α} {m : Nat → Addr} {st : S} {ρ : En} {σ : L2.St} {H : Hp} {Qa : α → S → (Nat → Addr) → Hp → Prop} {R : Bool → Hp → Prop}
    (rs : RS K m st H) (re : RE W.gh K m st.length H ρ σ) (h : Meet K mg m st.length H ((f ρ st).bind fun d st1 => k d st1 ρ) Qa (fun cls od H' => W.W cls od σ H'))
    (hr : ∀ d st1 m1 H1, RS K m1 st1 H1 → RE W.gh K m1 st1.length H1 ρ σ → Mn K m st.length H m1 st1.length H1 → Meet K mg m1 st1.length H1 (k d st1 ρ) Qa (fun cls od H' => W.W cls od σ H') → R d H1) :
    rT K mg W f σ H R :=
  ⟨m, st, ρ, rs, re, (Meet.bind h).imp fun d st1 m1 H1 r1 mn h1 => hr d st1 m1 H1 r1 (re.mono mn) mn h1⟩
/-- what an operation by data asks of its reading -/
def Fin (K : PySem.W.Frag) (m : Nat → Addr) (st : S) (H : Hp) (d : D) (st' : S) (Q : VK) : Prop :=
  ∀ v m' H', RS K m' st' H' → Mn K m st.length H m' st'.length H' → RV K m' st'.length H' d v → Q v H'
theorem meet_fin {m : Nat → Addr} {st : S} {H : Hp} {o : Option (D × S)} {Q : VK} {E : XK} (h : Meet K mg m st.length H (ofO o) (fun d st' m' H' => ∀ v, RV K m' st'.length H' d v → Q v H') E) :
    ∃ d st', o = some (d, st') ∧ Fin K m st H d st' Q := by
  cases o with
  | none => exact h.elim
  | some p =>
    obtain ⟨d, st'⟩ := p
    exact ⟨d, st', rfl, fun v m' H' r mn rv => h m' H' r mn v rv⟩
theorem Fin.here {m : Nat → Addr} {st : S} {H : Hp} {d : D} {v : V} {Q : VK} (h : Fin K m st H d st Q) (r : RS K m st H) (rv : RV K m st.length H d v) : Q v H := h v m H r Mn.refl rv
theorem Fin.tup {m : Nat → Addr} {st : S} {H : Hp} {ds : List D} {vs : List V} {Q : VK} (h : Fin K m st H (.tup ds) st Q) (r : RS K m st H) (rv : RVs K m st.length H ds vs) {p : Addr} (hp : H p = none) : Q (.ref p) (upd H p (.tup vs)) := by
  obtain ⟨r2, mn⟩ := r.laid (o := .tup vs) hp
  exact h _ _ _ r2 mn ⟨p, vs, rfl, SqT.of upd_same, mn.all rv⟩
theorem Fin.lst {m : Nat → Addr} {st : S} {H : Hp} {ds : List D} {vs : List V} {Q : VK} (h : Fin K m st H (.loc st.length) (st ++ [.lst ds]) Q) (r : RS K m st H) (rv : RVs K m st.length H ds vs) {p : Addr} (hp : H p = none) : Q (.ref p) (upd H p (.lst vs)) := by
  obtain ⟨m', e, r2, mn⟩ := r.push hp rv
  exact h _ _ _ r2 mn ⟨by simp, by rw [e]⟩
theorem Fin.wr {m : Nat → Addr} {st : S} {H : Hp} {k : Nat} {d : D} {v : V} {ds0 ds : List D} {vs : List V} {Q : VK} (h : Fin K m st H d (st.set k (.lst ds)) Q) (r : RS K m st H) (e0 : st[k]? = some (.lst ds0)) (rv : RVs K m st.length H ds vs) (rd : RV K m st.length H d v) : Q v (upd H (m k) (.lst vs)) := by
  obtain ⟨r2, mn⟩ := r.write e0 rv
  exact h _ _ _ r2 mn (mn _ _ rd)
end
/-- readings of operations by data -/
def rD (K : PySem.W.Frag) (g : D → D → S → Option (D × S)) : R2 := fun x y H Q => ∃ m st dx dy d st', RS K m st H ∧ RV K m st.length H dx x ∧ RV K m st.length H dy y ∧ g dx dy st = some (d, st') ∧ Fin K m st H d st' Q
def rD1 (K : PySem.W.Frag) (g : D → S → Option (D × S)) : V → Hp → VK → Prop := fun x H Q => ∃ m st dx d st', RS K m st H ∧ RV K m st.length H dx x ∧ g dx st = some (d, st') ∧ Fin K m st H d st' Q
def rDL (K : PySem.W.Frag) (g : List D → S → Option (D × S)) : List V → Hp → VK → Prop := fun xs H Q => ∃ m st ds d st', RS K m st H ∧ RVs K m st.length H ds xs ∧ g ds st = some (d, st') ∧ Fin K m st H d st' Q
def rDM (K : PySem.W.Frag) (g : D → List D → S → Option (D × S)) : V → List V → Hp → VK → Prop := fun x xs H Q => ∃ m st dx ds d st', RS K m st H ∧ RV K m st.length H dx x ∧ RVs K m st.length H ds xs ∧ g dx ds st = some (d, st') ∧ Fin K m st H d st' Q

/-! ### the rules of expressions -/
section
variable {X : Cx} {W : Wc} {a b c e : Expr} {es rest : List Expr} {fa fb fc : FE} {fs : FA} {pos p : Pos}
theorem je_var (i : Nat) {x : Str} (hN : X.N[i]? = some x := by rfl) (hv : Vis X.env.scope x := by first | exact Or.inl rfl | exact Or.inr (Or.inl rfl) | exact Or.inr (Or.inr rfl)) (hd : (x == ("__debug__" : Str)) = false := by decide)
    (hcd : (x == ("__classdict__" : Str)) = false := by decide) : JE X W (.Name x pos) (fVar i) := by
  refine pe_imp (pe_var hN hv hd hcd) fun σ H Q h => ?_
  obtain ⟨m, st, ρ, rs, re, h⟩ := h
  unfold fVar at h
  cases e : ρ[i]? with
  | none => rw [e] at h; exact h.elim
  | some o =>
    rw [e] at h
    cases o with
    | none => exact h.elim
    | some d =>
      obtain ⟨v, h1, h2⟩ := re.get i d e
      exact ⟨v, h1, h m H rs Mn.refl v h2⟩
theorem je_c {d : D} {v : V} (h : PE X e (tC v)) (hd : ∀ (m : Nat → Addr) n H, RV X.K m n H d v) : JE X W e (fC d) :=
  pe_imp h fun σ H Q ⟨m, st, ρ, rs, re, h⟩ => h m H rs Mn.refl v (hd _ _ _)
theorem je_int {i : Int} {j : Nat} : JE X W (.Constant (.int i) j pos) (fC (.int i)) := je_c pe_int fun _ _ _ => rfl
theorem je_bl {b : Bool} {j : Nat} : JE X W (.Constant (.bool b) j pos) (fC (.bl b)) := je_c pe_bl fun _ _ _ => rfl
theorem je_non {j : Nat} : JE X W (.Constant .none j pos) (fC .non) := je_c pe_non fun _ _ _ => rfl
theorem je_str {x : Str} {j : Nat} : JE X W (.Constant (.str x) j pos) (fC (.str x)) := je_c pe_str fun _ _ _ => rfl
/-- a module's constant: an int, a text, a truth -/
theorem je_glob {x : Str} {d : D} {v : V} {u : Value} (hg : Gl X x) (hm : X.mg x = some u) (r : RelV v u) (hd : ∀ (m : Nat → Addr) n H, RV X.K m n H d v) (hdb : (x == ("__debug__" : Str)) = false := by decide) : JE X W (.Name x pos) (fC d) :=
  je_c (pe_glob hg hm r hdb) hd

theorem bin_imp {r : R2} {g : D → D → S → Option (D × S)} {σ : L2.St} {H : Hp} {Q : VK} (hr : ∀ x y H Q, rD X.K g x y H Q → r x y H Q) (h : rE X.K X.mg W (fBin g fa fb) σ H Q) :
    tOp r (rE X.K X.mg W fa) (rE X.K X.mg W fb) σ H Q := by
  obtain ⟨m, st, ρ, rs, re, h⟩ := h
  refine re_bind (k := fun x st1 ρ => (fb ρ st1).bind fun y st2 => ofO (g x y st2)) rs re h fun x st1 m1 H1 v1 r1 re1 mn1 rv1 h1 => ?_
  refine re_bind (k := fun y st2 ρ => ofO (g x y st2)) r1 re1 h1 fun y st2 m2 H2 v2 r2 re2 mn2 rv2 h2 => ?_
  obtain ⟨d, st', e, fin⟩ := meet_fin h2
  exact hr _ _ _ _ ⟨m2, st2, x, y, d, st', r2, mn2 _ _ rv1, rv2, e, fin⟩
theorem je_op {op : Operator} {g : D → D → S → Option (D × S)} (ho : OpR X (binaryOp op) (rD X.K g)) (ha : JE X W a fa) (hb : JE X W b fb) : JE X W (.BinOp a op b pos) (fBin g fa fb) :=
  pe_imp (pe_op ho ha hb) fun σ H Q h => bin_imp (fun _ _ _ _ q => q) h
theorem je_cmp {op : CmpOp} {g : D → D → S → Option (D × S)} (ho : OpR X (compareOp op) (rD X.K g)) (ha : JE X W a fa) (hb : JE X W b fb) (hm : behindInMarks op b = false) : JE X W (.Compare a [op] [b] pos) (fBin g fa fb) :=
  pe_imp (pe_cmpR ho ha hb hm) fun σ H Q h => bin_imp (fun _ _ _ _ q => q) h
theorem je_un {op : UnaryOp} {g : D → S → Option (D × S)} (ho : UnR X (unaryOp op) (rD1 X.K g)) (ha : JE X W a fa) : JE X W (.UnaryOp op a pos) (fUn g fa) := by
  refine pe_imp (pe_un ho ha) fun σ H Q h => ?_
  obtain ⟨m, st, ρ, rs, re, h⟩ := h
  refine re_bind (k := fun x st1 ρ => ofO (g x st1)) rs re h fun x st1 m1 H1 v1 r1 re1 mn1 rv1 h1 => ?_
  obtain ⟨d, st', e, fin⟩ := meet_fin h1
  exact ⟨m1, st1, x, d, st', r1, rv1, e, fin⟩
theorem je_ix {g : D → D → S → Option (D × S)} (ho : IxR X (rD X.K g)) (ha : JE X W a fa) (hb : JE X W b fb) (hs : PlainIx b := by exact fun _ _ => rfl) : JE X W (.Subscript a b pos) (fBin g fa fb) :=
  pe_imp (pe_ix ho ha hb hs) fun σ H Q h => bin_imp (fun _ _ _ _ q => q) h
/-- a chain of two comparisons, both answers truths -/
def fChain (g g' : D → D → S → Option (D × S)) (a b c : FE) : FE := fun ρ st => (a ρ st).bind fun x st1 => (b ρ st1).bind fun y st2 => (ofO (g x y st2)).bind fun z st3 => match z with
  | .bl true => (c ρ st3).bind fun w st4 => ofO (g' y w st4)
  | .bl false => .ok (.bl false) st3
  | _ => .bad

theorem ja_nil : JA X W [] fNil := pa_imp pa_nil fun σ H Q ⟨m, st, ρ, rs, re, h⟩ => h m H rs Mn.refl [] rfl
theorem ja_cons (ha : JE X W e fa) (hr : JA X W es fs) (hs : starEach (e :: es) X.env = (false, eval e X.env) :: starEach es X.env := by rfl) : JA X W (e :: es) (fCons fa fs) := by
  refine pa_imp (pa_cons ha hr hs) fun σ H Q h => ?_
  obtain ⟨m, st, ρ, rs, re, h⟩ := h
  refine re_bind (k := fun x st1 ρ => (fs ρ st1).bind fun xs st2 => .ok (x :: xs) st2) rs re h fun x st1 m1 H1 v1 r1 re1 mn1 rv1 h1 => ?_
  refine ra_bind (k := fun xs st2 ρ => .ok (x :: xs) st2) r1 re1 h1 fun xs st2 m2 H2 v2 r2 re2 mn2 rv2 h2 => ?_
  exact h2 m2 H2 r2 Mn.refl _ ⟨_, _, rfl, mn2 _ _ rv1, rv2⟩
theorem je_tup {k n : Nat} (ha : JA X W es fs) (hl : FLen fs n) (hn : n ≤ 1000 := by decide) : JE X W (.Tuple es k pos) (fTup fs) := by
  refine pe_imp (pe_tup ha) fun σ H Q h => ?_
  obtain ⟨m, st, ρ, rs, re, h⟩ := h
  have hlen : ∀ ds st', fs ρ st = .ok ds st' → ds.length = n := fun ds st' e => hl _ _ _ _ e
  refine ⟨m, st, ρ, rs, re, ?_⟩
  have h' := Meet.bind (o := fs ρ st) (k := fun ds st1 => Out.ok (D.tup ds) st1) h
  cases e : fs ρ st with
  | bad => rw [e] at h'; exact h'
  | exc x st' => rw [e] at h'; exact h'
  | ok ds st' =>
    rw [e] at h'
    intro m1 H1 r1 mn1 vs rv
    have z : vs.length = n := by rw [← RVs.len rv]; exact hlen ds st' e
    refine ⟨by rw [z]; exact Nat.le_of_lt (small1000 hn), fun q hq => ?_⟩
    have h2 := h' m1 H1 r1 mn1
    obtain ⟨r2, mn⟩ := r1.laid (o := .tup vs) hq
    exact h2 _ _ r2 mn _ ⟨q, vs, rfl, SqT.of upd_same, mn.all rv⟩
theorem je_lst {n : Nat} (ha : JA X W es fs) (hl : FLen fs n) (hn : n ≤ 1000 := by decide) : JE X W (.List es pos) (fLst fs) := by
  refine pe_imp (pe_lst ha) fun σ H Q h => ?_
  obtain ⟨m, st, ρ, rs, re, h⟩ := h
  have hlen : ∀ ds st', fs ρ st = .ok ds st' → ds.length = n := fun ds st' e => hl _ _ _ _ e
  refine ⟨m, st, ρ, rs, re, ?_⟩
  have h' := Meet.bind (o := fs ρ st) (k := fun ds st1 => Out.ok (D.loc st1.length) (st1 ++ [.lst ds])) h
  cases e : fs ρ st with
  | bad => rw [e] at h'; exact h'
  | exc x st' => rw [e] at h'; exact h'
  | ok ds st' =>
    rw [e] at h'
    intro m1 H1 r1 mn1 vs rv
    have z : vs.length = n := by rw [← RVs.len rv]; exact hlen ds st' e
    refine ⟨by rw [z]; exact Nat.le_of_lt (small1000 hn), fun q hq => ?_⟩
    have h2 := h' m1 H1 r1 mn1
    obtain ⟨m', em, r2, mn⟩ := r1.push hq rv
    exact h2 _ _ r2 mn _ ⟨by simp, by rw [em]⟩
theorem args_imp {g : List D → S → Option (D × S)} {σ : L2.St} {H : Hp} {Q : VK} (h : rE X.K X.mg W (fArgs g fs) σ H Q) : tCB (rDL X.K g) (rA X.K X.mg W fs) σ H Q := by
  obtain ⟨m, st, ρ, rs, re, h⟩ := h
  refine ra_bind (k := fun xs st1 ρ => ofO (g xs st1)) rs re h fun xs st1 m1 H1 v1 r1 re1 mn1 rv1 h1 => ?_
  obtain ⟨d, st', e, fin⟩ := meet_fin h1
  exact ⟨m1, st1, xs, d, st', r1, rv1, e, fin⟩
/-- f(..), f a built-in function by its name -/
theorem je_callB {x : Str} {id : String} {g : List D → S → Option (D × S)} (hc : CallR X (.builtin id) (rDL X.K g)) (hg : Gl X x) (hm : X.mg x = none) (hv : bootBuiltins x = some (.builtin id)) (ha : JA X W (e :: es) fs) (hn : x ≠ "__name__" := by decide) (hdb : (x == ("__debug__" : Str)) = false := by decide)
    (he : starEach (e :: es) X.env = (false, eval e X.env) :: starEach es X.env := by rfl) (hpl : (backTo pos (starEach es X.env)).any (·.1) = false := by rfl) : JE X W (.Call (.Name x p) (e :: es) [] pos) (fArgs g fs) :=
  pe_imp (pe_callB hc hg hm hv ha hn hdb he hpl) fun σ H Q h => args_imp h
theorem je_callTy {x : Str} {T : String} {g : List D → S → Option (D × S)} (hc : CallR X (.type T) (rDL X.K g)) (hg : Gl X x) (hm : X.mg x = none) (hv : bootBuiltins x = some (.type T)) (ha : JA X W (e :: es) fs) (hn : x ≠ "__name__" := by decide) (hdb : (x == ("__debug__" : Str)) = false := by decide)
    (he : starEach (e :: es) X.env = (false, eval e X.env) :: starEach es X.env := by rfl) (hpl : (backTo pos (starEach es X.env)).any (·.1) = false := by rfl) : JE X W (.Call (.Name x p) (e :: es) [] pos) (fArgs g fs) :=
  pe_imp (pe_callTy hc hg hm hv ha hn hdb he hpl) fun σ H Q h => args_imp h
/-- .. a module's name for a built-in function -/
theorem je_callBfun {x : Str} {id : String} {g : List D → S → Option (D × S)} (hc : CallR X (.builtin id) (rDL X.K g)) (hg : Gl X x) (hm : X.mg x = some (.builtin id)) (ha : JA X W (e :: es) fs) (hdb : (x == ("__debug__" : Str)) = false := by decide)
    (he : starEach (e :: es) X.env = (false, eval e X.env) :: starEach es X.env := by rfl) (hpl : (backTo pos (starEach es X.env)).any (·.1) = false := by rfl) : JE X W (.Call (.Name x p) (e :: es) [] pos) (fArgs g fs) :=
  pe_imp (pe_callBfun hc hg hm ha hdb he hpl) fun σ H Q h => args_imp h

/-! ### tests -/
theorem jt_val (h : JE X W a fa) (he : ∀ whole, isTrue a X.env whole = (do let v ← whole; standAt a.pos; holding [v] (truthy v)) := by intro _; rfl) : JT X W a (fIsB fa) := by
  refine pt_imp (pt_val h he) fun σ H Q h => ?_
  obtain ⟨m, st, ρ, rs, re, h⟩ := h
  refine re_bind (k := fun x st1 ρ => match x with | .bl b => .ok b st1 | _ => .bad) rs re h fun x st1 m1 H1 v1 r1 re1 mn1 rv1 h1 => ?_
  cases x with
  | bl b => exact ⟨b, rv1, h1 m1 H1 r1 Mn.refl⟩
  | _ => exact h1.elim
theorem jt_cmp {op : CmpOp} {g : D → D → S → Option (D × S)} (ho : OpR X (compareOp op) (rD X.K g)) (ha : JE X W a fa) (hb : JE X W b fb) (hm : behindInMarks op b = false) : JT X W (.Compare a [op] [b] pos) (fIsB (fBin g fa fb)) := by
  refine pt_imp (pt_cmpR ho ha hb hm) fun σ H Q h => ?_
  refine bin_imp (fun _ _ _ _ q => q) ?_
  obtain ⟨m, st, ρ, rs, re, h⟩ := h
  refine re_bind (k := fun x st1 ρ => match x with | .bl b => .ok b st1 | _ => .bad) rs re h fun x st1 m1 H1 v1 r1 re1 mn1 rv1 h1 => ?_
  cases x with
  | bl b => exact ⟨b, rv1, h1 m1 H1 r1 Mn.refl⟩
  | _ => exact h1.elim
theorem tru_of {m : Nat → Addr} {st : S} {H : Hp} {d : D} {v : V} {b : Bool} (r : RS X.K m st H) (rv : RV X.K m st.length H d v) (h : truD st d = some b) : TruV X.K v H b := by
  cases d with
  | non => cases rv; exact (Option.some.inj h).symm
  | bl c => cases rv; exact (Option.some.inj h).symm
  | int i => cases rv; exact (Option.some.inj h).symm
  | str x =>
    cases rv
    replace h : (if x.length ≤ sizeLine then some (x.length != 0) else none) = some b := h
    by_cases hl : x.length ≤ sizeLine
    · rw [if_pos hl] at h
      have e : (((x.length : Nat) : Int) != 0) = (x.length != 0) := by
        cases q : x.length with
        | zero => rfl
        | succ k => rw [bne_iff_ne.mpr (by omega : ((k + 1 : Nat) : Int) ≠ 0), bne_iff_ne.mpr (by omega : k + 1 ≠ 0)]
      exact ⟨hl, by rw [e]; exact (Option.some.inj h).symm⟩
    · rw [if_neg hl] at h; cases h
  | tup ds =>
    obtain ⟨a, vs, e, h1, h2⟩ := rv
    subst e
    refine .inr (.inl ⟨vs, h1, ?_⟩)
    have z := (Option.some.inj h).symm
    rw [z]
    have l := RVs.len h2
    cases ds with
    | nil => cases vs with
      | nil => rfl
      | cons _ _ => simp at l
    | cons _ _ => cases vs with
      | nil => simp at l
      | cons _ _ => rfl
  | loc n =>
    obtain ⟨h1, e⟩ := rv
    subst e
    have same : ∀ {ds : List D} {vs : List V}, RVs X.K m st.length H ds vs → (!vs.isEmpty) = (!ds.isEmpty) := fun {ds vs} r => by
      have l := RVs.len r
      cases ds with
      | nil => cases vs with
        | nil => rfl
        | cons _ _ => simp at l
      | cons _ _ => cases vs with
        | nil => simp at l
        | cons _ _ => rfl
    obtain ⟨ds, e1, e2⟩ := Option.map_eq_some_iff.mp (show (lstAt st n).map (fun ds => !ds.isEmpty) = some b from h)
    obtain ⟨vs, g1, g2, _⟩ := lstAt_ok r e1
    exact .inl ⟨vs, g1, by rw [same g2]; exact e2.symm⟩
theorem jt_tru (h : JE X W a fa) (he : ∀ whole, isTrue a X.env whole = (do let v ← whole; standAt a.pos; holding [v] (truthy v)) := by intro _; rfl) : JT X W a (fTru fa) := by
  refine pt_imp (pt_truth h he) fun σ H Q h => ?_
  obtain ⟨m, st, ρ, rs, re, h⟩ := h
  refine re_bind (k := fun x st1 ρ => match truD st1 x with | some b => .ok b st1 | none => .bad) rs re h fun x st1 m1 H1 v1 r1 re1 mn1 rv1 h1 => ?_
  cases q : truD st1 x with
  | none => simp only [q] at h1; exact h1.elim
  | some b =>
    simp only [q] at h1
    exact ⟨b, tru_of r1 rv1 q, h1 m1 H1 r1 Mn.refl⟩
variable {ga gb : FT}
theorem jw_and1 (ha : JT X W a ga) : JW X W (.BoolOp .And [a] pos) ga := pw_and1 ha
theorem jw_or1 (ha : JT X W a ga) : JW X W (.BoolOp .Or [a] pos) ga := pw_or1 ha
theorem jw_and (ha : JT X W a ga) (hb : JW X W (.BoolOp .And (b :: rest) pos) gb) : JW X W (.BoolOp .And (a :: b :: rest) pos) (fAnd ga gb) := by
  refine pw_imp (pw_and ha hb) fun σ H Q h => ?_
  obtain ⟨m, st, ρ, rs, re, h⟩ := h
  refine rt_bind (k := fun x st1 ρ => if x = true then gb ρ st1 else .ok false st1) rs re h fun x st1 m1 H1 r1 re1 mn1 h1 => ?_
  cases x with
  | true => rw [if_pos rfl] at h1 ⊢; exact ⟨m1, st1, ρ, r1, re1, h1⟩
  | false => rw [if_neg Bool.false_ne_true] at h1 ⊢; exact h1 m1 H1 r1 Mn.refl
theorem jw_or (ha : JT X W a ga) (hb : JW X W (.BoolOp .Or (b :: rest) pos) gb) : JW X W (.BoolOp .Or (a :: b :: rest) pos) (fOr ga gb) := by
  refine pw_imp (pw_or ha hb) fun σ H Q h => ?_
  obtain ⟨m, st, ρ, rs, re, h⟩ := h
  refine rt_bind (k := fun x st1 ρ => if x = true then .ok true st1 else gb ρ st1) rs re h fun x st1 m1 H1 r1 re1 mn1 h1 => ?_
  cases x with
  | true => rw [if_pos rfl] at h1 ⊢; exact h1 m1 H1 r1 Mn.refl
  | false => rw [if_neg Bool.false_ne_true] at h1 ⊢; exact ⟨m1, st1, ρ, r1, re1, h1⟩
theorem jt_not (ha : JT X W a ga) : JT X W (.UnaryOp .Not a pos) (fNot ga) := by
  refine pt_imp (pt_not ha) fun σ H Q h => ?_
  obtain ⟨m, st, ρ, rs, re, h⟩ := h
  refine rt_bind (k := fun x st1 ρ => .ok (!x) st1) rs re h fun x st1 m1 H1 r1 re1 mn1 h1 => h1 m1 H1 r1 Mn.refl
theorem je_one {op : BoolOp} (h : JE X W a fa) : JE X W (.BoolOp op [a] pos) fa := pe_one h
theorem isb_imp {σ : L2.St} {H : Hp} {α : Type} {k : Bool → S → En → Out α} {m : Nat → Addr} {st : S} {ρ : En} {Qa : α → S → (Nat → Addr) → Hp → Prop} {R : V → Hp → Prop}
    (rs : RS X.K m st H) (re : RE W.gh X.K m st.length H ρ σ) (h : Meet X.K X.mg m st.length H ((fIsB fa ρ st).bind fun d st1 => k d st1 ρ) Qa (fun cls od H' => W.W cls od σ H'))
    (hr : ∀ d st1 m1 H1, RS X.K m1 st1 H1 → RE W.gh X.K m1 st1.length H1 ρ σ → Mn X.K m st.length H m1 st1.length H1 → Meet X.K X.mg m1 st1.length H1 (k d st1 ρ) Qa (fun cls od H' => W.W cls od σ H') → R (.bl d) H1) : rE X.K X.mg W fa σ H R := by
  have e : ((fIsB fa ρ st).bind fun d st1 => k d st1 ρ) = ((fa ρ st).bind fun x st1 => (match x with | .bl b => Out.ok b st1 | _ => .bad).bind fun d st2 => k d st2 ρ) := by
    unfold fIsB
    cases fa ρ st <;> rfl
  rw [e] at h
  refine re_bind (k := fun x st1 ρ => (match x with | .bl b => Out.ok b st1 | _ => .bad).bind fun d st2 => k d st2 ρ) rs re h fun x st1 m1 H1 v1 r1 re1 mn1 rv1 h1 => ?_
  cases x with
  | bl b => cases rv1; exact hr b st1 m1 H1 r1 re1 mn1 h1
  | _ => exact h1.elim
theorem je_and (ha : JE X W a fa) (hb : JE X W (.BoolOp .And (b :: rest) pos) fb) : JE X W (.BoolOp .And (a :: b :: rest) pos) (fAndV fa fb) := by
  refine pe_imp (pe_and ha hb) fun σ H Q h => ?_
  obtain ⟨m, st, ρ, rs, re, h⟩ := h
  refine isb_imp (α := D) (k := fun x st1 ρ => if x = true then fb ρ st1 else .ok (.bl false) st1) rs re h fun x st1 m1 H1 r1 re1 mn1 h1 => ⟨x, rfl, ?_⟩
  cases x with
  | true => rw [if_pos rfl] at h1 ⊢; exact ⟨m1, st1, ρ, r1, re1, h1⟩
  | false => rw [if_neg Bool.false_ne_true] at h1 ⊢; exact h1 m1 H1 r1 Mn.refl _ rfl
theorem je_or (ha : JE X W a fa) (hb : JE X W (.BoolOp .Or (b :: rest) pos) fb) : JE X W (.BoolOp .Or (a :: b :: rest) pos) (fOrV fa fb) := by
  refine pe_imp (pe_or ha hb) fun σ H Q h => ?_
  obtain ⟨m, st, ρ, rs, re, h⟩ := h
  refine isb_imp (α := D) (k := fun x st1 ρ => if x = true then .ok (.bl true) st1 else fb ρ st1) rs re h fun x st1 m1 H1 r1 re1 mn1 h1 => ⟨x, rfl, ?_⟩
  cases x with
  | true => rw [if_pos rfl] at h1 ⊢; exact h1 m1 H1 r1 Mn.refl _ rfl
  | false => rw [if_neg Bool.false_ne_true] at h1 ⊢; exact ⟨m1, st1, ρ, r1, re1, h1⟩
theorem je_not (ha : JE X W a fa) : JE X W (.UnaryOp .Not a pos) (fNotV fa) := by
  refine pe_imp (pe_not ha) fun σ H Q h => ?_
  obtain ⟨m, st, ρ, rs, re, h⟩ := h
  exact isb_imp (α := D) (k := fun x st1 ρ => .ok (.bl (!x)) st1) rs re h fun x st1 m1 H1 r1 re1 mn1 h1 => ⟨x, rfl, h1 m1 H1 r1 Mn.refl _ rfl⟩
theorem je_if (hc : JT X W c ga) (ha : JE X W a fa) (hb : JE X W b fb) : JE X W (.IfExp c a b pos) (fIf ga fa fb) := by
  refine pe_imp (pe_ifExp hc ha hb) fun σ H Q h => ?_
  obtain ⟨m, st, ρ, rs, re, h⟩ := h
  refine rt_bind (k := fun x st1 ρ => if x = true then fa ρ st1 else fb ρ st1) rs re h fun x st1 m1 H1 r1 re1 mn1 h1 => ?_
  cases x with
  | true => rw [if_pos rfl] at h1 ⊢; exact ⟨m1, st1, ρ, r1, re1, h1⟩
  | false => rw [if_neg Bool.false_ne_true] at h1 ⊢; exact ⟨m1, st1, ρ, r1, re1, h1⟩
end
end MP

set_option Elab.async false
set_option linter.all false
set_option maxRecDepth 100000
set_option maxHeartbeats 4000000
namespace MP
open PySem L2

/-! ### operations by data -/
def gAdd (x y : D) (st : S) : Option (D × S) := match x, y with
  | .int i, .int j => some (.int (i + j), st)
  | .str a, .str b => if a.length + b.length ≤ sizeLine then some (.str (a ++ b), st) else none
  | .tup xs, .tup ys => if xs.length + ys.length ≤ sizeLine then some (.tup (xs ++ ys), st) else none
  | .loc a, .loc b => match st[a]?, st[b]? with
    | some (.lst xs), some (.lst ys) => if xs.length + ys.length ≤ sizeLine then some (.loc st.length, st ++ [.lst (xs ++ ys)]) else none
    | _, _ => none
  | _, _ => none
def gSub (x y : D) (st : S) : Option (D × S) := match x, y with
  | .int i, .int j => some (.int (i - j), st)
  | _, _ => none
def MulOk (i j : Int) : Prop := CMul i j ∨ CMulW i j
noncomputable instance (i j : Int) : Decidable (MulOk i j) := Classical.propDecidable _
noncomputable def gMul (x y : D) (st : S) : Option (D × S) := match x, y with
  | .int i, .int j => if MulOk i j then some (.int (i * j), st) else none
  | .loc a, .int k => match st[a]? with
    | some (.lst xs) => if -(2 ^ 63) ≤ k ∧ k < 2 ^ 63 ∧ xs.length * k.toNat ≤ sizeLine then some (.loc st.length, st ++ [.lst (List.replicate k.toNat xs).flatten]) else none
    | _ => none
  | _, _ => none
def DivOk (j : Int) : Prop := 0 < j ∧ j.natAbs.log2 < 9000
instance (j : Int) : Decidable (DivOk j) := by unfold DivOk; infer_instance
def gDiv (x y : D) (st : S) : Option (D × S) := match x, y with
  | .int i, .int j => if DivOk j then some (.int (i / j), st) else none
  | _, _ => none
def gMod (x y : D) (st : S) : Option (D × S) := match x, y with
  | .int i, .int j => if 0 < j then some (.int (i % j), st) else none
  | _, _ => none
def gPow (x y : D) (st : S) : Option (D × S) := match x, y with
  | .int i, .int j => if 0 ≤ j ∧ j ≤ 1000000 ∧ i.natAbs < 2 ^ 64 then some (.int (i ^ j.toNat), st) else none
  | _, _ => none
def gNeg (x : D) (st : S) : Option (D × S) := match x with
  | .int i => some (.int (-i), st)
  | _ => none
section
variable {X : Cx}
theorem opd_add : OpR X (binaryOp .Add) (rD X.K gAdd) := by
  intro pins s σ H x y v u Q I rx ry h
  obtain ⟨m, st, dx, dy, d, st', rs, r1, r2, e, fin⟩ := h
  unfold gAdd at e
  split at e
  · cases r1; cases r2; cases e
    exact op_add pins s σ H _ _ v u Q I rx ry ⟨_, _, rfl, rfl, fin.here rs rfl⟩
  · cases r1; cases r2
    split at e
    · rename_i hl
      cases e
      exact op_add_str pins s σ H _ _ v u Q I rx ry ⟨_, _, rfl, rfl, hl, fin.here rs rfl⟩
    · cases e
  · obtain ⟨a, xs, e1, q1, v1⟩ := r1
    obtain ⟨b, ys, e2, q2, v2⟩ := r2
    subst e1 e2
    split at e
    · rename_i hl
      cases e
      have l1 := RVs.len v1
      have l2 := RVs.len v2
      refine op_catA pins s σ H _ _ v u Q I rx ry ⟨a, b, xs, ys, rfl, rfl, q1, q2, by omega, fun z => ?_, fun _ z => ?_, fun _ _ p hp => fin.tup rs (RVs.app v1 v2) hp⟩
      · have z2 : xs = [] := z
        subst z2
        have := RVs.app v1 v2
        exact fin.here rs ⟨b, _, rfl, q2, by simpa using this⟩
      · have z2 : ys = [] := z
        subst z2
        have := RVs.app v1 v2
        exact fin.here rs ⟨a, _, rfl, q1, by simpa using this⟩
    · cases e
  · obtain ⟨h1, e1⟩ := r1
    obtain ⟨h2, e2⟩ := r2
    subst e1 e2
    split at e
    · rename_i q1 q2
      split at e
      · rename_i hl
        cases e
        obtain ⟨xs, g1, v1⟩ := rs.at_ _ _ q1
        obtain ⟨ys, g2, v2⟩ := rs.at_ _ _ q2
        have l1 := RVs.len v1
        have l2 := RVs.len v2
        exact op_cat pins s σ H _ _ v u Q I rx ry ⟨_, _, xs, ys, rfl, rfl, g1, g2, by omega, fun p hp => fin.lst rs (RVs.app v1 v2) hp⟩
      · cases e
    · cases e
  · cases e
theorem opd_sub : OpR X (binaryOp .Sub) (rD X.K gSub) := by
  intro pins s σ H x y v u Q I rx ry h
  obtain ⟨m, st, dx, dy, d, st', rs, r1, r2, e, fin⟩ := h
  unfold gSub at e
  split at e
  · cases r1; cases r2; cases e
    exact op_sub pins s σ H _ _ v u Q I rx ry ⟨_, _, rfl, rfl, fin.here rs rfl⟩
  · cases e
theorem opd_mul : OpR X (binaryOp .Mult) (rD X.K gMul) := by
  intro pins s σ H x y v u Q I rx ry h
  obtain ⟨m, st, dx, dy, d, st', rs, r1, r2, e, fin⟩ := h
  unfold gMul at e
  split at e
  · cases r1; cases r2
    split at e
    · rename_i hm
      cases e
      rcases hm with hm | hm
      · exact op_mul pins s σ H _ _ v u Q I rx ry ⟨_, _, rfl, rfl, hm, fin.here rs rfl⟩
      · exact op_mulW pins s σ H _ _ v u Q I rx ry ⟨_, _, rfl, rfl, hm, fin.here rs rfl⟩
    · cases e
  · obtain ⟨h1, e1⟩ := r1
    cases r2
    subst e1
    split at e
    · rename_i q1
      split at e
      · rename_i hl
        cases e
        obtain ⟨xs, g1, v1⟩ := rs.at_ _ _ q1
        have l1 := RVs.len v1
        refine op_rep pins s σ H _ _ v u Q I rx ry ⟨_, _, xs, rfl, rfl, g1, hl.1, hl.2.1, by rw [← l1]; exact hl.2.2, fun p hp => fin.lst rs ?_ hp⟩
        have rep : ∀ n : Nat, RVs X.K m st.length H (List.replicate n _).flatten (List.replicate n xs).flatten := fun n => by
          induction n with
          | zero => exact rfl
          | succ n ih =>
            rw [List.replicate_succ, List.replicate_succ, List.flatten_cons, List.flatten_cons]
            exact RVs.app v1 ih
        exact rep _
      · cases e
    · cases e
  · cases e
theorem opd_div : OpR X (binaryOp .FloorDiv) (rD X.K gDiv) := by
  intro pins s σ H x y v u Q I rx ry h
  obtain ⟨m, st, dx, dy, d, st', rs, r1, r2, e, fin⟩ := h
  unfold gDiv at e
  split at e
  · cases r1; cases r2
    split at e
    · rename_i hm
      cases e
      exact op_fdivW pins s σ H _ _ v u Q I rx ry ⟨_, _, rfl, rfl, hm, fin.here rs rfl⟩
    · cases e
  · cases e
theorem opd_mod : OpR X (binaryOp .Mod) (rD X.K gMod) := by
  intro pins s σ H x y v u Q I rx ry h
  obtain ⟨m, st, dx, dy, d, st', rs, r1, r2, e, fin⟩ := h
  unfold gMod at e
  split at e
  · cases r1; cases r2
    split at e
    · rename_i hm
      cases e
      exact op_mod pins s σ H _ _ v u Q I rx ry ⟨_, _, rfl, rfl, hm, fin.here rs rfl⟩
    · cases e
  · cases e
theorem opd_pow : OpR X (binaryOp .Pow) (rD X.K gPow) := by
  intro pins s σ H x y v u Q I rx ry h
  obtain ⟨m, st, dx, dy, d, st', rs, r1, r2, e, fin⟩ := h
  unfold gPow at e
  split at e
  · cases r1; cases r2
    split at e
    · rename_i hm
      cases e
      exact op_pow pins s σ H _ _ v u Q I rx ry ⟨_, _, rfl, rfl, hm, fin.here rs rfl⟩
    · cases e
  · cases e
theorem und_neg : UnR X (unaryOp .USub) (rD1 X.K gNeg) := by
  intro pins s σ H x v Q I rx h
  obtain ⟨m, st, dx, d, st', rs, r1, e, fin⟩ := h
  unfold gNeg at e
  split at e
  · cases r1; cases e
    exact un_neg pins s σ H _ v Q I rx ⟨_, rfl, fin.here rs rfl⟩
  · cases e
end
/-! ### comparisons -/
def gLt (x y : D) (st : S) : Option (D × S) := match x, y with
  | .int i, .int j => some (.bl (decide (i < j)), st)
  | _, _ => none
def gLe (x y : D) (st : S) : Option (D × S) := match x, y with
  | .int i, .int j => some (.bl (decide (i ≤ j)), st)
  | _, _ => none
def gGt (x y : D) (st : S) : Option (D × S) := match x, y with
  | .int i, .int j => some (.bl (decide (j < i)), st)
  | _, _ => none
def gGe (x y : D) (st : S) : Option (D × S) := match x, y with
  | .int i, .int j => some (.bl (decide (j ≤ i)), st)
  | _, _ => none
mutual
/-- a datum without places, as the library's own data -/
def pdV : D → Option PyData
  | .non => some .none
  | .bl b => some (.bool b)
  | .int i => some (.int i)
  | .str x => some (.str x)
  | .tup ds => (pdVs ds).map .tuple
  | .loc _ => none
def pdVs : List D → Option (List PyData)
  | [] => some []
  | d :: ds => match pdV d, pdVs ds with
    | some x, some xs => some (x :: xs)
    | _, _ => none
end
def pdD (st : S) : D → Option PyData
  | .loc n => (lstAt st n).bind fun ds => (pdVs ds).map .list
  | d => pdV d
section
variable {K : PySem.W.Frag} {m : Nat → Addr} {n : Nat} {H : Hp}
mutual
theorem dp_of : ∀ (d : D) (v : V) (x : PyData), RV K m n H d v → pdV d = some x → Dp K H v x
  | .non, v, x, h, e => by cases h; cases e; exact .non
  | .bl b, v, x, h, e => by cases h; cases e; exact .bl b
  | .int i, v, x, h, e => by cases h; cases e; exact .int i
  | .str s, v, x, h, e => by cases h; cases e; exact .str s
  | .loc k, v, x, h, e => by simp [pdV] at e
  | .tup ds, v, x, h, e => by
    obtain ⟨a, vs, rfl, h1, h2⟩ := h
    unfold pdV at e
    cases q : pdVs ds with
    | none => rw [q] at e; cases e
    | some xs =>
      rw [q] at e
      cases e
      exact .tup h1 (dps_of ds vs xs h2 q)
theorem dps_of : ∀ (ds : List D) (vs : List V) (xs : List PyData), RVs K m n H ds vs → pdVs ds = some xs → DpAll K H vs xs
  | [], vs, xs, h, e => by cases h; cases e; exact .nil
  | d :: ds, vs, xs, h, e => by
    obtain ⟨v, r, rfl, h1, h2⟩ := h
    unfold pdVs at e
    cases q1 : pdV d with
    | none => rw [q1] at e; cases e
    | some y =>
      rw [q1] at e
      cases q2 : pdVs ds with
      | none => rw [q2] at e; cases e
      | some ys =>
        rw [q2] at e
        cases e
        exact .cons (dp_of d v y h1 q1) (dps_of ds r ys h2 q2)
end
theorem dpd_of {st : S} (rs : RS K m st H) {d : D} {v : V} {x : PyData} (h : RV K m st.length H d v) (e : pdD st d = some x) : Dp K H v x := by
  cases d with
  | loc k =>
    obtain ⟨_, rfl⟩ := h
    obtain ⟨ds, e1, e2⟩ := Option.bind_eq_some_iff.mp (show (lstAt st k).bind (fun ds => (pdVs ds).map .list) = some x from e)
    obtain ⟨ys, e3, rfl⟩ := Option.map_eq_some_iff.mp e2
    obtain ⟨vs, g1, g2, _⟩ := lstAt_ok rs e1
    exact .lst g1 (dps_of ds vs ys g2 e3)
  | non => exact dp_of _ _ _ h e
  | bl b => exact dp_of _ _ _ h e
  | int i => exact dp_of _ _ _ h e
  | str s => exact dp_of _ _ _ h e
  | tup ds => exact dp_of _ _ _ h e
end
/-- x == y -/
def eqB (st : S) (x y : D) : Option Bool := match x, y with
  | .int i, .int j => some (decide (i = j))
  | .str a, .str b => some (decide (a = b))
  | .bl a, .bl b => some (decide (a = b))
  | .non, .non => some true
  | .non, .int _ => some false
  | .non, .str _ => some false
  | .int _, .non => some false
  | .str _, .non => some false
  | .int _, .str _ => some false
  | .str _, .int _ => some false
  | x, y => match pdD st x, pdD st y with
    | some a, some b => if SeqAt.shaped a = true ∧ SeqAt.shaped b = true then some (PyData.eqv a b) else none
    | _, _ => none
def gEq (x y : D) (st : S) : Option (D × S) := (eqB st x y).map fun b => (.bl b, st)
def gNe (x y : D) (st : S) : Option (D × S) := (eqB st x y).map fun b => (.bl (!b), st)
section
variable {X : Cx}
theorem eqB_ok {m : Nat → Addr} {st : S} {H : Hp} {dx dy : D} {x y : V} {b : Bool} {Q : VK} (rs : RS X.K m st H) (r1 : RV X.K m st.length H dx x) (r2 : RV X.K m st.length H dy y) (e : eqB st dx dy = some b) (k : Bool → Bool) (q : Q (.bl (k b)) H) :
    (scal x y = true ∧ Q (.bl (k (decide (x = y)))) H) ∨ ∃ a c, Dp X.K H x a ∧ Dp X.K H y c ∧ SeqAt.shaped a = true ∧ SeqAt.shaped c = true ∧ Q (.bl (k (PyData.eqv a c))) H := by
  have z : ∀ {c : Prop} [Decidable c] {c2 : Prop} [Decidable c2], (c ↔ c2) → Q (.bl (k (decide c2))) H → Q (.bl (k (decide c))) H := fun {c} _ {c2} _ i q => by
    rw [show decide c = decide c2 from by simp [i]]; exact q
  unfold eqB at e
  split at e
  · cases r1; cases r2; cases e; exact .inl ⟨rfl, z (by simp) q⟩
  · cases r1; cases r2; cases e; exact .inl ⟨rfl, z (by simp) q⟩
  · cases r1; cases r2; cases e; exact .inl ⟨rfl, z (by simp) q⟩
  · cases r1; cases r2; cases e; exact .inl ⟨rfl, z (c2 := True) (by simp) (by simpa using q)⟩
  · cases r1; cases r2; cases e; exact .inl ⟨rfl, z (c2 := False) (by simp) (by simpa using q)⟩
  · cases r1; cases r2; cases e; exact .inl ⟨rfl, z (c2 := False) (by simp) (by simpa using q)⟩
  · cases r1; cases r2; cases e; exact .inl ⟨rfl, z (c2 := False) (by simp) (by simpa using q)⟩
  · cases r1; cases r2; cases e; exact .inl ⟨rfl, z (c2 := False) (by simp) (by simpa using q)⟩
  · cases r1; cases r2; cases e; exact .inl ⟨rfl, z (c2 := False) (by simp) (by simpa using q)⟩
  · cases r1; cases r2; cases e; exact .inl ⟨rfl, z (c2 := False) (by simp) (by simpa using q)⟩
  · split at e
    · rename_i a c q1 q2
      split at e
      · rename_i hs
        cases e
        exact .inr ⟨a, c, dpd_of rs r1 q1, dpd_of rs r2 q2, hs.1, hs.2, q⟩
      · cases e
    · cases e
theorem opd_eq (hu : X.A.units + 64 < cLine) : OpR X (compareOp .Eq) (rD X.K gEq) := by
  intro pins s σ H x y v u Q I rx ry h
  obtain ⟨m, st, dx, dy, d, st', rs, r1, r2, e, fin⟩ := h
  unfold gEq at e
  obtain ⟨b, e1, e2⟩ := Option.map_eq_some_iff.mp e
  cases e2
  rcases eqB_ok (k := id) rs r1 r2 e1 (fin.here rs rfl) with q | q
  · exact op_eq pins s σ H x y v u Q I rx ry q
  · exact op_eqD hu pins s σ H x y v u Q I rx ry q
theorem opd_ne (hu : X.A.units + 64 < cLine) : OpR X (compareOp .NotEq) (rD X.K gNe) := by
  intro pins s σ H x y v u Q I rx ry h
  obtain ⟨m, st, dx, dy, d, st', rs, r1, r2, e, fin⟩ := h
  unfold gNe at e
  obtain ⟨b, e1, e2⟩ := Option.map_eq_some_iff.mp e
  cases e2
  rcases eqB_ok (k := fun b => !b) rs r1 r2 e1 (fin.here rs rfl) with q | q
  · exact op_ne pins s σ H x y v u Q I rx ry q
  · exact op_neD hu pins s σ H x y v u Q I rx ry q
theorem opd_lt : OpR X (compareOp .Lt) (rD X.K gLt) := by
  intro pins s σ H x y v u Q I rx ry h
  obtain ⟨m, st, dx, dy, d, st', rs, r1, r2, e, fin⟩ := h
  unfold gLt at e
  split at e
  · cases r1; cases r2; cases e
    exact op_lt pins s σ H _ _ v u Q I rx ry ⟨_, _, rfl, rfl, fin.here rs rfl⟩
  · cases e
theorem opd_le : OpR X (compareOp .LtE) (rD X.K gLe) := by
  intro pins s σ H x y v u Q I rx ry h
  obtain ⟨m, st, dx, dy, d, st', rs, r1, r2, e, fin⟩ := h
  unfold gLe at e
  split at e
  · cases r1; cases r2; cases e
    exact op_le pins s σ H _ _ v u Q I rx ry ⟨_, _, rfl, rfl, fin.here rs rfl⟩
  · cases e
theorem opd_gt : OpR X (compareOp .Gt) (rD X.K gGt) := by
  intro pins s σ H x y v u Q I rx ry h
  obtain ⟨m, st, dx, dy, d, st', rs, r1, r2, e, fin⟩ := h
  unfold gGt at e
  split at e
  · cases r1; cases r2; cases e
    exact op_gt pins s σ H _ _ v u Q I rx ry ⟨_, _, rfl, rfl, fin.here rs rfl⟩
  · cases e
theorem opd_ge : OpR X (compareOp .GtE) (rD X.K gGe) := by
  intro pins s σ H x y v u Q I rx ry h
  obtain ⟨m, st, dx, dy, d, st', rs, r1, r2, e, fin⟩ := h
  unfold gGe at e
  split at e
  · cases r1; cases r2; cases e
    exact op_ge pins s σ H _ _ v u Q I rx ry ⟨_, _, rfl, rfl, fin.here rs rfl⟩
  · cases e
end
/-! ### is -/
def gIs (x y : D) (st : S) : Option (D × S) := match x, y with
  | .bl a, .bl b => some (.bl (decide (a = b)), st)
  | x, .non => some (.bl (decide (x = .non)), st)
  | _, _ => none
def gIsNot (x y : D) (st : S) : Option (D × S) := match x, y with
  | .bl a, .bl b => some (.bl (!decide (a = b)), st)
  | x, .non => some (.bl (!decide (x = .non)), st)
  | _, _ => none
section
variable {X : Cx}
theorem non_iff {K : PySem.W.Frag} {m : Nat → Addr} {n : Nat} {H : Hp} {d : D} {v : V} (h : RV K m n H d v) : decide (v = .non) = decide (d = .non) := by
  cases d with
  | non => cases h; rfl
  | bl b => cases h; rfl
  | int i => cases h; rfl
  | str x => cases h; rfl
  | loc k => obtain ⟨_, rfl⟩ := h; rfl
  | tup ds => obtain ⟨a, vs, rfl, _⟩ := h; rfl
theorem opd_is : OpR X (compareOp .Is) (rD X.K gIs) := by
  intro pins s σ H x y v u Q I rx ry h
  obtain ⟨m, st, dx, dy, d, st', rs, r1, r2, e, fin⟩ := h
  unfold gIs at e
  split at e
  · cases r1; cases r2; cases e
    exact op_isBl pins s σ H _ _ v u Q I rx ry ⟨_, _, rfl, rfl, fin.here rs rfl⟩
  · cases r2; cases e
    refine op_isN pins s σ H _ _ v u Q I rx ry ⟨rfl, ?_⟩
    rw [non_iff r1]
    exact fin.here rs rfl
  · cases e
theorem opd_isnot : OpR X (compareOp .IsNot) (rD X.K gIsNot) := by
  intro pins s σ H x y v u Q I rx ry h
  obtain ⟨m, st, dx, dy, d, st', rs, r1, r2, e, fin⟩ := h
  unfold gIsNot at e
  split at e
  · cases r1; cases r2; cases e
    exact op_notBl pins s σ H _ _ v u Q I rx ry ⟨_, _, rfl, rfl, fin.here rs rfl⟩
  · cases r2; cases e
    refine op_notN pins s σ H _ _ v u Q I rx ry ⟨rfl, ?_⟩
    rw [non_iff r1]
    exact fin.here rs rfl
  · cases e
end
/-! ### subscripts, slices -/
def gIx (x y : D) (st : S) : Option (D × S) := match x, y with
  | .tup ds, .int i => (atI ds i).map fun d => (d, st)
  | .loc n, .int i => match lstAt st n with
    | some ds => (atI ds i).map fun d => (d, st)
    | none => none
  | .str z, .int i => if z.length ≤ sizeLine then (atI z.cps.toList i).map fun c => (.str ⟨#[c]⟩, st) else none
  | _, _ => none
theorem atI_rel {K : PySem.W.Frag} {m : Nat → Addr} {n : Nat} {H : Hp} {ds : List D} {vs : List V} {i : Int} {d : D} (h : RVs K m n H ds vs) (e : atI ds i = some d) : ∃ v, atI vs i = some v ∧ RV K m n H d v := by
  unfold atI at e
  obtain ⟨j, e1, e2⟩ := Option.bind_eq_some_iff.mp e
  obtain ⟨v, h1, h2⟩ := RVs.get h e2
  refine ⟨v, ?_, h2⟩
  unfold atI
  rw [← RVs.len h, e1]
  exact h1
section
variable {X : Cx}
theorem ixd : IxR X (rD X.K gIx) := by
  intro value slice pins s σ H x y v u Q I rx ry h hs
  obtain ⟨m, st, dx, dy, d, st', rs, r1, r2, e, fin⟩ := h
  unfold gIx at e
  split at e
  · obtain ⟨a, vs, rfl, q1, q2⟩ := r1
    cases r2
    obtain ⟨d2, e1, e2⟩ := Option.map_eq_some_iff.mp e
    cases e2
    obtain ⟨w, h1, h2⟩ := atI_rel q2 e1
    exact ix_tup value slice pins s σ H _ _ v u Q I rx ry ⟨a, vs, _, w, rfl, rfl, q1, h1, fin.here rs h2⟩ hs
  · obtain ⟨_, rfl⟩ := r1
    cases r2
    split at e
    · rename_i q
      obtain ⟨vs, g1, g2, _⟩ := lstAt_ok rs q
      obtain ⟨d2, e1, e2⟩ := Option.map_eq_some_iff.mp e
      cases e2
      obtain ⟨w, h1, h2⟩ := atI_rel g2 e1
      exact ix_list value slice pins s σ H _ _ v u Q I rx ry ⟨_, vs, _, w, rfl, rfl, g1, h1, fin.here rs h2⟩ hs
    · cases e
  · cases r1; cases r2
    split at e
    · rename_i hl
      obtain ⟨c, e1, e2⟩ := Option.map_eq_some_iff.mp e
      cases e2
      exact ix_str value slice pins s σ H _ _ v u Q I rx ry ⟨_, _, c, rfl, rfl, hl, e1, fin.here rs rfl⟩ hs
    · cases e
  · cases e
end
def cutD (xs : List D) (lo hi : Option Int) : List D := (xs.drop (HT.sIx xs.length 0 lo)).take (HT.sIx xs.length xs.length hi - HT.sIx xs.length 0 lo)
theorem cut_rel {K : PySem.W.Frag} {m : Nat → Addr} {n : Nat} {H : Hp} {ds : List D} {vs : List V} {lo hi : Option Int} (h : RVs K m n H ds vs) : RVs K m n H (cutD ds lo hi) (cutV vs lo hi) := by
  unfold cutD cutV
  rw [← RVs.len h]
  exact RVs.take _ (RVs.drop _ h)
def gSl (x : D) (lo hi : Option Int) (st : S) : Option (D × S) := match x with
  | .tup ds => some (.tup (cutD ds lo hi), st)
  | .loc n => match lstAt st n with
    | some ds => some (.loc st.length, st ++ [.lst (cutD ds lo hi)])
    | none => none
  | .str z => if z.length ≤ sizeLine then some (.str (cutS z lo hi), st) else none
  | _ => none
def rDS (K : PySem.W.Frag) (g : D → Option Int → Option Int → S → Option (D × S)) : V → Option Int → Option Int → Hp → VK → Prop := fun x lo hi H Q => ∃ m st dx d st', RS K m st H ∧ RV K m st.length H dx x ∧ g dx lo hi st = some (d, st') ∧ Fin K m st H d st' Q
theorem cut_whole {α : Type} (xs : List α) (lo hi : Option Int) (h : HT.sIx xs.length 0 lo = 0 ∧ HT.sIx xs.length xs.length hi = xs.length) : (xs.drop (HT.sIx xs.length 0 lo)).take (HT.sIx xs.length xs.length hi - HT.sIx xs.length 0 lo) = xs := by
  rw [h.1, h.2]
  simp
section
variable {X : Cx}
theorem sld : SlR X (rDS X.K gSl) := by
  intro pins s σ H x v vl vu lo hi sl Q I rx hs pl pu h
  obtain ⟨m, st, dx, d, st', rs, r1, e, fin⟩ := h
  unfold gSl at e
  split at e
  · obtain ⟨a, vs, rfl, q1, q2⟩ := r1
    cases e
    refine sl_tupA pins s σ H _ v vl vu lo hi sl Q I rx hs pl pu ⟨a, vs, rfl, q1, fun z => ?_, fun _ p hp => fin.tup rs (cut_rel q2) hp⟩
    refine fin.here rs ⟨a, vs, rfl, q1, ?_⟩
    have w := cut_rel (lo := lo) (hi := hi) q2
    have ez : cutV vs lo hi = vs := cut_whole vs lo hi z
    rw [ez] at w
    exact w
  · obtain ⟨_, rfl⟩ := r1
    split at e
    · rename_i q
      obtain ⟨vs, g1, g2, _⟩ := lstAt_ok rs q
      cases e
      exact sl_list pins s σ H _ v vl vu lo hi sl Q I rx hs pl pu ⟨_, vs, rfl, g1, fun p hp => fin.lst rs (cut_rel g2) hp⟩
    · cases e
  · cases r1
    split at e
    · rename_i hl
      cases e
      exact sl_str pins s σ H _ v vl vu lo hi sl Q I rx hs pl pu ⟨_, rfl, hl, fin.here rs rfl⟩
    · cases e
  · cases e
end
/-- a slice's parts -/
abbrev FO := En → S → Out (Option Int)
def fNo : FO := fun _ st => .ok none st
def fPart (a : FE) : FO := fun ρ st => (a ρ st).bind fun x st1 => match x with
  | .int i => .ok (some i) st1
  | _ => .bad
def fSl (g : D → Option Int → Option Int → S → Option (D × S)) (a : FE) (lo hi : FO) : FE := fun ρ st => (a ρ st).bind fun x st1 => (lo ρ st1).bind fun l st2 => (hi ρ st2).bind fun u st3 => ofO (g x l u st3)
def rO (K : PySem.W.Frag) (mg : Str → Option Value) (W : Wc) (f : FO) : TO := fun σ H Q => ∃ m st ρ, RS K m st H ∧ RE W.gh K m st.length H ρ σ ∧
  Meet K mg m st.length H (f ρ st) (fun b st' m' H' => Q b H') (fun cls od H' => W.W cls od σ H')
abbrev JO (X : Cx) (W : Wc) (e : Option Expr) (f : FO) : Prop := PO X e (rO X.K X.mg W f)
theorem ro_bind {K : PySem.W.Frag} {mg : Str → Option Value} {W : Wc} {α : Type} {f : FO} {k : Option Int → S → En → Out α} {m : Nat → Addr} {st : S} {ρ : En} {σ : L2.St} {H : Hp} {Qa : α → S → (Nat → Addr) → Hp → Prop} {R : Option Int → Hp → Prop}
    (rs : RS K m st H) (re : RE W.gh K m st.length H ρ σ) (h : Meet K mg m st.length H ((f ρ st).bind fun d st1 => k d st1 ρ) Qa (fun cls od H' => W.W cls od σ H'))
    (hr : ∀ d st1 m1 H1, RS K m1 st1 H1 → RE W.gh K m1 st1.length H1 ρ σ → Mn K m st.length H m1 st1.length H1 → Meet K mg m1 st1.length H1 (k d st1 ρ) Qa (fun cls od H' => W.W cls od σ H') → R d H1) :
    rO K mg W f σ H R :=
  ⟨m, st, ρ, rs, re, (Meet.bind h).imp fun d st1 m1 H1 r1 mn h1 => hr d st1 m1 H1 r1 (re.mono mn) mn h1⟩
section
variable {X : Cx} {W : Wc} {e : Expr} {fa : FE} {lo hi : Option Expr} {fl fh : FO} {pos p2 : Pos}
theorem jo_no : JO X W none fNo := ⟨fun pins s σ H Q I h => po_none.run pins s σ H Q I (by
  obtain ⟨m, st, ρ, rs, re, h⟩ := h
  exact h m H rs Mn.refl)⟩
theorem jo_part (h : JE X W e fa) : JO X W (some e) (fPart fa) := ⟨fun pins s σ H Q I hw => (po_some h).run pins s σ H Q I (by
  obtain ⟨m, st, ρ, rs, re, hw⟩ := hw
  refine re_bind (k := fun x st1 ρ => match x with | .int i => .ok (some i) st1 | _ => .bad) rs re hw fun x st1 m1 H1 v1 r1 re1 mn1 rv1 h1 => ?_
  cases x with
  | int i => exact ⟨i, rv1, h1 m1 H1 r1 Mn.refl⟩
  | _ => exact h1.elim)⟩
theorem je_sl {g : D → Option Int → Option Int → S → Option (D × S)} (hr : SlR X (rDS X.K g)) (he : JE X W e fa) (hl : JO X W lo fl) (hh : JO X W hi fh) : JE X W (.Subscript e (.Slice lo hi none p2) pos) (fSl g fa fl fh) := by
  refine pe_imp (pe_slice hr he hl hh) fun σ H Q h => ?_
  obtain ⟨m, st, ρ, rs, re, h⟩ := h
  refine re_bind (k := fun x st1 ρ => (fl ρ st1).bind fun l st2 => (fh ρ st2).bind fun u st3 => ofO (g x l u st3)) rs re h fun x st1 m1 H1 v1 r1 re1 mn1 rv1 h1 => ?_
  refine ro_bind (k := fun l st2 ρ => (fh ρ st2).bind fun u st3 => ofO (g x l u st3)) r1 re1 h1 fun l st2 m2 H2 r2 re2 mn2 h2 => ?_
  refine ro_bind (k := fun u st3 ρ => ofO (g x l u st3)) r2 re2 h2 fun u st3 m3 H3 r3 re3 mn3 h3 => ?_
  obtain ⟨d, st', e, fin⟩ := meet_fin h3
  exact ⟨m3, st3, x, d, st', r3, mn3 _ _ (mn2 _ _ rv1), e, fin⟩
end
/-! ### built-in functions -/
def gLen (ds : List D) (st : S) : Option (D × S) := match ds with
  | [.tup xs] => some (.int xs.length, st)
  | [.str x] => if x.length ≤ sizeLine then some (.int x.length, st) else none
  | [.loc n] => match lstAt st n with
    | some xs => some (.int xs.length, st)
    | none => none
  | _ => none
def gAbs (ds : List D) (st : S) : Option (D × S) := match ds with
  | [.int i] => some (.int (if i < 0 then -i else i), st)
  | _ => none
def gInt (ds : List D) (st : S) : Option (D × S) := match ds with
  | [.int i] => some (.int i, st)
  | [.bl b] => some (.int (if b then 1 else 0), st)
  | _ => none
def gBool (ds : List D) (st : S) : Option (D × S) := match ds with
  | [.int i] => some (.bl (i != 0), st)
  | [.bl b] => some (.bl b, st)
  | _ => none
def gStr (ds : List D) (st : S) : Option (D × S) := match ds with
  | [.int i] => if i.natAbs.log2 < 1920 then some (.str (toString i), st) else none
  | [.str x] => some (.str x, st)
  | _ => none
def gMax (ds : List D) (st : S) : Option (D × S) := match ds with
  | [.int i, .int j] => some (.int (if j > i then j else i), st)
  | _ => none
def gMin (ds : List D) (st : S) : Option (D × S) := match ds with
  | [.int i, .int j] => some (.int (if j < i then j else i), st)
  | _ => none
def gGcd (ds : List D) (st : S) : Option (D × S) := match ds with
  | [.int i, .int j] => some (.int ((Nat.gcd i.natAbs j.natAbs : Nat) : Int), st)
  | _ => none
def intsD : List D → Option (List Int)
  | [] => some []
  | .int i :: r => (intsD r).map fun is => i :: is
  | _ :: _ => none
def gSum (ds : List D) (st : S) : Option (D × S) := match ds with
  | [.loc n] => match lstAt st n with
    | some xs => (intsD xs).map fun is => (.int is.sum, st)
    | none => none
  | _ => none
def gList (ds : List D) (st : S) : Option (D × S) := match ds with
  | [.tup xs] => some (.loc st.length, st ++ [.lst xs])
  | [.loc n] => match lstAt st n with
    | some xs => some (.loc st.length, st ++ [.lst xs])
    | none => none
  | _ => none
def gTuple (ds : List D) (st : S) : Option (D × S) := match ds with
  | [.tup xs] => some (.tup xs, st)
  | [.loc n] => match lstAt st n with
    | some xs => some (.tup xs, st)
    | none => none
  | _ => none
theorem ints_rel {K : PySem.W.Frag} {m : Nat → Addr} {n : Nat} {H : Hp} : ∀ {ds : List D} {vs : List V} {is : List Int}, RVs K m n H ds vs → intsD ds = some is → vs = is.map V.int
  | [], vs, is, h, e => by cases h; cases e; rfl
  | .int i :: ds, vs, is, h, e => by
    obtain ⟨v, r, rfl, h1, h2⟩ := h
    unfold intsD at e
    obtain ⟨js, e1, rfl⟩ := Option.map_eq_some_iff.mp e
    cases h1
    rw [ints_rel h2 e1]
    rfl
  | .non :: _, _, _, _, e => by cases e
  | .bl _ :: _, _, _, _, e => by cases e
  | .str _ :: _, _, _, _, e => by cases e
  | .tup _ :: _, _, _, _, e => by cases e
  | .loc _ :: _, _, _, _, e => by cases e
section
variable {X : Cx}
/-- one argument, two arguments -/
theorem rvs1 {K : PySem.W.Frag} {m : Nat → Addr} {n : Nat} {H : Hp} {d : D} {vs : List V} (h : RVs K m n H [d] vs) : ∃ v, vs = [v] ∧ RV K m n H d v := by
  obtain ⟨v, r, rfl, h1, h2⟩ := h
  cases h2
  exact ⟨v, rfl, h1⟩
theorem rvs2 {K : PySem.W.Frag} {m : Nat → Addr} {n : Nat} {H : Hp} {d e : D} {vs : List V} (h : RVs K m n H [d, e] vs) : ∃ v w, vs = [v, w] ∧ RV K m n H d v ∧ RV K m n H e w := by
  obtain ⟨v, r, rfl, h1, h2⟩ := h
  obtain ⟨w, rfl, h3⟩ := rvs1 h2
  exact ⟨v, w, rfl, h1, h3⟩
theorem cad_len : CallR X (.builtin "len") (rDL X.K gLen) := by
  intro pins s σ H xs us Q I r h
  obtain ⟨m, st, ds, d, st', rs, r1, e, fin⟩ := h
  unfold gLen at e
  split at e
  · obtain ⟨v, rfl, a, vs, rfl, q1, q2⟩ := rvs1 r1
    cases e
    exact call_len pins s σ H _ us Q I r ⟨_, _, rfl, .inr ⟨vs, q1, rfl⟩, by rw [← RVs.len q2]; exact fin.here rs rfl⟩
  · obtain ⟨v, rfl, rfl⟩ := rvs1 r1
    split at e
    · rename_i hl
      cases e
      exact call_len pins s σ H _ us Q I r ⟨_, _, rfl, ⟨hl, rfl⟩, fin.here rs rfl⟩
    · cases e
  · obtain ⟨v, rfl, _, rfl⟩ := rvs1 r1
    split at e
    · rename_i q
      obtain ⟨vs, g1, g2, _⟩ := lstAt_ok rs q
      cases e
      exact call_len pins s σ H _ us Q I r ⟨_, _, rfl, .inl ⟨vs, g1, rfl⟩, by rw [← RVs.len g2]; exact fin.here rs rfl⟩
    · cases e
  · cases e
theorem cad_abs : CallR X (.builtin "abs") (rDL X.K gAbs) := by
  intro pins s σ H xs us Q I r h
  obtain ⟨m, st, ds, d, st', rs, r1, e, fin⟩ := h
  unfold gAbs at e
  split at e
  · obtain ⟨v, rfl, rfl⟩ := rvs1 r1
    cases e
    exact call_abs pins s σ H _ us Q I r ⟨_, rfl, fin.here rs rfl⟩
  · cases e
theorem cad_int : CallR X (.type "int") (rDL X.K gInt) := by
  intro pins s σ H xs us Q I r h
  obtain ⟨m, st, ds, d, st', rs, r1, e, fin⟩ := h
  unfold gInt at e
  split at e
  · obtain ⟨v, rfl, rfl⟩ := rvs1 r1
    cases e
    exact call_int1 pins s σ H _ us Q I r (.inl ⟨_, rfl, fin.here rs rfl⟩)
  · obtain ⟨v, rfl, rfl⟩ := rvs1 r1
    cases e
    exact call_int1 pins s σ H _ us Q I r (.inr ⟨_, rfl, fin.here rs rfl⟩)
  · cases e
theorem cad_bool : CallR X (.type "bool") (rDL X.K gBool) := by
  intro pins s σ H xs us Q I r h
  obtain ⟨m, st, ds, d, st', rs, r1, e, fin⟩ := h
  unfold gBool at e
  split at e
  · obtain ⟨v, rfl, rfl⟩ := rvs1 r1
    cases e
    exact call_bool1 pins s σ H _ us Q I r (.inl ⟨_, rfl, fin.here rs rfl⟩)
  · obtain ⟨v, rfl, rfl⟩ := rvs1 r1
    cases e
    exact call_bool1 pins s σ H _ us Q I r (.inr ⟨_, rfl, fin.here rs rfl⟩)
  · cases e
theorem cad_str : CallR X (.type "str") (rDL X.K gStr) := by
  intro pins s σ H xs us Q I r h
  obtain ⟨m, st, ds, d, st', rs, r1, e, fin⟩ := h
  unfold gStr at e
  split at e
  · obtain ⟨v, rfl, rfl⟩ := rvs1 r1
    split at e
    · rename_i hl
      cases e
      exact call_str_int pins s σ H _ us Q I r ⟨_, rfl, hl, fin.here rs rfl⟩
    · cases e
  · obtain ⟨v, rfl, rfl⟩ := rvs1 r1
    cases e
    exact SkE.call_str_str pins s σ H _ us Q I r ⟨_, rfl, fin.here rs rfl⟩
  · cases e
theorem cad_max (hc : X.calm = true) : CallR X (.builtin "max") (rDL X.K gMax) := by
  intro pins s σ H xs us Q I r h
  obtain ⟨m, st, ds, d, st', rs, r1, e, fin⟩ := h
  unfold gMax at e
  split at e
  · obtain ⟨v, w, rfl, rfl, rfl⟩ := rvs2 r1
    cases e
    exact call_max2 hc pins s σ H _ us Q I r ⟨_, _, rfl, fin.here rs rfl⟩
  · cases e
theorem cad_min (hc : X.calm = true) : CallR X (.builtin "min") (rDL X.K gMin) := by
  intro pins s σ H xs us Q I r h
  obtain ⟨m, st, ds, d, st', rs, r1, e, fin⟩ := h
  unfold gMin at e
  split at e
  · obtain ⟨v, w, rfl, rfl, rfl⟩ := rvs2 r1
    cases e
    exact call_min2 hc pins s σ H _ us Q I r ⟨_, _, rfl, fin.here rs rfl⟩
  · cases e
theorem cad_gcd : CallR X (.builtin "math.gcd") (rDL X.K gGcd) := by
  intro pins s σ H xs us Q I r h
  obtain ⟨m, st, ds, d, st', rs, r1, e, fin⟩ := h
  unfold gGcd at e
  split at e
  · obtain ⟨v, w, rfl, rfl, rfl⟩ := rvs2 r1
    cases e
    exact cr_gcd pins s σ H _ us Q I r ⟨_, _, rfl, fin.here rs rfl⟩
  · cases e
theorem cad_sum (hc : X.calm = true) : CallR X (.builtin "sum") (rDL X.K gSum) := by
  intro pins s σ H xs us Q I r h
  obtain ⟨m, st, ds, d, st', rs, r1, e, fin⟩ := h
  unfold gSum at e
  split at e
  · obtain ⟨v, rfl, _, rfl⟩ := rvs1 r1
    split at e
    · rename_i q
      obtain ⟨vs, g1, g2, _⟩ := lstAt_ok rs q
      obtain ⟨is, e1, e2⟩ := Option.map_eq_some_iff.mp e
      cases e2
      rw [ints_rel g2 e1] at g1
      exact cr_sum hc pins s σ H _ us Q I r ⟨_, is, rfl, g1, fin.here rs rfl⟩
    · cases e
  · cases e
theorem cad_list : CallR X (.type "list") (rDL X.K gList) := by
  intro pins s σ H xs us Q I r h
  obtain ⟨m, st, ds, d, st', rs, r1, e, fin⟩ := h
  unfold gList at e
  split at e
  · obtain ⟨v, rfl, a, vs, rfl, q1, q2⟩ := rvs1 r1
    cases e
    exact call_list_of pins s σ H _ us Q I r ⟨_, vs, rfl, .inr q1, fun p hp => fin.lst rs q2 hp⟩
  · obtain ⟨v, rfl, _, rfl⟩ := rvs1 r1
    split at e
    · rename_i q
      obtain ⟨vs, g1, g2, _⟩ := lstAt_ok rs q
      cases e
      exact call_list_of pins s σ H _ us Q I r ⟨_, vs, rfl, .inl g1, fun p hp => fin.lst rs g2 hp⟩
    · cases e
  · cases e
theorem cad_tuple : CallR X (.type "tuple") (rDL X.K gTuple) := by
  intro pins s σ H xs us Q I r h
  obtain ⟨m, st, ds, d, st', rs, r1, e, fin⟩ := h
  unfold gTuple at e
  split at e
  · obtain ⟨v, rfl, a, vs, rfl, q1, q2⟩ := rvs1 r1
    cases e
    exact call_tuple_of pins s σ H _ us Q I r ⟨_, vs, rfl, .inr ⟨q1, fin.here rs ⟨a, vs, rfl, q1, q2⟩⟩⟩
  · obtain ⟨v, rfl, _, rfl⟩ := rvs1 r1
    split at e
    · rename_i q
      obtain ⟨vs, g1, g2, _⟩ := lstAt_ok rs q
      cases e
      exact call_tuple_of pins s σ H _ us Q I r ⟨_, vs, rfl, .inl ⟨g1, fun p hp => fin.tup rs g2 hp⟩⟩
    · cases e
  · cases e
end
/-! ### isinstance with a built-in class -/
def tyD : D → String
  | .non => "NoneType"
  | .bl _ => "bool"
  | .int _ => "int"
  | .str _ => "str"
  | .tup _ => "tuple"
  | .loc _ => "list"
def isiT (T : String) (t : String) : Bool := t == T || (t == "bool" && T == "int")
def gIsi (T : String) (x : D) (st : S) : Option (D × S) := match x with
  | .loc n => match lstAt st n with
    | some _ => some (.bl (isiT T "list"), st)
    | none => none
  | x => some (.bl (isiT T (tyD x)), st)
def isiOk (T : String) : Bool := ["NoneType", "bool", "int", "str", "tuple", "list"].all fun t => decide (kitB t T = some (isiT T t))
section
variable {X : Cx} {W : Wc} {e : Expr} {fa : FE} {p p2 pos : Pos}
theorem tyx_of {K : PySem.W.Frag} {m : Nat → Addr} {st : S} {H : Hp} {d : D} {v : V} {T : String} {r : D × S} (rs : RS K m st H) (h : RV K m st.length H d v) (e : gIsi T d st = some r) : TyX K H v (.type (tyD d)) ∧ r = (.bl (isiT T (tyD d)), st) := by
  cases d with
  | non => cases h; exact ⟨.base .non, (Option.some.inj e).symm⟩
  | bl b => cases h; exact ⟨.base (.bl b), (Option.some.inj e).symm⟩
  | int i => cases h; exact ⟨.base (.int i), (Option.some.inj e).symm⟩
  | str x => cases h; exact ⟨.base (.str x), (Option.some.inj e).symm⟩
  | tup ds =>
    obtain ⟨a, vs, rfl, q1, q2⟩ := h
    refine ⟨?_, (Option.some.inj e).symm⟩
    rcases q1 with (q | ⟨o, q⟩) | ⟨o, its, n, q, qc, _⟩
    · exact .base (.tup q)
    · exact .fTuple q
    · exact .kTuple q qc
  | loc k =>
    obtain ⟨_, rfl⟩ := h
    replace e : (match lstAt st k with | some _ => some (D.bl (isiT T "list"), st) | none => none) = some r := e
    cases q : lstAt st k with
    | none => rw [q] at e; cases e
    | some ds =>
      rw [q] at e
      refine ⟨?_, (Option.some.inj e).symm⟩
      obtain ⟨vs, _, _, g | g⟩ := lstAt_ok rs q
      · obtain ⟨xs, g⟩ := g
        exact .base (.lst g)
      · obtain ⟨xs, ⟨o, g1⟩ | ⟨o, its, n, g1, gc, _⟩⟩ := g
        · exact .base (.frz g1)
        · exact .kList g1 gc
/-- isinstance(e, T) -/
theorem je_isi {T : Str} {t : String} (hg : Gl X "isinstance") (hm : X.mg "isinstance" = none) (hgT : Gl X T) (hmT : X.mg T = none) (hvT : bootBuiltins T = some (.type t)) (hk : isiOk t = true) (ha : JE X W e fa)
    (hnT : T ≠ "__name__" := by decide) (hdT : (T == ("__debug__" : Str)) = false := by decide)
    (he : starEach (e :: [.Name T p2]) X.env = (false, eval e X.env) :: starEach [.Name T p2] X.env := by rfl) (hpl : (backTo pos (starEach [.Name T p2] X.env)).any (·.1) = false := by rfl) :
    JE X W (.Call (.Name "isinstance" p) [e, .Name T p2] [] pos) (fUn (gIsi t) fa) := by
  have hT : PE X (.Name T p2) (tC (.ty t)) := pe_bltn hgT hmT hvT rfl hnT hdT
  refine pe_imp (pe_callB call_isi hg hm PyProof.Rows.boot_isinstance (pa_cons ha (pa_cons hT pa_nil) he) (by decide) (by decide) he hpl) fun σ H Q h => ?_
  obtain ⟨m, st, ρ, rs, re, h⟩ := h
  refine re_bind (k := fun x st1 ρ => ofO (gIsi t x st1)) rs re h fun x st1 m1 H1 v1 r1 re1 mn1 rv1 h1 => ?_
  obtain ⟨d, st', e, fin⟩ := meet_fin h1
  obtain ⟨ty, ed⟩ := tyx_of r1 rv1 e
  cases ed
  have kk : kitB (tyD x) t = some (isiT t (tyD x)) := by
    have z := List.all_eq_true.mp hk (tyD x) (by cases x <;> simp [tyD])
    exact of_decide_eq_true z
  exact ⟨v1, .ty t, .type (tyD x), .type t, _, rfl, .ty t, ty, kit_ty kk, fin.here r1 rfl⟩
end
/-! ### methods of lists -/
def gAppend (x : D) (ds : List D) (st : S) : Option (D × S) := match x, ds with
  | .loc n, [d] => match st[n]? with
    | some (.lst xs) => if xs.length < sizeLine then some (.non, st.set n (.lst (xs ++ [d]))) else none
    | _ => none
  | _, _ => none
def gInsert (x : D) (ds : List D) (st : S) : Option (D × S) := match x, ds with
  | .loc n, [.int i, d] => match st[n]? with
    | some (.lst xs) => if xs.length < sizeLine ∧ 0 ≤ i ∧ i < 2 ^ 63 then some (.non, st.set n (.lst (xs.take i.toNat ++ [d] ++ xs.drop i.toNat))) else none
    | _ => none
  | _, _ => none
def gPop (x : D) (ds : List D) (st : S) : Option (D × S) := match x, ds with
  | .loc n, [] => match st[n]? with
    | some (.lst xs) => (xs[xs.length - 1]?).map fun d => (d, st.set n (.lst xs.dropLast))
    | _ => none
  | .loc n, [.int i] => match st[n]? with
    | some (.lst xs) => if -(2 ^ 63) ≤ i ∧ i < 2 ^ 63 then (match seqIndex? i xs.length with
      | some k => (xs[k]?).map fun d => (d, st.set n (.lst (xs.eraseIdx k)))
      | none => none) else none
    | _ => none
  | _, _ => none
def gExtend (x : D) (ds : List D) (st : S) : Option (D × S) := match x, ds with
  | .loc n, [.loc k] => match st[n]?, st[k]? with
    | some (.lst xs), some (.lst ys) => if xs.length + ys.length ≤ sizeLine then some (.non, st.set n (.lst (xs ++ ys))) else none
    | _, _ => none
  | _, _ => none
theorem RVs.dropLast {K : PySem.W.Frag} {m : Nat → Addr} {n : Nat} {H : Hp} {ds : List D} {vs : List V} (h : RVs K m n H ds vs) : RVs K m n H ds.dropLast vs.dropLast := by
  rw [List.dropLast_eq_take, List.dropLast_eq_take, RVs.len h]
  exact RVs.take _ h
theorem RVs.erase {K : PySem.W.Frag} {m : Nat → Addr} {n : Nat} {H : Hp} {ds : List D} {vs : List V} (h : RVs K m n H ds vs) (k : Nat) : RVs K m n H (ds.eraseIdx k) (vs.eraseIdx k) := by
  rw [List.eraseIdx_eq_take_drop_succ, List.eraseIdx_eq_take_drop_succ]
  exact RVs.app (RVs.take _ h) (RVs.drop _ h)
section
variable {X : Cx}
theorem mtd_append : MtR X "list.append" (rDM X.K gAppend) := by
  intro pins s σ H x xs v us Q I rx rv h
  obtain ⟨m, st, dx, ds, d, st', rs, r1, r2, e, fin⟩ := h
  unfold gAppend at e
  split at e
  · obtain ⟨_, rfl⟩ := r1
    obtain ⟨y, rfl, r3⟩ := rvs1 r2
    split at e
    · rename_i q
      split at e
      · rename_i hl
        obtain ⟨vs, g1, g2⟩ := rs.at_ _ _ q
        cases e
        exact mt_append pins s σ H _ _ v us Q I rx rv ⟨_, vs, y, rfl, rfl, g1, by rw [← RVs.len g2]; exact hl, fin.wr rs q (RVs.app g2 (RVs.one r3)) rfl⟩
      · cases e
    · cases e
  · cases e
theorem mtd_insert : MtR X "list.insert" (rDM X.K gInsert) := by
  intro pins s σ H x xs v us Q I rx rv h
  obtain ⟨m, st, dx, ds, d, st', rs, r1, r2, e, fin⟩ := h
  unfold gInsert at e
  split at e
  · obtain ⟨_, rfl⟩ := r1
    obtain ⟨z, y, rfl, r4, r3⟩ := rvs2 r2
    cases r4
    split at e
    · rename_i q
      split at e
      · rename_i hl
        obtain ⟨vs, g1, g2⟩ := rs.at_ _ _ q
        cases e
        exact mt_insert pins s σ H _ _ v us Q I rx rv ⟨_, vs, _, y, rfl, rfl, g1, by rw [← RVs.len g2]; exact hl.1, hl.2.1, hl.2.2, fin.wr rs q (RVs.app (RVs.app (RVs.take _ g2) (RVs.one r3)) (RVs.drop _ g2)) rfl⟩
      · cases e
    · cases e
  · cases e
theorem mtd_pop : MtR X "list.pop" (rDM X.K gPop) := by
  intro pins s σ H x xs v us Q I rx rv h
  obtain ⟨m, st, dx, ds, d, st', rs, r1, r2, e, fin⟩ := h
  unfold gPop at e
  split at e
  · obtain ⟨_, rfl⟩ := r1
    cases r2
    split at e
    · rename_i q
      obtain ⟨vs, g1, g2⟩ := rs.at_ _ _ q
      obtain ⟨d2, e1, e2⟩ := Option.map_eq_some_iff.mp e
      cases e2
      obtain ⟨y, h1, h2⟩ := RVs.get g2 e1
      refine mt_pop pins s σ H _ _ v us Q I rx rv ⟨_, vs, y, rfl, rfl, g1, by rw [← RVs.len g2]; exact h1, fin.wr rs q (RVs.dropLast g2) h2⟩
    · cases e
  · obtain ⟨_, rfl⟩ := r1
    obtain ⟨z, rfl, r4⟩ := rvs1 r2
    cases r4
    split at e
    · rename_i q
      split at e
      · rename_i hl
        split at e
        · rename_i k hk
          obtain ⟨vs, g1, g2⟩ := rs.at_ _ _ q
          obtain ⟨d2, e1, e2⟩ := Option.map_eq_some_iff.mp e
          cases e2
          obtain ⟨y, h1, h2⟩ := RVs.get g2 e1
          exact mt_popAt pins s σ H _ _ v us Q I rx rv ⟨_, vs, _, k, y, rfl, rfl, g1, hl.1, hl.2, by rw [← RVs.len g2]; exact hk, h1, fin.wr rs q (RVs.erase g2 k) h2⟩
        · cases e
      · cases e
    · cases e
  · cases e
theorem mtd_extend : MtR X "list.extend" (rDM X.K gExtend) := by
  intro pins s σ H x xs v us Q I rx rv h
  obtain ⟨m, st, dx, ds, d, st', rs, r1, r2, e, fin⟩ := h
  unfold gExtend at e
  split at e
  · obtain ⟨_, rfl⟩ := r1
    obtain ⟨y, rfl, _, rfl⟩ := rvs1 r2
    split at e
    · rename_i q q2
      split at e
      · rename_i hl
        obtain ⟨vs, g1, g2⟩ := rs.at_ _ _ q
        obtain ⟨ws, g3, g4⟩ := rs.at_ _ _ q2
        cases e
        exact mt_extend pins s σ H _ _ v us Q I rx rv ⟨_, _, vs, ws, rfl, rfl, g1, g3, by rw [← RVs.len g2, ← RVs.len g4]; exact hl, fin.wr rs q (RVs.app g2 g4) rfl⟩
      · cases e
    · cases e
  · cases e
end
section
variable {X : Cx} {W : Wc} {o e : Expr} {es : List Expr} {fo : FE} {fs : FA} {name : Str} {id : String} {apos cpos : Pos}
/-- o.m(e, ..), o a list -/
def fLM (g : D → List D → S → Option (D × S)) (o : FE) (a : FA) : FE := fun ρ st => (o ρ st).bind fun x st1 => match x with
  | .loc n => match lstAt st1 n with
    | some _ => (a ρ st1).bind fun ds st2 => ofO (g (.loc n) ds st2)
    | none => .bad
  | _ => .bad
theorem lm_imp {g : D → List D → S → Option (D × S)} {t : TA} (ht : ∀ σ H Q, rA X.K X.mg W fs σ H Q → t σ H Q) {σ : L2.St} {H : Hp} {Q : VK} (h : rE X.K X.mg W (fLM g fo fs) σ H Q) : tBM X.K "list" (rDM X.K g) (rE X.K X.mg W fo) t σ H Q := by
  obtain ⟨m, st, ρ, rs, re, h⟩ := h
  refine re_bind (α := D) (k := fun x st1 ρ => match x with | .loc n => (match lstAt st1 n with | some _ => (fs ρ st1).bind fun ds st2 => ofO (g (.loc n) ds st2) | none => .bad) | _ => .bad) rs re h fun x st1 m1 H1 v1 r1 re1 mn1 rv1 h1 => ?_
  cases x with
  | loc n =>
    obtain ⟨hn, rfl⟩ := rv1
    cases q : lstAt st1 n with
    | none => simp only [q] at h1; exact h1.elim
    | some xs =>
      simp only [q] at h1
      obtain ⟨vs, g1, _⟩ := lstAt_ok r1 q
      refine ⟨Or.inl ⟨rfl, vs, g1⟩, ht _ _ _ ?_⟩
      refine ra_bind (k := fun ds st2 ρ => ofO (g (.loc n) ds st2)) r1 re1 h1 fun ds st2 m2 H2 v2 r2 re2 mn2 rv2 h2 => ?_
      obtain ⟨d, st', e, fin⟩ := meet_fin h2
      exact ⟨m2, st2, .loc n, ds, d, st', r2, mn2 _ _ ⟨hn, rfl⟩, rv2, e, fin⟩
  | _ => exact h1.elim
theorem je_lm {g : D → List D → S → Option (D × S)} (slot : Slot "list" name id) (hty : typeOf (.builtin id) = pure (.type "method_descriptor")) (hm : MtR X id (rDM X.K g)) (ho : JE X W o fo) (ha : JA X W (e :: es) fs)
    (hbase : attributeBase o name X.env (eval o X.env) = eval o X.env := by rfl)
    (hfew : ((backTo cpos (starEach (e :: es) X.env)).all (fun x => !x.1) && (backToKw cpos (keywordEach [] X.env)).all (fun x => x.1.isSome)
      && decide ((e :: es).length + ([] : List Keyword).length + (if ([] : List Keyword).isEmpty then 0 else 1) < 30)) = true := by rfl)
    (hline : (apos.endLine == cpos.line) = true := by rfl) (hs : starEach (e :: es) X.env = (false, eval e X.env) :: starEach es X.env := by rfl) (hplain : (backTo cpos (starEach es X.env)).any (·.1) = false := by rfl) :
    JE X W (.Call (.Attribute o name apos) (e :: es) [] cpos) (fLM g fo fs) :=
  pe_imp (pe_bm PySem.F.plainAttrs_list slot hty hm ho ha hbase hfew hline hs hplain) fun σ H Q h => lm_imp (fun _ _ _ q => q) h
theorem je_lm0 {g : D → List D → S → Option (D × S)} (slot : Slot "list" name id) (hty : typeOf (.builtin id) = pure (.type "method_descriptor")) (hm : MtR X id (rDM X.K g)) (ho : JE X W o fo)
    (hbase : attributeBase o name X.env (eval o X.env) = eval o X.env := by rfl) (hline : (apos.endLine == cpos.line) = true := by rfl) :
    JE X W (.Call (.Attribute o name apos) [] [] cpos) (fLM g fo fNil) :=
  pe_imp (pe_bm0 PySem.F.plainAttrs_list slot hty hm ho hbase hline) fun σ H Q h => lm_imp (t := fun σ H Q => Q [] H) (fun σ H Q q => by
    obtain ⟨m, st, ρ, rs, re, q⟩ := q
    exact q m H rs Mn.refl [] rfl) h
end
end MP

set_option Elab.async false
set_option linter.all false
set_option maxRecDepth 100000
set_option maxHeartbeats 4000000
namespace MP
open PySem L2

/-! ### statements -/
def Out.so {α : Type} (o : Out α) (ρ : En) (k : α → S → SO) : SO := match o with
  | .ok a st => k a st
  | .exc e st => .ex e ρ st
  | .bad => .bad
@[simp] theorem Out.so_ok {α : Type} (a : α) (st : S) (ρ : En) (k : α → S → SO) : (Out.ok a st).so ρ k = k a st := rfl
@[simp] theorem Out.so_exc {α : Type} (e : Ex) (st : S) (ρ : En) (k : α → S → SO) : (Out.exc e st : Out α).so ρ k = .ex e ρ st := rfl
@[simp] theorem Out.so_bad {α : Type} (ρ : En) (k : α → S → SO) : (Out.bad : Out α).so ρ k = .bad := rfl
section
variable {K : PySem.W.Frag} {mg : Str → Option Value} {W : Wc}
theorem MeetS.later {m m1 : Nat → Addr} {n n1 : Nat} {H H1 : Hp} {o : SO} {E : Ends} (h : MeetS K mg W m n H o E) (mn : Mn K m n H m1 n1 H1) : MeetS K mg W m1 n1 H1 o E := by
  cases o with
  | nx ρ st => exact fun m' H' σ r mn' re => h m' H' σ r (mn.trans mn') re
  | rt d st => exact fun m' H' σ r mn' re => h m' H' σ r (mn.trans mn') re
  | bk ρ st => exact fun m' H' σ r mn' re => h m' H' σ r (mn.trans mn') re
  | ct ρ st => exact fun m' H' σ r mn' re => h m' H' σ r (mn.trans mn') re
  | ex e ρ st => exact fun m' H' σ cls od r mn' re rx => h m' H' σ cls od r (mn.trans mn') re rx
  | bad => exact h
theorem Meet.later {α : Type} {m m1 : Nat → Addr} {n n1 : Nat} {H H1 : Hp} {o : Out α} {Q : α → S → (Nat → Addr) → Hp → Prop} {E : XK} (h : Meet K mg m n H o Q E) (mn : Mn K m n H m1 n1 H1) : Meet K mg m1 n1 H1 o Q E := by
  cases o with
  | ok a st => exact fun m' H' r mn' => h m' H' r (mn.trans mn')
  | exc e st => exact fun m' H' cls od r mn' rx => h m' H' cls od r (mn.trans mn') rx
  | bad => exact h
theorem se_bind {f : FE} {k : D → S → SO} {m : Nat → Addr} {st : S} {ρ : En} {σ : L2.St} {H : Hp} {E : Ends} {R : V → Hp → Prop}
    (rs : RS K m st H) (re : RE W.gh K m st.length H ρ σ) (h : MeetS K mg W m st.length H ((f ρ st).so ρ k) E)
    (hr : ∀ d st1 m1 H1 v, RS K m1 st1 H1 → RE W.gh K m1 st1.length H1 ρ σ → Mn K m st.length H m1 st1.length H1 → RV K m1 st1.length H1 d v → MeetS K mg W m1 st1.length H1 (k d st1) E → R v H1) :
    rE K mg W f σ H R := by
  refine ⟨m, st, ρ, rs, re, ?_⟩
  cases e : f ρ st with
  | ok d st1 =>
    rw [e] at h
    exact fun m1 H1 r1 mn v rv => hr d st1 m1 H1 v r1 (re.mono mn) mn rv (MeetS.later h mn)
  | exc x st1 =>
    rw [e] at h
    exact fun m1 H1 cls od r1 mn rx => h m1 H1 σ cls od r1 mn (re.mono mn) rx
  | bad => rw [e] at h; exact h
theorem st_bind {f : FT} {k : Bool → S → SO} {m : Nat → Addr} {st : S} {ρ : En} {σ : L2.St} {H : Hp} {E : Ends} {R : Bool → Hp → Prop}
    (rs : RS K m st H) (re : RE W.gh K m st.length H ρ σ) (h : MeetS K mg W m st.length H ((f ρ st).so ρ k) E)
    (hr : ∀ d st1 m1 H1, RS K m1 st1 H1 → RE W.gh K m1 st1.length H1 ρ σ → Mn K m st.length H m1 st1.length H1 → MeetS K mg W m1 st1.length H1 (k d st1) E → R d H1) :
    rT K mg W f σ H R := by
  refine ⟨m, st, ρ, rs, re, ?_⟩
  cases e : f ρ st with
  | ok d st1 =>
    rw [e] at h
    exact fun m1 H1 r1 mn => hr d st1 m1 H1 r1 (re.mono mn) mn (MeetS.later h mn)
  | exc x st1 =>
    rw [e] at h
    exact fun m1 H1 cls od r1 mn rx => h m1 H1 σ cls od r1 mn (re.mono mn) rx
  | bad => rw [e] at h; exact h
theorem sa_bind {f : FA} {k : List D → S → SO} {m : Nat → Addr} {st : S} {ρ : En} {σ : L2.St} {H : Hp} {E : Ends} {R : List V → Hp → Prop}
    (rs : RS K m st H) (re : RE W.gh K m st.length H ρ σ) (h : MeetS K mg W m st.length H ((f ρ st).so ρ k) E)
    (hr : ∀ d st1 m1 H1 v, RS K m1 st1 H1 → RE W.gh K m1 st1.length H1 ρ σ → Mn K m st.length H m1 st1.length H1 → RVs K m1 st1.length H1 d v → MeetS K mg W m1 st1.length H1 (k d st1) E → R v H1) :
    rA K mg W f σ H R := by
  refine ⟨m, st, ρ, rs, re, ?_⟩
  cases e : f ρ st with
  | ok d st1 =>
    rw [e] at h
    exact fun m1 H1 r1 mn v rv => hr d st1 m1 H1 v r1 (re.mono mn) mn rv (MeetS.later h mn)
  | exc x st1 =>
    rw [e] at h
    exact fun m1 H1 cls od r1 mn rx => h m1 H1 σ cls od r1 mn (re.mono mn) rx
  | bad => rw [e] at h; exact h
end
def sSkip : FS := fun ρ st => .nx ρ st
def sSeq (a b : FS) : FS := fun ρ st => match a ρ st with
  | .nx ρ1 st1 => b ρ1 st1
  | o => o
def sSet (i : Nat) (e : FE) : FS := fun ρ st => (e ρ st).so ρ fun d st1 => .nx (ρ.set i (some d)) st1
def sExpr (e : FE) : FS := fun ρ st => (e ρ st).so ρ fun _ st1 => .nx ρ st1
def sRet (e : FE) : FS := fun ρ st => (e ρ st).so ρ fun d st1 => .rt d st1
def sRetN : FS := fun _ st => .rt .non st
def sIf (t : FT) (a b : FS) : FS := fun ρ st => (t ρ st).so ρ fun c st1 => if c = true then a ρ st1 else b ρ st1
def sBreak : FS := fun ρ st => .bk ρ st
def sCont : FS := fun ρ st => .ct ρ st
/-- a target -/
abbrev FG := D → S → En → Option En
def tgN (i : Nat) : FG := fun d _ ρ => some (ρ.set i (some d))
def tgAll : List FG → List D → S → En → Option En
  | [], [], _, ρ => some ρ
  | t :: ts, d :: ds, st, ρ => (t d st ρ).bind fun ρ1 => tgAll ts ds st ρ1
  | _, _, _, _ => none
def tgTup (ts : List FG) : FG := fun d st ρ => match d with
  | .tup ds => tgAll ts ds st ρ
  | _ => none
def sAsg (t : FG) (e : FE) : FS := fun ρ st => (e ρ st).so ρ fun d st1 => match t d st1 ρ with
  | some ρ1 => .nx ρ1 st1
  | none => .bad
/-- xs[i] = e -/
def gStore (o i d : D) (st : S) : Option S := match o, i with
  | .loc n, .int k => match st[n]? with
    | some (.lst ds) => (ixN ds.length k).map fun j => st.set n (.lst (ds.set j d))
    | _ => none
  | _, _ => none
def sStore (o i e : FE) : FS := fun ρ st => (e ρ st).so ρ fun d st1 => (o ρ st1).so ρ fun x st2 => (i ρ st2).so ρ fun y st3 => match gStore x y d st3 with
  | some st4 => .nx ρ st4
  | none => .bad
def sPar (i j : Nat) (a : FA) : FS := fun ρ st => (a ρ st).so ρ fun ds st1 => match ds with
  | [x, y] => .nx ((ρ.set i (some x)).set j (some y)) st1
  | _ => .bad
def sLoop (chk : S → Bool) (t : FG) (body : FS) : List D → En → S → SO
  | [], ρ, st => if chk st = true then .nx ρ st else .bad
  | d :: ds, ρ, st => if chk st = true then (match t d st ρ with
    | some ρ1 => (match body ρ1 st with
      | .nx ρ2 st2 => sLoop chk t body ds ρ2 st2
      | .ct ρ2 st2 => sLoop chk t body ds ρ2 st2
      | .bk ρ2 st2 => .nx ρ2 st2
      | .rt d st2 => .rt d st2
      | .ex e ρ2 st2 => .ex e ρ2 st2
      | .bad => .bad)
    | none => .bad) else .bad
/-- the signs of a text -/
def signs (z : Str) : List D := z.cps.toList.map fun c => .str ⟨#[c]⟩
/-- for over a list, a tuple, a text -/
def sFor (e : FE) (t : FG) (body : FS) : FS := fun ρ st => (e ρ st).so ρ fun d st1 => match d with
  | .tup ds => sLoop (fun _ => true) t body ds ρ st1
  | .loc n => match lstAt st1 n with
    | some ds => sLoop (fun s => decide (lstAt s n = some ds)) t body ds ρ st1
    | none => .bad
  | .str z => sLoop (fun _ => true) t body (signs z) ρ st1
  | _ => .bad
def rangeD (lo hi : Int) : List D := (List.range (hi - lo).toNat).map fun i => .int (lo + (i : Nat))
def Small62 (i : Int) : Prop := -(2 ^ 62) ≤ i ∧ i < 2 ^ 62
instance (i : Int) : Decidable (Small62 i) := by unfold Small62; infer_instance
def sForR1 (a : FA) (t : FG) (body : FS) : FS := fun ρ st => (a ρ st).so ρ fun ds st1 => match ds with
  | [.int j] => if Small62 j then sLoop (fun _ => true) t body (rangeD 0 j) ρ st1 else .bad
  | _ => .bad
def sForR2 (a : FA) (t : FG) (body : FS) : FS := fun ρ st => (a ρ st).so ρ fun ds st1 => match ds with
  | [.int i, .int j] => if Small62 i ∧ Small62 j then sLoop (fun _ => true) t body (rangeD i j) ρ st1 else .bad
  | _ => .bad
def sWh (t : FT) (body : FS) : Nat → FS
  | 0, _, _ => .bad
  | n + 1, ρ, st => (t ρ st).so ρ fun c st1 => if c = true then (match body ρ st1 with
      | .nx ρ2 st2 => sWh t body n ρ2 st2
      | .ct ρ2 st2 => sWh t body n ρ2 st2
      | .bk ρ2 st2 => .nx ρ2 st2
      | .rt d st2 => .rt d st2
      | .ex e ρ2 st2 => .ex e ρ2 st2
      | .bad => .bad) else .nx ρ st1
open Classical in
/-- while: as far as it takes -/
noncomputable def sWhile (t : FT) (body : FS) : FS := fun ρ st => if h : ∃ n, sWh t body n ρ st ≠ .bad then sWh t body (choose h) ρ st else .bad
theorem sWh_more {t : FT} {body : FS} : ∀ (n k : Nat) (ρ : En) (st : S), sWh t body n ρ st ≠ .bad → sWh t body (n + k) ρ st = sWh t body n ρ st
  | 0, _, _, _, h => absurd rfl h
  | n + 1, k, ρ, st, h => by
    have e : n + 1 + k = (n + k) + 1 := by omega
    rw [e]
    unfold sWh at h ⊢
    cases q : t ρ st with
    | ok c st1 =>
      rw [q] at h
      simp only [Out.so_ok] at h ⊢
      cases c with
      | false => rfl
      | true =>
        rw [if_pos rfl] at h
        rw [if_pos rfl, if_pos rfl]
        cases b : body ρ st1 with
        | nx ρ2 st2 => rw [b] at h; exact sWh_more n k ρ2 st2 h
        | ct ρ2 st2 => rw [b] at h; exact sWh_more n k ρ2 st2 h
        | bk ρ2 st2 => rfl
        | rt d st2 => rfl
        | ex e ρ2 st2 => rfl
        | bad => rfl
    | exc e st1 => rfl
    | bad => rfl
theorem sWhile_of {t : FT} {body : FS} {n : Nat} {ρ : En} {st : S} {o : SO} (h : sWh t body n ρ st = o) (ho : o ≠ .bad) : sWhile t body ρ st = o := by
  have ex : ∃ n, sWh t body n ρ st ≠ .bad := ⟨n, by rw [h]; exact ho⟩
  unfold sWhile
  rw [dif_pos ex]
  have h1 := Classical.choose_spec ex
  have a := sWh_more (Classical.choose ex) n ρ st h1
  have b := sWh_more n (Classical.choose ex) ρ st (by rw [h]; exact ho)
  rw [Nat.add_comm] at b
  rw [← a, b, h]

/-! ### the rules of statements -/
section
variable {X : Cx} {W : Wc} {st : Stmt} {rest : List Stmt} {a b c e : Expr} {f g : FS} {fa fb fc : FE} {ft : FT} {fs : FA} {pos p : Pos}
theorem jb_nil : JB X W [] sSkip := pss_imp pss_nil fun E σ H ⟨m, st, ρ, rs, re, h⟩ => h m H σ rs Mn.refl re
theorem jb_cons (h1 : JS X W st f) (h2 : JB X W rest g) : JB X W (st :: rest) (sSeq f g) := by
  refine pss_imp (pss_cons h1 h2) fun E σ H h => ?_
  obtain ⟨m, st, ρ, rs, re, h⟩ := h
  refine ⟨m, st, ρ, rs, re, ?_⟩
  unfold sSeq at h
  cases q : f ρ st with
  | nx ρ1 st1 =>
    rw [q] at h
    exact fun m' H' σ' r mn re' => ⟨m', st1, ρ1, r, re', MeetS.later h mn⟩
  | rt d st1 => rw [q] at h; exact h
  | bk ρ1 st1 => rw [q] at h; exact h
  | ct ρ1 st1 => rw [q] at h; exact h
  | ex e ρ1 st1 => rw [q] at h; exact h
  | bad => rw [q] at h; exact h
theorem jb_one (h1 : JS X W st f) : JB X W [st] f := pss_one h1
theorem js_pass : JS X W (.Pass pos) sSkip := ps_imp ps_pass fun E σ H ⟨m, st, ρ, rs, re, h⟩ => h m H σ rs Mn.refl re
theorem js_break : JS X W (.Break pos) sBreak := ps_imp ps_break fun E σ H ⟨m, st, ρ, rs, re, h⟩ => h m H σ rs Mn.refl re
theorem js_cont : JS X W (.Continue pos) sCont := ps_imp ps_continue fun E σ H ⟨m, st, ρ, rs, re, h⟩ => h m H σ rs Mn.refl re
theorem js_expr (he : JE X W e fa) (hs : swapsWith e none pos.line X.env = pure false := by rfl) : JS X W (.Expr e pos) (sExpr fa) := by
  refine ps_imp (ps_expr he hs) fun E σ H h => ?_
  obtain ⟨m, st, ρ, rs, re, h⟩ := h
  exact se_bind rs re h fun d st1 m1 H1 v r1 re1 mn rv h1 => h1 m1 H1 σ r1 Mn.refl re1
theorem js_ret (he : JE X W e fa) : JS X W (.Return (some e) pos) (sRet fa) := by
  refine ps_imp (ps_ret he) fun E σ H h => ?_
  obtain ⟨m, st, ρ, rs, re, h⟩ := h
  exact se_bind rs re h fun d st1 m1 H1 v r1 re1 mn rv h1 => h1 m1 H1 v r1 Mn.refl rv
theorem js_retN : JS X W (.Return none pos) sRetN := ps_imp ps_retN fun E σ H ⟨m, st, ρ, rs, re, h⟩ => h m H .non rs Mn.refl rfl
theorem js_if {xs ys : List Stmt} (hc : JT X W c ft) (ha : JB X W xs f) (hb : JB X W ys g) : JS X W (.If c xs ys pos) (sIf ft f g) := by
  refine ps_imp (ps_if hc ha hb) fun E σ H h => ?_
  obtain ⟨m, st, ρ, rs, re, h⟩ := h
  refine st_bind rs re h fun d st1 m1 H1 r1 re1 mn h1 => ?_
  cases d with
  | true => rw [if_pos rfl] at h1 ⊢; exact ⟨m1, st1, ρ, r1, re1, h1⟩
  | false => rw [if_neg Bool.false_ne_true] at h1 ⊢; exact ⟨m1, st1, ρ, r1, re1, h1⟩
theorem js_set {i : Nat} {x : Str} {p' : Pos} (hN : X.N.Nodup) (hi : X.N[i]? = some x) (hx : Loc X.env.scope x) (he : JE X W e fa) (hs : swapsWith e (some (.Name x p')) pos.line X.env = pure false := by rfl) (hf : X.fn x = true ∨ X.env.scope.names.lookup x = some .local := by first | exact .inl rfl | exact .inr rfl | assumption) :
    JS X W (.Assign [.Name x p'] e pos) (sSet i fa) := by
  refine ps_imp (ps_set hN hi hx he hs hf) fun E σ H h => ?_
  obtain ⟨m, st, ρ, rs, re, h⟩ := h
  exact se_bind rs re h fun d st1 m1 H1 v r1 re1 mn rv h1 => h1 m1 H1 _ r1 Mn.refl (re1.set rv)
end
/-! ### targets -/
def rG (K : PySem.W.Frag) (W : Wc) (f : FG) : TG := fun v σ H Q => ∃ m st ρ d ρ', RS K m st H ∧ RE W.gh K m st.length H ρ σ ∧ RV K m st.length H d v ∧ f d st ρ = some ρ' ∧ ∀ σ', RE W.gh K m st.length H ρ' σ' → Q σ' H
def rGs (K : PySem.W.Frag) (W : Wc) (fs : List FG) : TGs := fun vs σ H Q => ∃ m st ρ ds ρ', RS K m st H ∧ RE W.gh K m st.length H ρ σ ∧ RVs K m st.length H ds vs ∧ tgAll fs ds st ρ = some ρ' ∧ ∀ σ', RE W.gh K m st.length H ρ' σ' → Q σ' H
abbrev JG (X : Cx) (W : Wc) (e : Expr) (f : FG) : Prop := PG X e (rG X.K W f)
abbrev JGs (X : Cx) (W : Wc) (es : List Expr) (fs : List FG) : Prop := PGs X es (rGs X.K W fs)
section
variable {X : Cx} {W : Wc} {e : Expr} {es : List Expr} {f : FG} {fs : List FG} {pos p : Pos}
theorem pg_imp {t t' : TG} (h : PG X e t) (hi : ∀ v σ H Q, t' v σ H Q → t v σ H Q) : PG X e t' := ⟨fun pins s σ H v u Q I r hw => h.run pins s σ H v u Q I r (hi v σ H Q hw)⟩
theorem pgs_imp {t t' : TGs} (h : PGs X es t) (hi : ∀ v σ H Q, t' v σ H Q → t v σ H Q) : PGs X es t' := ⟨fun pins s σ H v u Q I r hw => h.run pins s σ H v u Q I r (hi v σ H Q hw)⟩
theorem jg_name {i : Nat} {x : Str} (hN : X.N.Nodup) (hi : X.N[i]? = some x) (hx : Loc X.env.scope x) (hf : X.fn x = true ∨ X.env.scope.names.lookup x = some .local := by first | exact .inl rfl | exact .inr rfl | assumption) : JG X W (.Name x pos) (tgN i) :=
  pg_imp (pg_name hN hi hx hf) fun v σ H Q ⟨m, st, ρ, d, ρ', rs, re, rv, e, h⟩ => by
    cases e
    exact h _ (re.set rv)
theorem jgs_nil : JGs X W [] [] := pgs_imp pgs_nil fun v σ H Q ⟨m, st, ρ, ds, ρ', rs, re, rv, e, h⟩ => by
  cases ds with
  | nil =>
    cases rv
    cases e
    exact ⟨rfl, h _ re⟩
  | cons _ _ => cases e
theorem jgs_cons (h1 : JG X W e f) (h2 : JGs X W es fs) (hs : (assignEach (e :: es) X.env).map (·.2) = assign e X.env :: (assignEach es X.env).map (·.2) := by rfl) : JGs X W (e :: es) (f :: fs) :=
  pgs_imp (pgs_cons h1 h2 hs) fun v σ H Q ⟨m, st, ρ, ds, ρ', rs, re, rv, e, h⟩ => by
    cases ds with
    | nil => cases e
    | cons d ds =>
      obtain ⟨x, r, rfl, r1, r2⟩ := rv
      obtain ⟨ρ1, e1, e2⟩ := Option.bind_eq_some_iff.mp (show (f d st ρ).bind (fun ρ1 => tgAll fs ds st ρ1) = some ρ' from e)
      exact ⟨x, r, rfl, m, st, ρ, d, ρ1, rs, re, r1, e1, fun σ1 re1 => ⟨m, st, ρ1, ds, ρ', rs, re1, r2, e2, h⟩⟩
theorem tgAll_len : ∀ {fs : List FG} {ds : List D} {st : S} {ρ ρ' : En}, tgAll fs ds st ρ = some ρ' → ds.length = fs.length
  | [], [], _, _, _, _ => rfl
  | [], _ :: _, _, _, _, e => by cases e
  | _ :: _, [], _, _, _, e => by cases e
  | f :: fs, d :: ds, st, ρ, ρ', e => by
    obtain ⟨ρ1, e1, e2⟩ := Option.bind_eq_some_iff.mp (show (f d st ρ).bind (fun ρ1 => tgAll fs ds st ρ1) = some ρ' from e)
    simp [tgAll_len e2]
theorem jg_tup {k : Nat} (hc : X.calm = true) (h : JGs X W es fs) (hn : (assignEach es X.env).length = fs.length := by rfl) (hst : (assignEach es X.env).findIdx? (·.1) = none := by rfl) : JG X W (.Tuple es k pos) (tgTup fs) :=
  pg_imp (pg_tup hc h hn hst) fun v σ H Q ⟨m, st, ρ, d, ρ', rs, re, rv, e, h⟩ => by
    cases d with
    | tup ds =>
      obtain ⟨a, vs, rfl, q1, q2⟩ := rv
      exact ⟨a, vs, rfl, q1, by rw [← RVs.len q2]; exact tgAll_len e, m, st, ρ, ds, ρ', rs, re, q2, e, h⟩
    | _ => cases e
end
section
variable {X : Cx} {W : Wc} {a b c e tg : Expr} {f : FS} {fa fo fi : FE} {g : FG} {ft : FT} {fs : FA} {pos p p2 pt pt2 : Pos}
theorem js_asg (he : JE X W e fa) (hg : JG X W tg g) (hs : swapsWithSole [tg] e pos.line X.env = pure false := by rfl) (hw : swappedStores [tg] e X.env = pure none := by rfl)
    (h1 : (assignEach [tg] X.env).map (·.2) = [assign tg X.env] := by rfl) : JS X W (.Assign [tg] e pos) (sAsg g fa) := by
  refine ps_imp (ps_asg he hg hs hw h1) fun E σ H h => ?_
  obtain ⟨m, st, ρ, rs, re, h⟩ := h
  refine se_bind rs re h fun d st1 m1 H1 v r1 re1 mn rv h1 => ?_
  cases q : g d st1 ρ with
  | none => simp only [q] at h1; exact h1.elim
  | some ρ1 =>
    simp only [q] at h1
    exact ⟨m1, st1, ρ, d, ρ1, r1, re1, rv, q, fun σ' re' => h1 m1 H1 σ' r1 Mn.refl re'⟩
theorem js_par {i j : Nat} {x y : Str} {px py : Pos} {kt k2 : Nat} (hc : X.calm = true) (hN : X.N.Nodup) (hi : X.N[i]? = some x) (hj : X.N[j]? = some y) (hij : i ≠ j)
    (hx : X.env.scope.names.lookup x = some .local) (hy : X.env.scope.names.lookup y = some .local) (ha : JA X W [a, b] fs)
    (hw : swappedStores [.Tuple [.Name x px, .Name y py] kt pt] (.Tuple [a, b] k2 pt2) X.env = pure (some [x, y]))
    (hs : swapsWithSole [.Tuple [.Name x px, .Name y py] kt pt] (.Tuple [a, b] k2 pt2) pos.line X.env = pure false := by rfl) :
    JS X W (.Assign [.Tuple [.Name x px, .Name y py] kt pt] (.Tuple [a, b] k2 pt2) pos) (sPar i j fs) := by
  refine ps_imp (ps_par hc hN hi hj hij hx hy ha hw hs) fun E σ H h => ?_
  obtain ⟨m, st, ρ, rs, re, h⟩ := h
  refine sa_bind rs re h fun ds st1 m1 H1 vs r1 re1 mn rv h1 => ?_
  match ds, rv, h1 with
  | [d1, d2], rv, h1 =>
    obtain ⟨v, w, rfl, q1, q2⟩ := rvs2 rv
    exact ⟨v, w, rfl, h1 m1 H1 _ r1 Mn.refl ((re1.set q1).set q2)⟩
  | [], _, h1 => exact h1.elim
  | [_], _, h1 => exact h1.elim
  | _ :: _ :: _ :: _, _, h1 => exact h1.elim
theorem js_store (ho : JE X W a fo) (hi : JE X W b fi) (he : JE X W e fa)
    (hq : ∀ v, assign (.Subscript a b p) X.env v = (do
      let ov ← holding [v] (eval a X.env)
      let iv ← holding [v, ov] (eval b X.env)
      standAt p
      holding [v, ov, iv] (setItem ov iv v)
      release [v, ov, iv] []) := by intro _; rfl)
    (hs : swapsWithSole [.Subscript a b p] e pos.line X.env = pure false := by rfl) (hw : swappedStores [.Subscript a b p] e X.env = pure none := by rfl)
    (h1 : (assignEach [.Subscript a b p] X.env).map (·.2) = [assign (.Subscript a b p) X.env] := by rfl) : JS X W (.Assign [.Subscript a b p] e pos) (sStore fo fi fa) := by
  refine ps_imp (ps_asg he (pg_sub ho hi set_list hq) hs hw h1) fun E σ H h => ?_
  obtain ⟨m, st, ρ, rs, re, h⟩ := h
  refine se_bind rs re h fun d st1 m1 H1 v r1 re1 mn1 rv h1 => ?_
  refine se_bind r1 re1 h1 fun o st2 m2 H2 vo r2 re2 mn2 rvo h2 => ?_
  refine se_bind r2 re2 h2 fun k st3 m3 H3 vi r3 re3 mn3 rvi h3 => ?_
  have ro := mn3 _ _ rvo
  have rd := mn3 _ _ (mn2 _ _ rv)
  cases q : gStore o k d st3 with
  | none => simp only [q] at h3; exact h3.elim
  | some st4 =>
    simp only [q] at h3
    unfold gStore at q
    split at q
    · obtain ⟨_, rfl⟩ := ro
      cases rvi
      split at q
      · rename_i e0
        obtain ⟨j, e1, e2⟩ := Option.map_eq_some_iff.mp q
        obtain ⟨xs, g1, g2⟩ := r3.at_ _ _ e0
        cases e2
        obtain ⟨r4, mn4⟩ := r3.write e0 (RVs.set rd j g2)
        exact ⟨_, xs, _, j, rfl, rfl, g1, by rw [← RVs.len g2]; exact e1, h3 _ _ σ r4 mn4 (re3.mono mn4)⟩
      · cases q
    · cases q
end
/-! ### loops -/
section
variable {X : Cx} {W : Wc}
/-- over anything that yields the data ds one by one -/
theorem loop_ok {K : PySem.W.Frag} {mg : Str → Option Value} {J : It} {ds : List D} {d0 : D} {v0 : V} {chk : S → Bool} {g : FG} {body : FS} {E : Ends}
    (hJ : ∀ m st H, RS K m st H → RV K m st.length H d0 v0 → chk st = true →
      (∀ i d, ds[i]? = some d → J.go i H ∧ ∀ x H', J.yld i H x H' → ∃ m', RS K m' st H' ∧ Mn K m st.length H m' st.length H' ∧ RV K m' st.length H' d x) ∧ J.stop ds.length H)
    {m : Nat → Addr} {st : S} {ρ : En} {σ : L2.St} {H : Hp} (rs : RS K m st H) (re : RE W.gh K m st.length H ρ σ) (r0 : RV K m st.length H d0 v0) (h : MeetS K mg W m st.length H (sLoop chk g body ds ρ st) E) :
    ∃ Wd : Nat → Nat → L2.St → Hp → Prop, (∃ k, Wd 0 k σ H) ∧ ∀ i k σ H, Wd i k σ H → (J.stop i H ∧ E.nx σ H) ∨ (J.go i H ∧ ∃ N : L2.St → Hp → Prop, (∀ σ' H', N σ' H' → ∃ k', k' < k ∧ Wd (i + 1) k' σ' H') ∧ ∀ x H', J.yld i H x H' → rG K W g x σ H' fun σ2 H2 => rS K mg W body { E with nx := N, ct := N, bk := E.nx } σ2 H2) := by
  refine ⟨fun i k σ H => k = ds.length - i ∧ i ≤ ds.length ∧ ∃ m st ρ, RS K m st H ∧ RE W.gh K m st.length H ρ σ ∧ RV K m st.length H d0 v0 ∧ MeetS K mg W m st.length H (sLoop chk g body (ds.drop i) ρ st) E, ⟨_, rfl, Nat.zero_le _, m, st, ρ, rs, re, r0, h⟩, ?_⟩
  rintro i k σ H ⟨rfl, hi, m, st, ρ, rs, re, r0, h⟩
  by_cases hlt : i < ds.length
  · have e : ds.drop i = ds[i] :: ds.drop (i + 1) := List.drop_eq_getElem_cons hlt
    rw [e] at h
    unfold sLoop at h
    by_cases hc : chk st = true
    · rw [if_pos hc] at h
      have hd : ds[i]? = some ds[i] := List.getElem?_eq_getElem hlt
      obtain ⟨j1, j2⟩ := (hJ m st H rs r0 hc).1 i ds[i] hd
      refine .inr ⟨j1, fun σ' H' => ∃ m st ρ, RS K m st H' ∧ RE W.gh K m st.length H' ρ σ' ∧ RV K m st.length H' d0 v0 ∧ MeetS K mg W m st.length H' (sLoop chk g body (ds.drop (i + 1)) ρ st) E, fun σ' H' z => ⟨ds.length - (i + 1), by omega, rfl, hlt, z⟩, fun x H' y => ?_⟩
      obtain ⟨m', rs', mn', rv'⟩ := j2 x H' y
      have h := MeetS.later h mn'
      have re' := re.mono mn'
      have r0' := mn' _ _ r0
      cases q : g ds[i] st ρ with
      | none => rw [q] at h; exact h.elim
      | some ρ1 =>
        rw [q] at h
        refine ⟨m', st, ρ, ds[i], ρ1, rs', re', rv', q, fun σ1 re1 => ⟨m', st, ρ1, rs', re1, ?_⟩⟩
        cases b : body ρ1 st with
        | nx ρ2 st2 =>
          simp only [b] at h
          exact fun m2 H2 σ2 r2 mn2 re2 => ⟨m2, st2, ρ2, r2, re2, mn2 _ _ r0', MeetS.later h mn2⟩
        | ct ρ2 st2 =>
          simp only [b] at h
          exact fun m2 H2 σ2 r2 mn2 re2 => ⟨m2, st2, ρ2, r2, re2, mn2 _ _ r0', MeetS.later h mn2⟩
        | bk ρ2 st2 => simp only [b] at h; exact h
        | rt d st2 => simp only [b] at h; exact h
        | ex e ρ2 st2 => simp only [b] at h; exact h
        | bad => simp only [b] at h; exact h
    · rw [if_neg hc] at h; exact h.elim
  · have e : i = ds.length := by omega
    subst e
    rw [List.drop_length] at h
    unfold sLoop at h
    by_cases hc : chk st = true
    · rw [if_pos hc] at h
      exact .inl ⟨(hJ m st H rs r0 hc).2, h m H σ rs Mn.refl re⟩
    · rw [if_neg hc] at h; exact h.elim
/-- a list or a tuple, as it comes -/
def iSeq (K : PySem.W.Frag) (tl : TE) : TI := fun σ H R => tl σ H fun x H1 => (∃ a, x = .ref a ∧ (((∃ xs, SqL K H1 a xs) ∧ R (Itl K a) H1) ∨ ((∃ xs, SqT K H1 a xs) ∧ R (Itt K a) H1))) ∨ ∃ z, x = .str z ∧ R (Its z) H1
theorem pi_seq {tg l : Expr} {tl : TE} (hl : PE X l tl) : PI X tg l (iSeq X.K tl) := by
  refine ⟨fun pins s σ H R I h => ?_⟩
  refine thn (hl.run pins s σ H _ I h) fun v s1 hh => ?_
  obtain ⟨x, H1, I1, r1, hh⟩ := hh
  rcases hh.symm with ⟨z, rfl, q⟩ | ⟨a, rfl, h2⟩
  · obtain ⟨t, rfl⟩ := r1
    cases ha : z.cps.all (· < 128)
    · exact wpAny_pyIter_wide ha (pi_one (tk := s1.toks) I1 _ (turn_str _ z t "str_iterator" (.inr rfl)) ⟨_, Heap.get?_push_size _ rfl, rfl, rfl⟩ q)
    · exact wpAny_pyIter_ascii ha (pi_one (tk := s1.toks) I1 _ (turn_str _ z t "str_ascii_iterator" (.inl rfl)) ⟨_, Heap.get?_push_size _ rfl, rfl, rfl⟩ q)
  cases r1
  have fp : ∀ b ∈ [s1.heap.objs.size], FpOk X pins H1 b := fun b hb => by
    cases List.mem_singleton.mp hb
    exact I1.fpOk (Nat.le_refl _) (I1.hok.fresh (Nat.le_refl _))
  rcases h2 with ⟨⟨xs, hq⟩, q⟩ | ⟨⟨xs, hq⟩, q⟩
  · obtain ⟨its, rv, p, hz⟩ := I1.list hq
    exact wpAny_pyIter_list p.isList ⟨_, _, _, _, H1, rfl, I1.kept (t' := s1.toks) fun b o e => Heap.get?_push_of_some _ e, turn_list a _, ⟨_, Heap.get?_push_size _ rfl, rfl, rfl⟩, fp, q⟩
  · obtain ⟨its, rv, p, hz⟩ := I1.tuple hq
    exact wpAny_pyIter_tuple (show s1.heap.IsTuple a its.toArray from p) ⟨_, _, _, _, H1, rfl, I1.kept (t' := s1.toks) fun b o e => Heap.get?_push_of_some _ e, turn_tuple a _, ⟨_, Heap.get?_push_size _ rfl, rfl, rfl⟩, fp, q⟩
variable {tg e : Expr} {sts : List Stmt} {fe : FE} {fs : FA} {g : FG} {body : FS} {ft : FT} {pos p : Pos}
theorem js_for (hp : PassesOwn (model X.prog X.w) X.A X.env X.xe) (hc : X.calm = true) (he : JE X W e fe) (hg : JG X W tg g) (hb : JB X W sts body) (hs : ∀ x, foldedSetIterable e X.env x = pure x := by intro _; rfl) : JS X W (.For tg e sts [] pos) (sFor fe g body) := by
  refine ps_imp (ps_for hp hc (pi_seq he) hg hb hs) fun E σ H h => ?_
  obtain ⟨m, st, ρ, rs, re, h⟩ := h
  refine se_bind rs re h fun d st1 m1 H1 v r1 re1 mn rv h1 => ?_
  cases d with
  | tup ds =>
    have rv0 := rv
    obtain ⟨a, vs, rfl, q1, q2⟩ := rv
    refine .inl ⟨a, rfl, .inr ⟨⟨vs, q1⟩, loop_ok (d0 := .tup ds) (v0 := .ref a) (chk := fun _ => true) (fun m st H rs r0 _ => ?_) r1 re1 rv0 h1⟩⟩
    obtain ⟨a', ws, ea, q3, q4⟩ := r0
    cases ea
    refine ⟨fun i d hi => ?_, ⟨ws, q3, by rw [RVs.len q4]; exact Nat.le_refl _⟩⟩
    obtain ⟨x, g1, g2⟩ := RVs.get q4 hi
    refine ⟨⟨ws, x, q3, g1⟩, fun y H' yl => ?_⟩
    obtain ⟨rfl, yl⟩ := yl
    have := yl ws q3
    rw [g1] at this
    cases this
    exact ⟨m, rs, Mn.refl, g2⟩
  | loc n =>
    have rv0 := rv
    obtain ⟨hn, rfl⟩ := rv
    simp only at h1
    cases q : lstAt st1 n with
    | none => simp only [q] at h1; exact h1.elim
    | some ds =>
      simp only [q] at h1
      obtain ⟨vs, g1, g2, _⟩ := lstAt_ok r1 q
      refine .inl ⟨_, rfl, .inl ⟨⟨vs, g1⟩, loop_ok (d0 := .loc n) (v0 := .ref (m1 n)) (fun m st H rs r0 hc => ?_) r1 re1 rv0 h1⟩⟩
      obtain ⟨hn', ea⟩ := r0
      have ea' : m1 n = m n := V.ref.inj ea
      obtain ⟨ws, q3, q4, _⟩ := lstAt_ok rs (of_decide_eq_true hc)
      rw [← ea'] at q3
      refine ⟨fun i d hi => ?_, ⟨ws, q3, by rw [RVs.len q4]; exact Nat.le_refl _⟩⟩
      obtain ⟨x, g1, g2⟩ := RVs.get q4 hi
      refine ⟨⟨ws, x, q3, g1⟩, fun y H' yl => ?_⟩
      obtain ⟨rfl, yl⟩ := yl
      have := yl ws q3
      rw [g1] at this
      cases this
      exact ⟨m, rs, Mn.refl, g2⟩
  | str z =>
    obtain rfl : v = .str z := rv
    refine .inr ⟨z, rfl, loop_ok (d0 := .non) (v0 := .non) (chk := fun _ => true) (fun m st H rs r0 _ => ⟨fun i d hi => ?_, ?_⟩) r1 re1 rfl h1⟩
    · unfold signs at hi
      rw [List.getElem?_map] at hi
      obtain ⟨c, e1, e2⟩ := Option.map_eq_some_iff.mp hi
      rw [Array.getElem?_toList] at e1
      refine ⟨(Array.getElem?_eq_some_iff.mp e1).1, fun x H' y => ?_⟩
      obtain ⟨rfl, c', e3, rfl⟩ := y
      rw [e1] at e3
      cases e3
      subst e2
      exact ⟨m, rs, Mn.refl, rfl⟩
    · show z.cps.size ≤ (signs z).length
      unfold signs
      rw [List.length_map, Array.length_toList]
      exact Nat.le_refl _
  | _ => exact h1.elim
theorem rng_ok {K : PySem.W.Frag} {mg : Str → Option Value} {lo hi : Int} {E : Ends} {m : Nat → Addr} {st : S} {ρ : En} {σ : L2.St} {H : Hp} (rs : RS K m st H) (re : RE W.gh K m st.length H ρ σ) (h : MeetS K mg W m st.length H (sLoop (fun _ => true) g body (rangeD lo hi) ρ st) E) :
    ∃ Wd : Nat → Nat → L2.St → Hp → Prop, (∃ k, Wd 0 k σ H) ∧ ∀ i k σ H, Wd i k σ H → ((Itr lo (hi - lo).toNat).stop i H ∧ E.nx σ H) ∨ ((Itr lo (hi - lo).toNat).go i H ∧ ∃ N : L2.St → Hp → Prop, (∀ σ' H', N σ' H' → ∃ k', k' < k ∧ Wd (i + 1) k' σ' H') ∧ ∀ x H', (Itr lo (hi - lo).toNat).yld i H x H' → rG K W g x σ H' fun σ2 H2 => rS K mg W body { E with nx := N, ct := N, bk := E.nx } σ2 H2) := by
  refine loop_ok (d0 := .non) (v0 := .non) (fun m st H rs r0 _ => ⟨fun i d hi => ?_, ?_⟩) rs re rfl h
  · have hl := (List.getElem?_eq_some_iff.mp hi).1
    unfold rangeD at hi hl
    rw [List.length_map, List.length_range] at hl
    rw [List.getElem?_map, List.getElem?_range hl] at hi
    cases hi
    refine ⟨hl, fun x H' y => ?_⟩
    obtain ⟨rfl, rfl⟩ := y
    exact ⟨m, rs, Mn.refl, rfl⟩
  · show (hi - lo).toNat ≤ (rangeD lo hi).length
    unfold rangeD
    rw [List.length_map, List.length_range]
    exact Nat.le_refl _
theorem js_forR1 {a : Expr} {pos2 : Pos} (hp : PassesOwn (model X.prog X.w) X.A X.env X.xe) (hc : X.calm = true) (hgl : Gl X "range") (hm : X.mg "range" = none) (ha : JA X W [a] fs) (hg : JG X W tg g) (hb : JB X W sts body)
    (hst : starEach [a] X.env = [(false, eval a X.env)] := by rfl) (hs : ∀ x, foldedSetIterable (.Call (.Name "range" p) [a] [] pos) X.env x = pure x := by intro _; rfl) :
    JS X W (.For tg (.Call (.Name "range" p) [a] [] pos) sts [] pos2) (sForR1 fs g body) := by
  refine ps_imp (ps_for hp hc (pi_range1 hgl hm ha hst) hg hb hs) fun E σ H h => ?_
  obtain ⟨m, st, ρ, rs, re, h⟩ := h
  refine sa_bind rs re h fun ds st1 m1 H1 vs r1 re1 mn rv h1 => ?_
  by_cases hx : ∃ j, ds = [.int j]
  · obtain ⟨j, rfl⟩ := hx
    obtain ⟨v, rfl, rfl⟩ := rvs1 rv
    simp only at h1
    by_cases hj : Small62 j
    · rw [if_pos hj] at h1
      refine ⟨j, rfl, hj.1, hj.2, ?_⟩
      have z := rng_ok (lo := 0) (hi := j) r1 re1 h1
      rw [Int.sub_zero] at z
      exact z
    · rw [if_neg hj] at h1; exact h1.elim
  · exfalso
    revert h1
    split
    · exact fun _ => hx ⟨_, rfl⟩
    · exact fun h => h
theorem js_forR2 {a b : Expr} {pos2 : Pos} (hp : PassesOwn (model X.prog X.w) X.A X.env X.xe) (hc : X.calm = true) (hgl : Gl X "range") (hm : X.mg "range" = none) (ha : JA X W [a, b] fs) (hg : JG X W tg g) (hb : JB X W sts body)
    (hst : starEach [a, b] X.env = [(false, eval a X.env), (false, eval b X.env)] := by rfl) (hst2 : starEach [b] X.env = [(false, eval b X.env)] := by rfl) (hs : ∀ x, foldedSetIterable (.Call (.Name "range" p) [a, b] [] pos) X.env x = pure x := by intro _; rfl) :
    JS X W (.For tg (.Call (.Name "range" p) [a, b] [] pos) sts [] pos2) (sForR2 fs g body) := by
  refine ps_imp (ps_for hp hc (pi_range2 hgl hm ha hst hst2) hg hb hs) fun E σ H h => ?_
  obtain ⟨m, st, ρ, rs, re, h⟩ := h
  refine sa_bind rs re h fun ds st1 m1 H1 vs r1 re1 mn rv h1 => ?_
  by_cases hx : ∃ i j, ds = [.int i, .int j]
  · obtain ⟨i, j, rfl⟩ := hx
    obtain ⟨v, w, rfl, rfl, rfl⟩ := rvs2 rv
    simp only at h1
    by_cases hj : Small62 i ∧ Small62 j
    · rw [if_pos hj] at h1
      exact ⟨i, j, rfl, ⟨hj.1.1, hj.1.2, hj.2.1, hj.2.2⟩, rng_ok r1 re1 h1⟩
    · rw [if_neg hj] at h1; exact h1.elim
  · exfalso
    revert h1
    split
    · exact fun _ => hx ⟨_, _, rfl⟩
    · exact fun h => h
theorem js_while (hp : PassesOwn (model X.prog X.w) X.A X.env X.xe) (ht : JT X W e ft) (hb : JB X W sts body) : JS X W (.While e sts [] pos) (sWhile ft body) := by
  refine ps_imp (ps_while hp ht hb) fun E σ H h => ?_
  obtain ⟨m, st, ρ, rs, re, h⟩ := h
  have hn : ∃ n, sWhile ft body ρ st = sWh ft body n ρ st := by
    unfold sWhile
    by_cases ex : ∃ n, sWh ft body n ρ st ≠ .bad
    · exact ⟨_, by rw [dif_pos ex]⟩
    · exact ⟨0, by rw [dif_neg ex]; rfl⟩
  obtain ⟨n, e⟩ := hn
  rw [e] at h
  refine ⟨fun n σ H => ∃ m st ρ, RS X.K m st H ∧ RE W.gh X.K m st.length H ρ σ ∧ MeetS X.K X.mg W m st.length H (sWh ft body n ρ st) E, ⟨n, m, st, ρ, rs, re, h⟩, ?_⟩
  rintro k σ H ⟨m, st, ρ, rs, re, h⟩
  cases k with
  | zero => exact h.elim
  | succ k =>
    unfold sWh at h
    refine st_bind rs re h fun c st1 m1 H1 r1 re1 mn h1 => ?_
    cases c with
    | false => rw [if_neg Bool.false_ne_true] at h1 ⊢; exact h1 m1 H1 σ r1 Mn.refl re1
    | true =>
      rw [if_pos rfl] at h1 ⊢
      refine ⟨fun σ H => ∃ m st ρ, RS X.K m st H ∧ RE W.gh X.K m st.length H ρ σ ∧ MeetS X.K X.mg W m st.length H (sWh ft body k ρ st) E, fun σ' H' z => ⟨k, Nat.lt_succ_self _, z⟩, m1, st1, ρ, r1, re1, ?_⟩
      cases b : body ρ st1 with
      | nx ρ2 st2 =>
        simp only [b] at h1
        exact fun m2 H2 σ2 r2 mn2 re2 => ⟨m2, st2, ρ2, r2, re2, MeetS.later h1 mn2⟩
      | ct ρ2 st2 =>
        simp only [b] at h1
        exact fun m2 H2 σ2 r2 mn2 re2 => ⟨m2, st2, ρ2, r2, re2, MeetS.later h1 mn2⟩
      | bk ρ2 st2 => simp only [b] at h1; exact h1
      | rt d st2 => simp only [b] at h1; exact h1
      | ex e ρ2 st2 => simp only [b] at h1; exact h1
      | bad => simp only [b] at h1; exact h1
end
end MP

set_option Elab.async false
set_option linter.all false
set_option maxRecDepth 100000
set_option maxHeartbeats 4000000
namespace MP
open PySem L2 PyProof.Rows StX

/-! ### defs: their denotation, what they promise -/
def den (n : Nat) (f : FS) : List D → S → Out D := fun ds st => match f (ds.map some ++ List.replicate (n - ds.length) none) st with
  | .rt d st' => .ok d st'
  | .nx _ st' => .ok .non st'
  | .ex e _ st' => .exc e st'
  | _ => .bad
/-- n arguments, no other number -/
def arN (n : Nat) (g : List D → S → Out D) : List D → S → Out D := fun ds st => if ds.length = n then g ds st else .bad
def spG (K : PySem.W.Frag) (mg : Str → Option Value) (g : List D → S → Out D) : Sp := fun vs H Q E => ∃ m st ds, RS K m st H ∧ RVs K m st.length H ds vs ∧
  Meet K mg m st.length H (g ds st) (fun d st' m' H' => ∀ v, RV K m' st'.length H' d v → Q v H') E
theorem spG_len {K : PySem.W.Frag} {mg : Str → Option Value} {n : Nat} {g : List D → S → Out D} {vs : List V} {H : Hp} {Q : VK} {E : XK} (h : spG K mg (arN n g) vs H Q E) : vs.length = n := by
  obtain ⟨m, st, ds, rs, rv, h⟩ := h
  unfold arN at h
  by_cases hl : ds.length = n
  · rw [← RVs.len rv]; exact hl
  · rw [if_neg hl] at h; exact h.elim
theorem spG_arN {K : PySem.W.Frag} {mg : Str → Option Value} {n : Nat} {g : List D → S → Out D} {vs : List V} {H : Hp} {Q : VK} {E : XK} (h : spG K mg (arN n g) vs H Q E) : spG K mg g vs H Q E := by
  obtain ⟨m, st, ds, rs, rv, h⟩ := h
  refine ⟨m, st, ds, rs, rv, ?_⟩
  unfold arN at h
  by_cases hl : ds.length = n
  · rw [if_pos hl] at h; exact h
  · rw [if_neg hl] at h; exact h.elim
/-- the wish of a def's body -/
abbrev wcE (E : XK) : Wc := { W := fun cls d _ H => E cls d H }
theorem re_start {K : PySem.W.Frag} {m : Nat → Addr} {n : Nat} {H : Hp} : ∀ {ds : List D} {vs : List V} (k : Nat), RVs K m n H ds vs → RE [] K m n H (ds.map some ++ List.replicate k none) (vs.map some ++ List.replicate k none) := by
  intro ds vs k h
  have l := RVs.len h
  refine ⟨by simp [l], fun i d e => ?_, fun p hp => nomatch hp⟩
  by_cases hi : i < ds.length
  · rw [List.getElem?_append_left (by simpa using hi), List.getElem?_map] at e
    obtain ⟨d', e1, e2⟩ := Option.map_eq_some_iff.mp e
    cases e2
    obtain ⟨v, h1, h2⟩ := RVs.get h e1
    refine ⟨v, ?_, h2⟩
    rw [List.getElem?_append_left (by rw [List.length_map, ← l]; exact hi), List.getElem?_map, h1]
    rfl
  · rw [List.getElem?_append_right (by simpa using hi), List.getElem?_replicate] at e
    split at e <;> cases e
/-- the body's denotation gives the def's reading -/
theorem body_reads {K : PySem.W.Frag} {mg : Str → Option Value} {N : List Str} {n : Nat} {f : FS} {vs : List V} {H : Hp} {Q : VK} {E : XK} (h : spG K mg (arN n (den N.length f)) vs H Q E) :
    rS K mg (wcE E) f { nx := fun _ H' => Q .non H', rt := Q } (L2.start N vs) H := by
  obtain ⟨m, st, ds, rs, rv, h⟩ := spG_arN h
  refine ⟨m, st, ds.map some ++ List.replicate (N.length - ds.length) none, rs, ?_, ?_⟩
  · have z := re_start (N.length - ds.length) rv
    unfold L2.start
    rw [← RVs.len rv]
    exact z
  · unfold den at h
    cases q : f (ds.map some ++ List.replicate (N.length - ds.length) none) st with
    | nx ρ st' => simp only [q] at h; exact fun m' H' σ r mn _ => h m' H' r mn .non rfl
    | rt d st' => simp only [q] at h; exact fun m' H' v r mn rv => h m' H' r mn v rv
    | bk ρ st' => simp only [q] at h; exact h.elim
    | ct ρ st' => simp only [q] at h; exact h.elim
    | ex e ρ st' => simp only [q] at h; exact fun m' H' σ cls od r mn _ rx => h m' H' cls od r mn rx
    | bad => simp only [q] at h; exact h
section
variable {P : Program} {w : World} {K : PySem.W.Frag} {mg : Str → Option Value} {base : Heap} {x qual : Str} {params : Arguments} {body : List Stmt} {scope : Scope} {dvs : List V} {kws : List (Str × V)} {f : Addr} {fd : FuncData}
theorem def_ok {N ps : List Str} {k : Nat} {g : FS} (F : FunD K x qual params body scope dvs kws f fd) (Sc : FnScope N ps scope)
    (hb : ∀ (cdv : Value) (A : Around) (outer : List PySem.Env) (s : Shared) (H : Hp) (E : XK), Room k (A.deeper (envOfC qual scope s.heap.objs.size f cdv)) →
      JB (cxOf (L2N.CX P w) P w K mg base N qual scope f cdv A outer s H E) (wcE E) body g) :
    FnOk P w K mg base (L2N.CX P w) (k + 1) f fd ps (spG K mg (arN ps.length (den N.length g))) :=
  F.ok Sc (fun vs H Q E h => spG_len h) fun cdv A outer s H vs Q E hr h => ⟨_, hb cdv A outer s H E hr, body_reads h⟩
theorem def_okH {N ps : List Str} {k : Nat} {g : FS} (F : FunD K x qual params body scope dvs kws f fd) (Sc : FnScope N ps scope)
    (hb : ∀ (cdv : Value) (A : Around) (outer : List PySem.Env) (s : Shared) (H : Hp) (E : XK) (p : Addr × Obj), L2H.Hot1 A p → L2H.RoomH k (A.deeper (envOfC qual scope s.heap.objs.size f cdv)) →
      JB (L2H.cxH (L2N.CX P w) P w K mg base N qual scope f cdv A outer s H E p) (wcE E) body g) :
    L2H.FnH P w K mg base (L2N.CX P w) (k + 1) f fd ps (spG K mg (arN ps.length (den N.length g))) := by
  obtain ⟨oc, od, dV, kV, doc, pm, an, cdv, ct, osl, rfl, lk, hcd, _, _⟩ := F.ex
  exact L2H.fn_ofH lk hcd Sc (fun vs H Q E h => spG_len h) fun A outer s H vs Q E p hot hr h => ⟨_, hb cdv A outer s H E p hot hr, body_reads h⟩
end

/-! ### calls -/
/-- room for a call: within an except suite (hot) or not -/
def Temp (hot : Bool) (k : Nat) (A : Around) (outer : List PySem.Env) (H : Hp) (s : Shared) : Prop := match hot with
  | false => Room k A
  | true => L2H.RoomH k A ∧ ∃ p, L2H.Hot1 A p ∧ L2H.PinOk outer H s p
def TempX (hot : Bool) (k : Nat) (X : Cx) : Prop := match hot with
  | false => Room k X.A
  | true => L2H.RoomH k X.A ∧ L2H.HotC X
theorem TempX.at {hot : Bool} {k : Nat} {X : Cx} {pins : List (Addr × Obj)} {σ : L2.St} {H : Hp} {s : Shared} (t : TempX hot k X) (I : Inv X pins σ H s) : Temp hot k X.A X.stack H s := by
  cases hot with
  | false => exact t
  | true =>
    obtain ⟨r, p, ht, hp⟩ := t
    have P1 := I.pin p (List.mem_append_left _ hp)
    exact ⟨r, p, ht, P1.1, P1.2.1, fun hm => (List.mem_cons.mp (I.stkSub p.1 hm)).elim P1.2.2.1 P1.2.2.2.1, P1.2.2.2.2⟩
theorem TempX.mono {hot : Bool} {j k : Nat} {X : Cx} (t : TempX hot k X) (h : j ≤ k) : TempX hot j X := by
  cases hot with
  | false => exact Room.mono t h
  | true => exact ⟨t.1.mono h, t.2⟩
/-- f called with positional values and the keywords ks does as g says of all these values -/
def Rn (hot : Bool) (P : Program) (w : World) (K : PySem.W.Frag) (mg : Str → Option Value) (base : Heap) (k : Nat) (f : Addr) (ks : List Str) (g : List D → S → Out D) : Prop :=
  ∀ (A : Around) (outer : List PySem.Env) (s : Shared) (H : Hp) (us ws : List Value) (vs zs : List V) (Q : VK) (E : XK), Temp hot k A outer H s → Env0 P w K mg base A outer s H → Vals vs us → Vals zs ws → ws.length = ks.length → spG K mg g (vs ++ zs) H Q E →
    codeAny (model P w) A (.call (.ref f) ⟨us, ks.zip ws⟩) (CR (L2N.CX P w) outer P w H s Q E) s
structure DefOk (hot : Bool) (P : Program) (w : World) (K : PySem.W.Frag) (mg : Str → Option Value) (base : Heap) (x : Str) (ks : List Str) (k : Nat) (g : List D → S → Out D) : Prop where
  ex : ∃ f, mg x = some (.ref f) ∧ PySem.W.keepIn K (.ref f) = true ∧ Rn hot P w K mg base k f ks g
section
variable {P : Program} {w : World} {K : PySem.W.Frag} {mg : Str → Option Value} {base : Heap} {k : Nat} {f : Addr} {fd : FuncData} {ps : List Str} {n : Nat} {g : List D → S → Out D}
theorem FnOk.temp {hot : Bool} {sp : Sp} (h : match hot with | false => FnOk P w K mg base (L2N.CX P w) k f fd ps sp | true => L2H.FnH P w K mg base (L2N.CX P w) k f fd ps sp)
    (A : Around) (outer : List PySem.Env) (s : Shared) (H : Hp) (args : Args) (us : List Value) (vs : List V) (Q : VK) (E : XK) (t : Temp hot k A outer H s) (e0 : Env0 P w K mg base A outer s H) (hb : BindsTo s fd args (ps.zip us)) (r : Vals vs us) (hs : sp vs H Q E) :
    codeAny (model P w) A (.call (.ref f) args) (CR (L2N.CX P w) outer P w H s Q E) s := by
  cases hot with
  | false => exact h.run A outer s H args us vs Q E t e0 hb r hs
  | true =>
    obtain ⟨r1, p, h1, h2⟩ := t
    exact h.run A outer s H args us vs Q E p r1 h1 h2 e0 hb r hs
/-- positional, no defaults -/
theorem rn_pos {hot : Bool} (h : match hot with | false => FnOk P w K mg base (L2N.CX P w) k f fd ps (spG K mg (arN n g)) | true => L2H.FnH P w K mg base (L2N.CX P w) k f fd ps (spG K mg (arN n g))) (hn : ps.length = n) (hb : Binds K fd ps []) : Rn hot P w K mg base k f [] (arN n g) := by
  intro A outer s H us ws vs zs Q E t e0 r rz hl hs
  have ez : ws = [] := List.length_eq_zero_iff.mp hl
  subst ez
  cases rz
  have KX : K.In s.heap := e0.mod.kin.keeps fun b o e => (e0.bs b o e).1
  rw [List.append_nil] at hs
  have l := spG_len hs
  have b := hb s us KX (by rw [List.append_nil, ← r.length, l, hn])
  rw [List.append_nil] at b
  exact FnOk.temp h A outer s H ⟨us, []⟩ us vs Q E t e0 b r hs
/-- the arguments filled up by defaults -/
def withD (n : Nat) (dds : List D) (g : List D → S → Out D) : List D → S → Out D := fun ds st =>
  if n - dds.length ≤ ds.length ∧ ds.length ≤ n then g (ds ++ dds.drop (ds.length - (n - dds.length))) st else .bad
theorem rn_dfl {hot : Bool} {dds : List D} {dvs : List V} (h : match hot with | false => FnOk P w K mg base (L2N.CX P w) k f fd ps (spG K mg (arN n g)) | true => L2H.FnH P w K mg base (L2N.CX P w) k f fd ps (spG K mg (arN n g))) (hn : ps.length = n) (hd : dds.length ≤ n)
    (hr : ∀ (m : Nat → Addr) (j : Nat) (H : Hp), RVs K m j H dds dvs) (hb : ∀ j, j ≤ dds.length → ∃ ds, Vals (dvs.drop j) ds ∧ Binds K fd ps ds) : Rn hot P w K mg base k f [] (withD n dds (arN n g)) := by
  intro A outer s H us ws vs zs Q E t e0 r rz hl hs
  have ez : ws = [] := List.length_eq_zero_iff.mp hl
  subst ez
  cases rz
  have KX : K.In s.heap := e0.mod.kin.keeps fun b o e => (e0.bs b o e).1
  rw [List.append_nil] at hs
  obtain ⟨m, st, ds, rs, rv, hm⟩ := hs
  unfold withD at hm
  by_cases hc : n - dds.length ≤ ds.length ∧ ds.length ≤ n
  · rw [if_pos hc] at hm
    obtain ⟨xs, rx, b⟩ := hb (ds.length - (n - dds.length)) (by omega)
    have sp : spG K mg (arN n g) (vs ++ dvs.drop (ds.length - (n - dds.length))) H Q E := ⟨m, st, _, rs, RVs.app rv (RVs.drop _ (hr _ _ _)), hm⟩
    have l := spG_len sp
    have r2 : Vals (vs ++ dvs.drop (ds.length - (n - dds.length))) (us ++ xs) := r.append rx
    exact FnOk.temp h A outer s H ⟨us, []⟩ (us ++ xs) _ Q E t e0 (b s us KX (by rw [← r2.length, l, hn])) r2 sp
  · rw [if_neg hc] at hm; exact hm.elim
/-- keywords: sel tells for each parameter its place among the positional values, the keywords' values, the defaults -/
def pick {α : Type} (sel : List Nat) (l : List α) : List α := sel.filterMap fun i => l[i]?
theorem pick_vals {sel : List Nat} {vs : List V} {us : List Value} (r : Vals vs us) : Vals (pick sel vs) (pick sel us) := by
  induction sel with
  | nil => exact .nil
  | cons i sel ih =>
    unfold pick
    rw [List.filterMap_cons, List.filterMap_cons]
    cases e : vs[i]? with
    | none => rw [r.none_of e]; exact ih
    | some v =>
      obtain ⟨u, h1, h2⟩ := r.get e
      rw [h1]
      exact .cons h2 ih
theorem pick_rvs {K : PySem.W.Frag} {m : Nat → Addr} {n : Nat} {H : Hp} {sel : List Nat} {ds : List D} {vs : List V} (r : RVs K m n H ds vs) : RVs K m n H (pick sel ds) (pick sel vs) := by
  induction sel with
  | nil => exact rfl
  | cons i sel ih =>
    unfold pick
    rw [List.filterMap_cons, List.filterMap_cons]
    cases e : ds[i]? with
    | none =>
      have : vs[i]? = none := by
        rw [List.getElem?_eq_none_iff] at e ⊢
        rw [← RVs.len r]; exact e
      rw [this]
      exact ih
    | some d =>
      obtain ⟨v, h1, h2⟩ := RVs.get r e
      rw [h1]
      exact ⟨v, _, rfl, h2, ih⟩
def withK (np : Nat) (dds : List D) (sel : List Nat) (g : List D → S → Out D) : List D → S → Out D := fun ds st => if ds.length = np then g (pick sel (ds ++ dds)) st else .bad
theorem rn_kw {hot : Bool} {dds : List D} {dvs : List V} {dus : List Value} {ks : List Str} {np : Nat} {sel : List Nat} (h : match hot with | false => FnOk P w K mg base (L2N.CX P w) k f fd ps (spG K mg (arN n g)) | true => L2H.FnH P w K mg base (L2N.CX P w) k f fd ps (spG K mg (arN n g))) (hn : ps.length = n)
    (hr : ∀ (m : Nat → Addr) (j : Nat) (H : Hp), RVs K m j H dds dvs) (hv : Vals dvs dus) (hb : ∀ (s : Shared) (us ws : List Value), K.In s.heap → us.length + ws.length = np → ws.length = ks.length → BindsTo s fd ⟨us, ks.zip ws⟩ (ps.zip (pick sel (us ++ ws ++ dus)))) : Rn hot P w K mg base k f ks (withK np dds sel (arN n g)) := by
  intro A outer s H us ws vs zs Q E t e0 r rz hl hs
  have KX : K.In s.heap := e0.mod.kin.keeps fun b o e => (e0.bs b o e).1
  obtain ⟨m, st, ds, rs, rv, hm⟩ := hs
  unfold withK at hm
  by_cases hc : ds.length = np
  · rw [if_pos hc] at hm
    have sp : spG K mg (arN n g) (pick sel (vs ++ zs ++ dvs)) H Q E := ⟨m, st, _, rs, pick_rvs (RVs.app rv (hr _ _ _)), hm⟩
    have r2 : Vals (pick sel (vs ++ zs ++ dvs)) (pick sel (us ++ ws ++ dus)) := pick_vals ((r.append rz).append hv)
    refine FnOk.temp h A outer s H ⟨us, ks.zip ws⟩ _ _ Q E t e0 (hb s us ws KX ?_ hl) r2 sp
    have l := RVs.len rv
    rw [List.length_append] at l
    rw [← r.length, ← rz.length, ← l, hc]
  · rw [if_neg hc] at hm; exact hm.elim
end
theorem Rn.mono {hot : Bool} {P : Program} {w : World} {K : PySem.W.Frag} {mg : Str → Option Value} {base : Heap} {j k : Nat} {f : Addr} {ks : List Str} {g : List D → S → Out D} (h : Rn hot P w K mg base j f ks g) (hk : j ≤ k) : Rn hot P w K mg base k f ks g := by
  intro A outer s H us ws vs zs Q E t
  refine h A outer s H us ws vs zs Q E ?_
  cases hot with
  | false => exact Room.mono t hk
  | true => exact ⟨t.1.mono hk, t.2⟩
section
variable {X : Cx} {W : Wc} {x : Str} {k : Nat} {ks : List Str} {g : List D → S → Out D} {p pos : Pos} {e : Expr} {es : List Expr} {kws : List Keyword} {fs fk : FA} {hot : Bool}
theorem run_rn {pins : List (Addr × Obj)} {σ : L2.St} {H : Hp} {s : Shared} {Q : VK} {f : Addr} {us ws : List Value} {vs zs : List V} (F : Rn hot X.prog X.w X.K X.mg X.base k f ks g) (hr : TempX hot k X) (tk : L2N.Takes X W.W)
    (I : Inv X pins σ H s) (r : Vals vs us) (rz : Vals zs ws) (hl : ws.length = ks.length) (h : spG X.K X.mg g (vs ++ zs) H Q (WE W.W σ)) : wpAny (model X.prog X.w) X.A (call (.ref f) us (ks.zip ws)) (EP X pins σ Q) X.xe s := by
  refine wpAny_call (codeAny_mono (F X.A X.stack s H us ws vs zs Q (WE W.W σ) (hr.at I) I.env0 r rz hl h) fun r s' hq => ?_)
  cases r with
  | error e => exact L2N.passAt tk σ pins H s e s' I hq
  | ok fl =>
    cases fl with
    | ret u => exact I.after hq
    | next => exact False.elim hq
    | brk => exact False.elim hq
    | cont => exact False.elim hq
theorem call_imp {σ : L2.St} {H : Hp} {Q : VK} (h : rE X.K X.mg W (fCall g fs) σ H Q) : rA X.K X.mg W fs σ H fun vs H1 => spG X.K X.mg g vs H1 Q (WE W.W σ) := by
  obtain ⟨m, st, ρ, rs, re, h⟩ := h
  exact ra_bind (k := fun ds st1 ρ => g ds st1) rs re h fun ds st1 m1 H1 v r1 re1 mn rv h1 => ⟨m1, st1, ds, r1, rv, h1⟩
/-- f(e, ..) -/
theorem je_call (c : DefOk hot X.prog X.w X.K X.mg X.base x [] k g) (hr : TempX hot k X) (tk : L2N.Takes X W.W) (hg : Gl X x) (ha : JA X W (e :: es) fs) (hdb : (x == ("__debug__" : Str)) = false := by decide)
    (he : starEach (e :: es) X.env = (false, eval e X.env) :: starEach es X.env := by rfl) (hpl : (backTo pos (starEach es X.env)).any (·.1) = false := by rfl) : JE X W (.Call (.Name x p) (e :: es) [] pos) (fCall g fs) := by
  obtain ⟨f, hm, hk, F⟩ := c.ex
  refine ⟨fun pins s σ H Q I h => ?_⟩
  refine wpAny_Call_Name_kw (ld_glob I hg hm ?_ hdb)
  refine PySem.W.callWith_K (h₀ := X.base) I.ok.mod.kin hk (thn (ha.run pos pins s σ H _ I (call_imp h)) fun us s1 hh => ?_) he hpl
  obtain ⟨vs, H1, I1, r, q⟩ := hh
  exact ⟨I1.kIn, run_rn (us := us) (ws := []) (zs := []) F hr tk I1 r .nil rfl (by rw [List.append_nil]; exact q)⟩
/-- f() -/
theorem je_call0 (c : DefOk hot X.prog X.w X.K X.mg X.base x [] k g) (hr : TempX hot k X) (tk : L2N.Takes X W.W) (hg : Gl X x) (hdb : (x == ("__debug__" : Str)) = false := by decide) : JE X W (.Call (.Name x p) [] [] pos) (fCall g fNil) := by
  obtain ⟨f, hm, hk, F⟩ := c.ex
  refine ⟨fun pins s σ H Q I h => ?_⟩
  refine wpAny_Call_Name_kw (ld_glob I hg hm ?_ hdb)
  obtain ⟨m, st, ρ, rs, re, h⟩ := h
  exact PySem.W.callWith_K0 I.kIn hk (run_rn (us := []) (ws := []) (vs := []) (zs := []) F hr tk I .nil .nil rfl ⟨m, st, [], rs, rfl, h⟩)
/-- keywords' values -/
abbrev JK (X : Cx) (W : Wc) (kws : List Keyword) (f : FA) : Prop := PK X kws (rA X.K X.mg W f)
theorem pk_imp {t t' : TA} (h : PK X kws t) (hi : ∀ σ H Q, t' σ H Q → t σ H Q) : PK X kws t' := ⟨fun pos pins s σ H Q I hw => h.run pos pins s σ H Q I (hi σ H Q hw)⟩
theorem jk_nil : JK X W [] fNil := pk_imp pk_nil fun σ H Q ⟨m, st, ρ, rs, re, h⟩ => h m H rs Mn.refl [] rfl
theorem jk_cons {nm : Option Str} {kpos : Pos} {fa : FE} (ha : JE X W e fa) (hr : JK X W kws fs) : JK X W (⟨nm, e, kpos⟩ :: kws) (fCons fa fs) :=
  pk_imp (pk_cons ha hr) fun σ H Q h => by
    obtain ⟨m, st, ρ, rs, re, h⟩ := h
    refine re_bind (k := fun x st1 ρ => (fs ρ st1).bind fun xs st2 => .ok (x :: xs) st2) rs re h fun x st1 m1 H1 v1 r1 re1 mn1 rv1 h1 => ?_
    refine ra_bind (k := fun xs st2 ρ => .ok (x :: xs) st2) r1 re1 h1 fun xs st2 m2 H2 v2 r2 re2 mn2 rv2 h2 => ?_
    exact h2 m2 H2 r2 Mn.refl _ ⟨_, _, rfl, mn2 _ _ rv1, rv2⟩
def fApp (a b : FA) : FA := fun ρ st => (a ρ st).bind fun xs st1 => (b ρ st1).bind fun ys st2 => .ok (xs ++ ys) st2
theorem callk_imp {σ : L2.St} {H : Hp} {Q : VK} (h : rE X.K X.mg W (fCall g (fApp fs fk)) σ H Q) : rA X.K X.mg W fs σ H fun vs H1 => rA X.K X.mg W fk σ H1 fun zs H2 => spG X.K X.mg g (vs ++ zs) H2 Q (WE W.W σ) := by
  obtain ⟨m, st, ρ, rs, re, h⟩ := h
  have e : fCall g (fApp fs fk) ρ st = (fs ρ st).bind fun xs st1 => (fk ρ st1).bind fun ys st2 => g (xs ++ ys) st2 := by
    unfold fCall fApp
    cases fs ρ st with
    | ok xs st1 => simp only [Out.bind_ok]; cases fk ρ st1 <;> rfl
    | exc _ _ => rfl
    | bad => rfl
  rw [e] at h
  refine ra_bind (k := fun xs st1 ρ => (fk ρ st1).bind fun ys st2 => g (xs ++ ys) st2) rs re h fun xs st1 m1 H1 v1 r1 re1 mn1 rv1 h1 => ?_
  refine ra_bind (k := fun ys st2 ρ => g (xs ++ ys) st2) r1 re1 h1 fun ys st2 m2 H2 v2 r2 re2 mn2 rv2 h2 => ?_
  exact ⟨m2, st2, _, r2, RVs.app (mn2.all rv1) rv2, h2⟩
theorem AP.zs_len {pins : List (Addr × Obj)} {σ : L2.St} {Q : List V → Hp → Prop} {us : List Value} {s : Shared} (h : AP X pins σ Q us s) : ∃ vs H, Inv X pins σ H s ∧ Vals vs us ∧ Q vs H := h
/-- f(e, .., k = v, ..) -/
theorem je_callK {nk : Nat} (c : DefOk hot X.prog X.w X.K X.mg X.base x ks k g) (hr : TempX hot k X) (tk : L2N.Takes X W.W) (hg : Gl X x) (ha : JA X W (e :: es) fs) (hkw : JK X W kws fk) (hfl : FLen fk ks.length)
    (hall : (backToKw pos (keywordEach kws X.env)).all (·.1.isSome) = true := by rfl) (hks : (backToKw pos (keywordEach kws X.env)).filterMap (·.1) = ks := by rfl)
    (hdb : (x == ("__debug__" : Str)) = false := by decide) (he : starEach (e :: es) X.env = (false, eval e X.env) :: starEach es X.env := by rfl)
    (hpl : ((backTo pos (starEach (e :: es) X.env)).any (·.1) || (backToKw pos (keywordEach kws X.env)).any (·.1.isNone)) = false := by rfl) : JE X W (.Call (.Name x p) (e :: es) kws pos) (fCall g (fApp fs fk)) := by
  obtain ⟨f, hm, hk, F⟩ := c.ex
  refine ⟨fun pins s σ H Q I h => ?_⟩
  refine wpAny_Call_Name_kw (ld_glob I hg hm ?_ hdb)
  refine PySem.W.callWith_KW (h₀ := X.base) I.ok.mod.kin hk hall (thn (ha.run pos pins s σ H _ I (callk_imp h)) fun us s1 hh => ?_) hpl he
  obtain ⟨vs, H1, I1, r, q⟩ := hh
  have q' : rA X.K X.mg W fk σ H1 fun zs H2 => zs.length = ks.length ∧ spG X.K X.mg g (vs ++ zs) H2 Q (WE W.W σ) := by
    obtain ⟨m, st, ρ, rs, re, q⟩ := q
    refine ⟨m, st, ρ, rs, re, ?_⟩
    cases e : fk ρ st with
    | ok ds st1 => rw [e] at q; exact fun m1 H1 r1 mn zs rv => ⟨by rw [← RVs.len rv]; exact hfl _ _ _ _ e, q m1 H1 r1 mn zs rv⟩
    | exc _ _ => rw [e] at q; exact q
    | bad => rw [e] at q; exact q
  refine thn (hkw.run pos pins s1 σ H1 _ I1 q') fun ws s2 hh => ?_
  obtain ⟨zs, H2, I2, rz, l, q2⟩ := hh
  refine ⟨I2.kIn, ?_⟩
  rw [hks]
  exact run_rn F hr tk I2 r rz (by rw [← rz.length]; exact l) q2
/-- f(k = v, ..) -/
theorem je_callK0 (c : DefOk hot X.prog X.w X.K X.mg X.base x ks k g) (hr : TempX hot k X) (tk : L2N.Takes X W.W) (hg : Gl X x) (hkw : JK X W kws fk) (hfl : FLen fk ks.length)
    (hall : (backToKw pos (keywordEach kws X.env)).all (·.1.isSome) = true := by rfl) (hks : (backToKw pos (keywordEach kws X.env)).filterMap (·.1) = ks := by rfl)
    (hdb : (x == ("__debug__" : Str)) = false := by decide)
    (hpl : ((backTo pos (starEach [] X.env)).any (·.1) || (backToKw pos (keywordEach kws X.env)).any (·.1.isNone)) = false := by rfl) : JE X W (.Call (.Name x p) [] kws pos) (fCall g fk) := by
  obtain ⟨f, hm, hk, F⟩ := c.ex
  refine ⟨fun pins s σ H Q I h => ?_⟩
  refine wpAny_Call_Name_kw (ld_glob I hg hm ?_ hdb)
  have q' : rA X.K X.mg W fk σ H fun zs H2 => zs.length = ks.length ∧ spG X.K X.mg g zs H2 Q (WE W.W σ) := by
    obtain ⟨m, st, ρ, rs, re, q⟩ := call_imp h
    refine ⟨m, st, ρ, rs, re, ?_⟩
    cases e : fk ρ st with
    | ok ds st1 => rw [e] at q; exact fun m1 H1 r1 mn zs rv => ⟨by rw [← RVs.len rv]; exact hfl _ _ _ _ e, q m1 H1 r1 mn zs rv⟩
    | exc _ _ => rw [e] at q; exact q
    | bad => rw [e] at q; exact q
  refine PySem.W.callWith_KW0 (h₀ := X.base) I.ok.mod.kin hk hall (thn (hkw.run pos pins s σ H _ I q') fun ws s2 hh => ?_) hpl
  obtain ⟨zs, H2, I2, rz, l, q2⟩ := hh
  refine ⟨I2.kIn, ?_⟩
  rw [hks]
  exact run_rn (us := []) (vs := []) F hr tk I2 .nil rz (by rw [← rz.length]; exact l) q2
end
/-! ### defs with a star parameter -/
section
theorem cxUpN {P : Program} {w : World} : CXUp (L2N.CX P w) := by
  intro outer s H s2 H2 E e s' un k os h
  obtain ⟨a, B, H', cls, d, rfl, fl, hok, ub, na, os', ag, hE⟩ := h
  refine ⟨a, B, H', cls, d, rfl, fl, hok, ⟨fun b o e n hb => ?_, fun b o e hb => ?_, fun b o e n => ?_, fun b o e hb => ?_, fun b xs e => ub.tups b xs (un.tups b xs e), fun b o xs e => ub.frzs b o xs (un.frzs b o xs e), fun b ps e => ?_⟩, na, os'.trans os, ag, hE⟩
  · exact ub.keep b o (k b o e) (un.free b o e n (by simp)) hb
  · exact ub.slot b o (k b o e) hb
  · exact ub.free b o (k b o e) (un.free b o e n (by simp))
  · exact ub.there b o (k b o e) hb
  · obtain ⟨m1, e1⟩ := un.tbls b ps e
    obtain ⟨m2, e2⟩ := ub.tbls b _ e1
    exact ⟨m1 ++ m2, by rw [e2, Array.append_assoc]⟩
variable {P : Program} {w : World} {K : PySem.W.Frag} {mg : Str → Option Value} {base : Heap} {x qual : Str} {params : Arguments} {body : List Stmt} {scope : Scope} {f : Addr} {fd : FuncData}
/-- n parameters, then the rest as a tuple -/
def withR (n : Nat) (g : List D → S → Out D) : List D → S → Out D := fun ds st => if n ≤ ds.length ∧ ds.length ≤ 1000 then g (ds.take n ++ [.tup (ds.drop n)]) st else .bad
theorem def_star {N ps : List Str} {pv : Str} {k : Nat} {g : FS} (F : FunD K x qual params body scope [] [] f fd) (Sc : FnScope N (ps ++ [pv]) scope)
    (hbind : ∀ (kV doc pm : Value) (an : Option Addr) (cdv ct : Value) (us rest : List Value), us.length = ps.length → bindArgs (PySem.W.fnOf x qual params body scope .none kV doc pm an cdv ct) ⟨us ++ rest, []⟩ = (newTuple rest >>= fun t => pure (ps.zip us ++ [(pv, t)])))
    (hb : ∀ (cdv : Value) (A : Around) (outer : List PySem.Env) (s : Shared) (H : Hp) (E : XK), Room k (A.deeper (envOfC qual scope s.heap.objs.size f cdv)) →
      JB (cxOf (L2N.CX P w) P w K mg base N qual scope f cdv A outer s H E) (wcE E) body g) :
    Rn false P w K mg base (k + 1) f [] (withR ps.length (arN (ps.length + 1) (den N.length g))) := by
  obtain ⟨oc, od, dV, kV, doc, pm, an, cdv, ct, osl, rfl, lk, hcd, hD, _⟩ := F.ex
  have edv : dV = .none := by
    rcases hD with ⟨_, e⟩ | ⟨e, _⟩
    · exact e
    · exact absurd rfl e
  subst edv
  have R := fn_star (sp := spG K mg (arN (ps.length + 1) (den N.length g))) (k := k) lk hcd Sc (cxUpN (P := P) (w := w)) (fun us rest hl => hbind kV doc pm an cdv ct us rest hl) fun A outer s H vs Q E hr h => ⟨_, hb cdv A outer s H E hr, body_reads h⟩
  intro A outer s H us ws vs zs Q E t e0 r rz hl hs
  have ez : ws = [] := List.length_eq_zero_iff.mp hl
  subst ez
  cases rz
  rw [List.append_nil] at hs
  obtain ⟨m, st, ds, rs, rv, hm⟩ := hs
  unfold withR at hm
  by_cases hc : ps.length ≤ ds.length ∧ ds.length ≤ 1000
  · rw [if_pos hc] at hm
    have l := RVs.len rv
    refine R A outer s H us vs Q E t e0 r ⟨vs.take ps.length, vs.drop ps.length, (List.take_append_drop _ _).symm, by rw [List.length_take]; omega, ?_, fun q hq => ?_⟩
    · rw [List.length_drop]
      exact Nat.le_trans (Nat.sub_le _ _) (Nat.le_of_lt (small1000 (by omega)))
    · obtain ⟨r2, mn⟩ := rs.laid (o := .tup (vs.drop ps.length)) hq
      have rt : RV K m st.length (upd H q (.tup (vs.drop ps.length))) (.tup (ds.drop ps.length)) (.ref q) := ⟨q, _, rfl, SqT.of upd_same, RVs.drop _ (mn.all rv)⟩
      exact ⟨m, st, _, r2, RVs.app (RVs.take _ (mn.all rv)) (RVs.one rt), Meet.later hm mn⟩
  · rw [if_neg hc] at hm; exact hm.elim
end
end MP

set_option Elab.async false
set_option linter.all false
set_option maxRecDepth 100000
set_option maxHeartbeats 4000000
/-! MPX1: an own exception class over ValueError whose __init__ says super().__init__('text') and stores its arguments: what is
to be seen of it in the written part (a Bool), and what a call of the class makes. -/
namespace MP
open PySem PySem.W PySem.Calls PyProof.Rows PySem.HandSPX

/-! ### what is to be seen -/
def ini : List Str → List Stmt → Bool
  | [], [] => true
  | f :: r, .Assign [.Attribute (.Name s _) g _] (.Name h _) _ :: b => s == ("self" : Str) && (g == f && (h == f && ini r b))
  | _, _ => false
def iniB (fs : List Str) : List Stmt → Bool
  | .Expr (.Call (.Attribute (.Call (.Name s _) [] [] _) i p) [.Constant (.str _) _ _] [] p') _ :: b => s == ("super" : Str) && (i == ("__init__" : Str) && (p.endLine == p'.line && ini fs b))
  | _ => false
def iniS (fs : List Str) (sc : Scope) : Bool :=
  decide (sc.kind = .function) && (!sc.isGenerator && (!sc.isCoroutine && ((("self" : Str) :: fs).all (fun x => decide (sc.names.lookup x = some .local)) &&
    (decide (sc.names.lookup ("super" : Str) = some .globalImplicit) && (decide (sc.names.lookup ("__class__" : Str) = some .free) && sc.names.all fun x => decide (x.2 ≠ .cell))))))
def iniP (fs : List Str) (a : Arguments) : Bool := match a with
  | ⟨[], as, none, [], [], none, []⟩ => decide (as.map (·.arg) = ("self" : Str) :: fs)
  | _ => false
def iniC (K : Frag) (file : Str) (cdv : Value) (q : Str) : Bool := codeIn K cdv q && (match cdv with
  | .ref c => (match K.lookup c with
    | some ⟨_, _, .fields vs, _⟩ => (match vs[2]? with
      | some (Value.str x _) => x == file
      | _ => false)
    | _ => false)
  | _ => false)
/-- the function at fI is such an __init__, its cell holds C -/
def iniF (K : Frag) (file : Str) (C fI : Addr) (fs : List Str) : Bool := match K.lookup fI with
  | some ⟨_, _, .func fd, _⟩ => (match fd.body, fd.closure, fd.defaults with
    | .stmts b, [(x, cc)], .none => x == ("__class__" : Str) && (decide (fd.globals = mainGlobals) && (decide (fd.builtins = builtinsNs) && (iniB fs b && (iniS fs fd.scope && (iniP fs fd.params && (iniC K file fd.code fd.qualname &&
        (match K.lookup cc with
          | some ⟨_, _, .cell (some (.ref C')), _⟩ => decide (C' = C)
          | _ => false)))))))
    | _, _, _ => false)
  | _ => false
def exS (o : Option (Option Value)) (w : Option Value) : Bool := decide (o = some w)
/-- such a class at C -/
def excX (K : Frag) (file : Str) (C fI : Addr) (fs : List Str) : Bool :=
  (match K.lookup C with
    | some ⟨.type "type", _, .cls cd, sl⟩ => (match cd.mro, sl.toList with
      | .ref C' :: bm, [_, _, _, _, some (.builtin n), _] => decide (C' = C) && (n == "ValueError.__new__" && (!cd.hasDel && (cd.hasDict && (refsVE bm && exS (alongIn K "__init__" bm) (some (.builtin "ValueError.__init__"))))))
      | _, _ => false)
    | _ => false) &&
  (exS (findIn K (.ref C) "__setattr__") (some (.builtin "object.__setattr__")) && (exS (findIn K (.ref C) "__getattribute__") (some (.builtin "BaseException.__getattribute__")) && (exS (findIn K (.ref C) "__getattr__") none &&
    (exS (findIn K (.ref C) "__init__") (some (.ref fI)) && (decide (typeIn K (.ref fI) = some (.type "function")) && (keepIn K (.ref C) && (decide (subIn K (.ref C) (.type "BaseException") = some true) &&
      (decide (typeIn K (.ref C) = some (.type "type")) && (exS (nsIn K cStatics "thirdparty.any") none && (fs.all (fun f => exS (findIn K (.ref C) f) none) && iniF K file C fI fs))))))))))

structure ExC (K : Frag) (file : Str) (C fI : Addr) (fs : List Str) : Prop where
  cls : ∃ nm q N bs bm sn sub ab col dd k0 k1 k2 k3 k5, K.lookup C = some (excClassObj nm q C N bs bm true sn sub ab col dd k0 k1 k2 k3 k5 "ValueError.__new__") ∧ refsVE bm = true ∧ alongIn K "__init__" bm = some (some (.builtin "ValueError.__init__"))
  sa : findIn K (.ref C) "__setattr__" = some (some (.builtin "object.__setattr__"))
  ga : findIn K (.ref C) "__getattribute__" = some (some (.builtin "BaseException.__getattribute__"))
  gg : findIn K (.ref C) "__getattr__" = some none
  iC : findIn K (.ref C) "__init__" = some (some (.ref fI))
  tC : typeIn K (.ref fI) = some (.type "function")
  kC : keepIn K (.ref C) = true
  exC : subIn K (.ref C) (.type "BaseException") = some true
  tyC : typeIn K (.ref C) = some (.type "type")
  opq : nsIn K cStatics "thirdparty.any" = some none
  noF : ∀ f ∈ fs, findIn K (.ref C) f = some none
  fn : iniF K file C fI fs = true
theorem exS_ok {o : Option (Option Value)} {w : Option Value} (h : exS o w = true) : o = some w := of_decide_eq_true h
theorem aa {a b : Bool} (h : (a && b) = true) : a = true ∧ b = true := Bool.and_eq_true_iff.mp h
theorem excX_ok {K : Frag} {file : Str} {C fI : Addr} {fs : List Str} (h : excX K file C fI fs = true) : ExC K file C fI fs := by
  unfold excX at h
  obtain ⟨h0, h⟩ := aa h
  obtain ⟨h1, h⟩ := aa h
  obtain ⟨h2, h⟩ := aa h
  obtain ⟨h3, h⟩ := aa h
  obtain ⟨h4, h⟩ := aa h
  obtain ⟨h5, h⟩ := aa h
  obtain ⟨h6, h⟩ := aa h
  obtain ⟨h7, h⟩ := aa h
  obtain ⟨h8, h⟩ := aa h
  obtain ⟨h9, h⟩ := aa h
  obtain ⟨h10, h11⟩ := aa h
  refine ⟨?_, exS_ok h1, exS_ok h2, exS_ok h3, exS_ok h4, of_decide_eq_true h5, h6, of_decide_eq_true h7, of_decide_eq_true h8, exS_ok h9, fun f hf => exS_ok (List.all_eq_true.mp h10 f hf), h11⟩
  split at h0
  · rename_i dd cd sl ho
    split at h0
    · rename_i C' bm k0 k1 k2 k3 n k5 hm hs
      obtain ⟨g0, h0⟩ := aa h0
      obtain ⟨g1, h0⟩ := aa h0
      obtain ⟨g2, h0⟩ := aa h0
      obtain ⟨g3, h0⟩ := aa h0
      obtain ⟨g4, g5⟩ := aa h0
      have e0 : C' = C := of_decide_eq_true g0
      have e1 : n = "ValueError.__new__" := beq_iff_eq.mp g1
      subst e0 e1
      obtain ⟨nm, bs, mro, ns, qn, hd, sn, sub, ab, col, del⟩ := cd
      dsimp only at hm g2 g3
      subst hm g3
      have e2 : del = false := by cases del <;> simp at g2 ⊢
      subst e2
      have hsl : sl = #[k0, k1, k2, k3, some (.builtin "ValueError.__new__"), k5] := by
        obtain ⟨l⟩ := sl
        simp only at hs
        rw [hs]
      subst hsl
      exact ⟨nm, qn, ns, bs, bm, sn, sub, ab, col, dd, k0, k1, k2, k3, k5, ho, g4, exS_ok g5⟩
    · cases h0
  · cases h0

/-! ### super().__init__('text') -/
section
variable {prog : Program} {w : World} {A : Around} {E : Value → Shared → Prop} {h : Heap} {g : Array GenState} {d : Drawn} {t : Nat} {os : OsState}
variable {nm q : Str} {C N : Addr} {bs bm : List Value} {hdct : Bool} {sn : List Str} {sub : List Value} {ab : Bool} {col : Option Bool} {dd : Option Addr} {k0 k1 k2 k3 k5 : Option Value}
theorem call_mw {u e t0 : Addr} {rest : List Value} {Q : Value → Shared → Prop}
    (hC : h.get? C = some (excClassObj nm q C N bs bm hdct sn sub ab col dd k0 k1 k2 k3 k5 "ValueError.__new__")) (he : h.get? e = some (excO C t0)) (hu : h.get? u = some (kxs_mw "ValueError.__init__" e)) (hrest : rest.length ≤ sizeLine)
    (hq : ∀ h' t1, (∀ b o, b ≠ e → h.get? b = some o → h'.get? b = some o) → h'.get? e = some (excO C t1) → Q .none ⟨h', g, d, t, os⟩) :
    wpAny (model prog w) A (call (.ref u) rest) Q E ⟨h, g, d, t, os⟩ := by
  refine wpAny_call (codeAny_of_tree ?_)
  show wpAny _ A.in1 (callAny (.ref u) ⟨rest, []⟩) _ _ _
  simp only [callAny]
  refine wpAny_bind (wpAny_load hu ?_)
  simp only [kxs_mw, show (Value.type "method-wrapper" == Value.type "method" || Value.type "method-wrapper" == Value.type "builtin_function_or_method" || Value.type "method-wrapper" == Value.type "method-wrapper") = true by decide, if_true]
  refine W.KFB.if_so (by decide) ?_
  refine wpAny_bind (ESX.check_bound F.excBase_ValueError hC he rfl ?_)
  refine wpAny_bind (wpAny_pure (wpAny_pure ?_))
  refine ⟨Code.quiet_builtin _ (by decide +kernel), codeAny_builtin F.excBase_ValueError.initEntry ?_⟩
  rw [Around.under_plainId F.excBase_ValueError.init.plain _]
  wp_walk
  refine hq _ h.objs.size (fun b o hb ho => ?_) ?_
  · rw [Heap.get?_update_other _ _ (Ne.symm hb)]
    exact Heap.get?_push_of_some _ ho
  · rw [Heap.get?_update_self _ (Heap.get?_push_of_some _ he) rfl]
    rfl
end

theorem iniP_ok {fs : List Str} {a : Arguments} (h : iniP fs a = true) : ∃ as, a = ⟨[], as, none, [], [], none, []⟩ ∧ as.map (·.arg) = ("self" : Str) :: fs := by
  unfold iniP at h
  split at h
  · exact ⟨_, rfl, of_decide_eq_true h⟩
  · cases h
theorem iniC_ok {K : Frag} {file : Str} {cdv : Value} {q : Str} (h : iniC K file cdv q = true) :
    codeIn K cdv q = true ∧ ∃ c oc od vs sl tf, cdv = .ref c ∧ K.lookup c = some ⟨oc, od, .fields vs, sl⟩ ∧ vs[2]? = some (.str file tf) := by
  obtain ⟨h1, h2⟩ := aa h
  refine ⟨h1, ?_⟩
  cases cdv with
  | ref c =>
    simp only at h2
    cases e : K.lookup c with
    | none => rw [e] at h2; cases h2
    | some ob =>
      obtain ⟨oc, od, dt, sl⟩ := ob
      rw [e] at h2
      cases dt with
      | fields vs =>
        simp only at h2
        cases e2 : vs[2]? with
        | none => rw [e2] at h2; cases h2
        | some v =>
          rw [e2] at h2
          cases v with
          | str x tf =>
            have e3 : x = file := beq_iff_eq.mp h2
            subst e3
            exact ⟨c, oc, od, vs, sl, tf, rfl, e, e2⟩
          | _ => cases h2
      | _ => cases h2
  | _ => cases h2
/-- the statements that store -/
def mOf : List (Str × Value) → Str → Option Value
  | [] => fun _ => none
  | (f, v) :: r => fun y => if y = f then some v else mOf r y
theorem mOf_in : ∀ l : List (Str × Value), Within (mOf l) (l.map (·.1))
  | [] => Within.nil
  | (f, v) :: r => Within.cons f v (mOf_in r)
/-- what __init__ leaves of a fresh exception at x -/
structure InitEnd (h h' : Heap) (x C dx t1 : Addr) (l : List (Str × Value)) : Prop where
  keep : ∀ b o, b ≠ x → h.get? b = some o → h'.get? b = some o
  obj : h'.get? x = some { cls := .ref C, dict := some dx, data := .fields #[.ref t1, .none, .none, .none, .bool false, .none] }
  dbig : h.objs.size ≤ dx
  dne : dx ≠ x
  ns : h'.Ns1 dx (mOf l)
section
variable {prog : Program} {w : World} {A : Around} {E : Value → Shared → Prop} {R : Flow → Shared → Prop} {K : Frag} {file : Str} {C fI x L : Addr} {fs : List Str} {env : Env} {m : Str → Option Value}
theorem ldF {M : Model} {s : Shared} {pos : Pos} {y : Str} {v : Value} {Q : Value → Shared → Prop} (hk : env.scope.kind = .function) (hl : env.kindOf y = some .local) (hn : s.heap.Ns env.locals m) (hv : m y = some v) (hd : (y == ("__debug__" : Str)) = false) (h : Q v s) :
    wpAny M A (eval (.Name y pos) env) Q E s := wpAny_Name (wpAny_loadName_local hk hl hn hv h) hd
theorem ns_but {h h' : Heap} {a L : Addr} {m : Str → Option Value} (hn : h.Ns L m) (ha : L ≠ a) (k : ∀ b o, b ≠ a → h.get? b = some o → h'.get? b = some o) : h'.Ns L m := by
  obtain ⟨o, es, ep, ho, r⟩ := hn
  exact ⟨o, es, ep, k _ _ ha ho, r⟩
theorem kept_but {h h' : Heap} {x : Addr} (X : K.In h) (hx : K.lookup x = none) (k : ∀ b o, b ≠ x → h.get? b = some o → h'.get? b = some o) : K.In h' := fun a o e =>
  k a o (fun z => by rw [z, hx] at e; cases e) (X a o e)
/-- the further fields -/
theorem stores (T : ExC K file C fI fs) (hk : env.scope.kind = .function) (hself : env.kindOf "self" = some .local) (hms : m "self" = some (.ref x)) (hxL : x ≠ env.locals) (hnx : K.lookup x = none) :
    ∀ (r : List Str) (b : List Stmt) (vs : List Value) (l : List (Str × Value)) (s : Shared) (dx : Addr) (t1 : Addr),
      ini r b = true → (∀ f ∈ r, f ∈ fs ∧ env.kindOf f = some .local ∧ (f == ("__debug__" : Str)) = false) → r.map m = vs.map some → l.length + r.length ≤ 900 → s.heap.Ns env.locals m → K.In s.heap →
      s.heap.get? x = some { cls := .ref C, dict := some dx, data := .fields #[.ref t1, .none, .none, .none, .bool false, .none] } → dx ≠ x → dx ≠ env.locals → K.lookup dx = none → s.heap.Ns1 dx (mOf l) →
      (∀ h' tk, (∀ b o, b ≠ dx → s.heap.get? b = some o → h'.get? b = some o) → h'.Ns1 dx (mOf ((r.zip vs).reverse ++ l)) → R .next { s with heap := h', toks := tk }) →
      wpAny (model prog w) A (execs b env) R E s
  | [], [], vs, l, s, dx, t1, hi, _, hv, _, _, _, _, _, _, _, hd, hq => wpAny_execs_nil (hq s.heap s.toks (fun _ _ _ e => e) (by simpa using hd))
  | [], _ :: _, _, _, _, _, _, hi, _, _, _, _, _, _, _, _, _, _, _ => by simp [ini] at hi
  | f :: r, [], _, _, _, _, _, hi, _, _, _, _, _, _, _, _, _, _, _ => by simp [ini] at hi
  | f :: r, st :: b, [], _, _, _, _, _, _, hv, _, _, _, _, _, _, _, _, _ => by simp at hv
  | f :: r, st :: b, v :: vs, l, s, dx, t1, hi, hf, hv, hl, hn, X, hx, dne, dnl, hdx, hd, hq => by
    unfold ini at hi
    split at hi
    · rename_i e1 _
      cases e1
    · rename_i f0 r0 s0 p0 g0 p1 h0 p2 p3 b0 e1 e2
      cases e1
      cases e2
      obtain ⟨q1, i1⟩ := aa hi
      obtain ⟨q2, i2⟩ := aa i1
      obtain ⟨q3, i3⟩ := aa i2
      have q1 := beq_iff_eq.mp q1
      have q2 := beq_iff_eq.mp q2
      have q3 := beq_iff_eq.mp q3
      subst q1 q2 q3
      obtain ⟨nm, q, N, bs, bm, sn, sub, ab, col, dd, k0, k1, k2, k3, k5, hC, hbm, _⟩ := T.cls
      have hcl : clsIn K C = some { name := nm, bases := bs, mro := .ref C :: bm, ns := N, qualname := q, hasDict := true, slotNames := sn, subclasses := sub, abstract := ab, collection := col, hasDel := false } := by unfold clsIn; rw [hC] <;> rfl
      obtain ⟨hf1, hf2⟩ := List.forall_mem_cons.mp hf
      rw [List.map_cons, List.map_cons] at hv
      obtain ⟨hv1, hv2⟩ := List.cons.inj hv
      refine wpAny_execs_cons (plainObj_wpAny_Assign_Attribute (ldF hk hf1.2.1 hn hv1 hf1.2.2 (ldF hk hself hn hms (by decide) ?_)))
      obtain ⟨oD, _, _, hoD, _, _⟩ := hd.count (mOf_in l)
      refine set_plain X (ox := { cls := .ref C, dict := some dx, data := .fields #[.ref t1, .none, .none, .none, .bool false, .none] }) (od := some oD) ⟨hx, rfl, rfl, hoD⟩ T.sa ?_
      obtain ⟨hp, g, d, t, os⟩ := s
      refine OEX.osa_old X hx hd (mOf_in l) (by rw [List.length_map]; simp only [List.length_cons] at hl; omega) hcl (show refsVE (.ref C :: bm) = true from hbm) rfl (T.noF _ hf1.1) (fun h' tk' k hn' => ?_)
      refine stores T hk hself hms hxL hnx _ _ vs ((_, v) :: l) ⟨h', g, d, tk', os⟩ dx t1 i3 hf2 hv2 (by simp only [List.length_cons] at hl ⊢; omega) (ns_but hn (Ne.symm dnl) k) (kept_but X hdx k) (k _ _ (Ne.symm dne) hx) dne dnl hdx hn' (fun h2 tk2 k2 hn2 => ?_)
      refine hq h2 tk2 (fun b o hb e => k2 b o hb (k b o hb e)) ?_
      rw [List.zip_cons_cons, List.reverse_cons, List.append_assoc]
      exact hn2
    · cases hi
end

section
variable {prog : Program} {w : World} {A : Around} {E : Value → Shared → Prop} {R : Flow → Shared → Prop} {K : Frag} {file : Str} {C fI x L : Addr} {fs : List Str} {env : Env} {m : Str → Option Value}
theorem lookup_big {h : Heap} {a : Addr} (X : K.In h) (ha : h.objs.size ≤ a) : K.lookup a = none := by
  cases e : K.lookup a with
  | none => rfl
  | some o => exact absurd (Heap.lt_size (X _ _ e)) (Nat.not_lt.mpr ha)
/-- the first field -/
theorem stores0 (T : ExC K file C fI fs) (hk : env.scope.kind = .function) (hself : env.kindOf "self" = some .local) (hms : m "self" = some (.ref x)) (hxL : x ≠ env.locals) (hnx : K.lookup x = none)
    {r : List Str} {b : List Stmt} {vs : List Value} {s : Shared} {t1 : Addr} (hne : r ≠ []) (hi : ini r b = true) (hf : ∀ f ∈ r, f ∈ fs ∧ env.kindOf f = some .local ∧ (f == ("__debug__" : Str)) = false) (hv : r.map m = vs.map some) (hl : r.length ≤ 900)
    (hn : s.heap.Ns env.locals m) (X : K.In s.heap) (hx : s.heap.get? x = some (excO C t1))
    (hq : ∀ h' tk dx, (∀ b o, b ≠ x → s.heap.get? b = some o → h'.get? b = some o) → h'.get? x = some { cls := .ref C, dict := some dx, data := .fields #[.ref t1, .none, .none, .none, .bool false, .none] } → s.heap.objs.size ≤ dx → dx ≠ x →
      h'.Ns1 dx (mOf (r.zip vs).reverse) → R .next { s with heap := h', toks := tk }) :
    wpAny (model prog w) A (execs b env) R E s := by
  cases r with
  | nil => exact absurd rfl hne
  | cons f r =>
    cases vs with
    | nil => simp at hv
    | cons v vs =>
      unfold ini at hi
      split at hi
      · rename_i e1
        cases e1
      · rename_i f0 r0 s0 p0 g0 p1 h0 p2 p3 b0 e1
        cases e1
        obtain ⟨q1, i1⟩ := aa hi
        obtain ⟨q2, i2⟩ := aa i1
        obtain ⟨q3, i3⟩ := aa i2
        have q1 := beq_iff_eq.mp q1
        have q2 := beq_iff_eq.mp q2
        have q3 := beq_iff_eq.mp q3
        subst q1 q2 q3
        obtain ⟨nm, q, N, bs, bm, sn, sub, ab, col, dd, k0, k1, k2, k3, k5, hC, hbm, _⟩ := T.cls
        have hcl : clsIn K C = some { name := nm, bases := bs, mro := .ref C :: bm, ns := N, qualname := q, hasDict := true, slotNames := sn, subclasses := sub, abstract := ab, collection := col, hasDel := false } := by unfold clsIn; rw [hC] <;> rfl
        obtain ⟨hf1, hf2⟩ := List.forall_mem_cons.mp hf
        rw [List.map_cons, List.map_cons] at hv
        obtain ⟨hv1, hv2⟩ := List.cons.inj hv
        refine wpAny_execs_cons (plainObj_wpAny_Assign_Attribute (ldF hk hf1.2.1 hn hv1 hf1.2.2 (ldF hk hself hn hms (by decide) ?_)))
        refine set_plain X (ox := excO C t1) (od := none) ⟨hx, rfl, rfl, trivial⟩ T.sa ?_
        obtain ⟨hp, g, d, t, os⟩ := s
        refine exc_osa X hx hcl (show refsVE (.ref C :: bm) = true from hbm) rfl (T.noF _ hf1.1) (fun h' tk' dx k dn dne hx' hn' => ?_)
        have hLlt : env.locals < hp.objs.size := by
          obtain ⟨o, es, ep, ho, _⟩ := hn
          exact Heap.lt_size ho
        have dnl : dx ≠ env.locals := Nat.ne_of_gt (Nat.lt_of_lt_of_le hLlt dn)
        refine stores T hk hself hms hxL hnx _ _ vs [(_, v)] ⟨h', g, d, tk', os⟩ dx t1 i3 hf2 hv2 (by simp only [List.length_cons, List.length_nil] at hl ⊢; omega) (ns_but hn (Ne.symm hxL) k) (kept_but X hnx k) hx' dne dnl (lookup_big X dn) hn' (fun h2 tk2 k2 hn2 => ?_)
        refine hq h2 tk2 dx (fun b o hb e => k2 b o (fun z => ?_) (k b o hb e)) (k2 _ _ (Ne.symm dne) hx') dn dne ?_
        · rw [z] at e
          exact absurd (Heap.lt_size e) (Nat.not_lt.mpr dn)
        · rw [List.zip_cons_cons, List.reverse_cons]
          exact hn2
      · cases hi
end
section
variable {K : Frag} {file : Str} {C fI : Addr}
theorem iniF_ok {fs : List Str} (h : iniF K file C fI fs = true) : ∃ oc od osl nmF qual ps b sc kV doc pm an cdv ct cc cl cld csl,
    K.lookup fI = some ⟨oc, od, .func (ksFn nmF qual ps b sc .none kV doc pm an cdv ct cc), osl⟩ ∧ iniB fs b = true ∧ iniS fs sc = true ∧ iniP fs ps = true ∧ iniC K file cdv qual = true ∧ K.lookup cc = some ⟨cl, cld, .cell (some (.ref C)), csl⟩ := by
  unfold iniF at h
  split at h
  · rename_i oc od fd osl ho
    split at h
    · rename_i b x cc e1 e2 e3
      obtain ⟨h0, h⟩ := aa h
      obtain ⟨h1, h⟩ := aa h
      obtain ⟨h2, h⟩ := aa h
      obtain ⟨h3, h⟩ := aa h
      obtain ⟨h4, h⟩ := aa h
      obtain ⟨h5, h⟩ := aa h
      obtain ⟨h6, h⟩ := aa h
      split at h
      · rename_i cl cld C' csl hc
        have e : C' = C := of_decide_eq_true h
        subst e
        obtain ⟨n1, n2, n3, n4, n5, n6, n7, n8, n9, n10, n11, n12, n13, n14, n15⟩ := fd
        dsimp only at e1 e2 e3 h1 h2 h3 h4 h5 h6
        have e0 : x = ("__class__" : Str) := beq_iff_eq.mp h0
        have e6 : n6 = mainGlobals := of_decide_eq_true h1
        have e15 : n15 = builtinsNs := of_decide_eq_true h2
        subst e0 e1 e2 e3 e6 e15
        exact ⟨oc, od, osl, n1, n2, n3, b, n5, n9, n10, n11, n12, n13, n14, cc, cl, cld, csl, ho, h3, h4, h5, h6, hc⟩
      · cases h
    · cases h
  · cases h
theorem iniS_ok {fs : List Str} {sc : Scope} (h : iniS fs sc = true) : sc.kind = .function ∧ sc.isGenerator = false ∧ sc.isCoroutine = false ∧ (∀ x ∈ (("self" : Str) :: fs), sc.names.lookup x = some .local) ∧
    sc.names.lookup ("super" : Str) = some .globalImplicit ∧ sc.names.lookup ("__class__" : Str) = some .free ∧ ∀ x ∈ sc.names, x.2 ≠ .cell := by
  obtain ⟨h0, h⟩ := aa h
  obtain ⟨h1, h⟩ := aa h
  obtain ⟨h2, h⟩ := aa h
  obtain ⟨h3, h⟩ := aa h
  obtain ⟨h4, h⟩ := aa h
  obtain ⟨h5, h⟩ := aa h
  exact ⟨of_decide_eq_true h0, by simpa using h1, by simpa using h2, fun x hx => of_decide_eq_true (List.all_eq_true.mp h3 x hx), of_decide_eq_true h4, of_decide_eq_true h5, fun x hx => of_decide_eq_true (List.all_eq_true.mp h x hx)⟩
theorem iniB_ok {fs : List Str} {b : List Stmt} (h : iniB fs b = true) : ∃ p0 p1 p2 msg j p3 p4 p5 b', b = .Expr (.Call (.Attribute (.Call (.Name ("super" : Str) p0) [] [] p1) ("__init__" : Str) p2) [.Constant (.str msg) j p3] [] p4) p5 :: b' ∧ (p2.endLine == p4.line) = true ∧ ini fs b' = true := by
  unfold iniB at h
  split at h
  · rename_i s0 p0 p1 i0 p2 msg j p3 p4 p5 b'
    obtain ⟨q1, h1⟩ := aa h
    obtain ⟨q2, h2⟩ := aa h1
    obtain ⟨q3, h3⟩ := aa h2
    have q1 := beq_iff_eq.mp q1
    have q2 := beq_iff_eq.mp q2
    subst q1 q2
    exact ⟨p0, p1, p2, msg, j, p3, p4, p5, b', rfl, q3, h3⟩
  · cases h
theorem super_eq {p0 p1 p2 p3 p4 : Pos} {msg : Str} {j : Nat} {env : Env} (hp : (p2.endLine == p4.line) = true) :
    eval (.Call (.Attribute (.Call (.Name ("super" : Str) p0) [] [] p1) ("__init__" : Str) p2) [.Constant (.str msg) j p3] [] p4) env = (do
      let ov ← attributeBase (.Call (.Name ("super" : Str) p0) [] [] p1) ("__init__" : Str) env (eval (.Call (.Name ("super" : Str) p0) [] [] p1) env)
      standAt p2.atName
      let (f, first) ← holding [ov] (getMethod ov ("__init__" : Str) (do return (← importBound (.Call (.Name ("super" : Str) p0) [] [] p1) env).getD true))
      callWith p4 f first (backTo p4 (starEach [.Constant (.str msg) j p3] env)) []) := by
  have e : methodCallPos true (.Call (.Name ("super" : Str) p0) [] [] p1) env p2 p4 = pure p4 := by
    unfold methodCallPos
    rw [hp]
    rfl
  show (do
      let ov ← attributeBase (.Call (.Name ("super" : Str) p0) [] [] p1) ("__init__" : Str) env (eval (.Call (.Name ("super" : Str) p0) [] [] p1) env)
      standAt p2.atName
      (do
        let (f, first) ← holding [ov] (calleeOf true (.Call (.Name ("super" : Str) p0) [] [] p1) env ov ("__init__" : Str))
        let callPos ← methodCallPos true (.Call (.Name ("super" : Str) p0) [] [] p1) env p2 p4
        callWith callPos f first (backTo p4 (starEach [.Constant (.str msg) j p3] env)) [])) = _
  rw [e]
  rfl
/-- how the arguments are bound, for one and for two fields -/
def Fields (fs : List Str) : Prop := ∀ (s : Shared) (as : List Arg) (nmF qual : Str) (b : List Stmt) (sc : Scope) (kV doc pm : Value) (an : Option Addr) (cdv ct : Value) (cc : Addr) (us : List Value),
  as.map (·.arg) = ("self" : Str) :: fs → us.length = fs.length + 1 → BindsTo s (ksFn nmF qual ⟨[], as, none, [], [], none, []⟩ b sc .none kV doc pm an cdv ct cc) ⟨us, []⟩ ((("self" : Str) :: fs).zip us)
def Bound1 (f : Str) : Prop := ∀ (p0 p1 : Pos) (a0 a1 : Option Expr) (nmF qual : Str) (b : List Stmt) (sc : Scope) (kV doc pm : Value) (an : Option Addr) (cdv ct : Value) (cc : Addr) (u v : Value),
  bindArgs (ksFn nmF qual ⟨[], [⟨"self", a0, p0⟩, ⟨f, a1, p1⟩], none, [], [], none, []⟩ b sc .none kV doc pm an cdv ct cc) ⟨[u, v], []⟩ = pure [(("self" : Str), u), (f, v)]
def Bound2 (f g : Str) : Prop := ∀ (p0 p1 p2 : Pos) (a0 a1 a2 : Option Expr) (nmF qual : Str) (b : List Stmt) (sc : Scope) (kV doc pm : Value) (an : Option Addr) (cdv ct : Value) (cc : Addr) (u v w : Value),
  bindArgs (ksFn nmF qual ⟨[], [⟨"self", a0, p0⟩, ⟨f, a1, p1⟩, ⟨g, a2, p2⟩], none, [], [], none, []⟩ b sc .none kV doc pm an cdv ct cc) ⟨[u, v, w], []⟩ = pure [(("self" : Str), u), (f, v), (g, w)]
theorem fields1 {f : Str} (hb : Bound1 f) : Fields [f] := by
  intro s as nmF qual b sc kV doc pm an cdv ct cc us h hu
  rcases as with _ | ⟨⟨n0, a0, p0⟩, _ | ⟨⟨n1, a1, p1⟩, _ | ⟨_, _⟩⟩⟩ <;> simp at h
  rcases us with _ | ⟨u, _ | ⟨v, _ | ⟨_, _⟩⟩⟩ <;> simp at hu
  obtain ⟨h0, h1⟩ := h
  subst h0 h1
  exact BindsTo.of_eq (hb _ _ _ _ _ _ _ _ _ _ _ _ _ _ _ _ _)
theorem fields2 {f g : Str} (hb : Bound2 f g) : Fields [f, g] := by
  intro s as nmF qual b sc kV doc pm an cdv ct cc us h hu
  rcases as with _ | ⟨⟨n0, a0, p0⟩, _ | ⟨⟨n1, a1, p1⟩, _ | ⟨⟨n2, a2, p2⟩, _ | ⟨_, _⟩⟩⟩⟩ <;> simp at h
  rcases us with _ | ⟨u, _ | ⟨v, _ | ⟨w, _ | ⟨_, _⟩⟩⟩⟩ <;> simp at hu
  obtain ⟨h0, h1, h2⟩ := h
  subst h0 h1 h2
  exact BindsTo.of_eq (hb _ _ _ _ _ _ _ _ _ _ _ _ _ _ _ _ _ _ _ _)
theorem bound_value : Bound1 "value" := fun _ _ _ _ _ _ _ _ _ _ _ _ _ _ _ _ _ => by first | rfl | with_unfolding_all rfl
theorem bound_lowhigh : Bound2 "low" "high" := fun _ _ _ _ _ _ _ _ _ _ _ _ _ _ _ _ _ _ _ _ => by first | rfl | with_unfolding_all rfl
theorem lookup_zip : ∀ (xs : List Str) (us : List Value), xs.Nodup → xs.length = us.length → xs.map (fun y => (xs.zip us).reverse.lookup y) = us.map some
  | [], [], _, _ => rfl
  | x :: xs, u :: us, hn, hl => by
    obtain ⟨h1, h2⟩ := List.nodup_cons.mp hn
    have ih := lookup_zip xs us h2 (by simpa using hl)
    have e0 : ∀ y, (((x :: xs).zip (u :: us)).reverse).lookup y = (((xs.zip us).reverse).lookup y).or (if y == x then some u else none) := fun y => by
      rw [List.zip_cons_cons, List.reverse_cons, List.lookup_append]
      congr 1
      simp only [List.lookup]
      cases y == x <;> rfl
    have no : ((xs.zip us).reverse).lookup x = none := by
      rw [List.lookup_eq_none_iff]
      intro p hp
      have hp := List.mem_reverse.mp hp
      have := (List.of_mem_zip hp).1
      rw [bne_iff_ne]
      intro e
      rw [e] at h1
      exact h1 this
    rw [List.map_cons, List.map_cons, e0, no]
    refine congr (congrArg List.cons (by simp)) ?_
    rw [← ih]
    refine List.map_congr_left fun y hy => ?_
    rw [e0]
    have ne : (y == x) = false := by
      rw [beq_eq_false_iff_ne]
      intro e
      rw [e] at hy
      exact h1 hy
    rw [ne]
    cases (List.lookup y (xs.zip us).reverse) <;> rfl

theorem fit_init {prog : Program} {w : World} {A : Around} {R : Result → Shared → Prop} {s : Shared} {fs : List Str} {mg mb : Str → Option Value} (T : ExC K file C fI fs) (hfile : ((prog.main.file : Str) == file) = true)
    (htop : (prog.main.scope.names.lookup ("super" : Str)).isSome = false) (hne : fs ≠ []) (hnd : (("self" : Str) :: fs).Nodup) (hdb : ∀ f ∈ fs, (f == ("__debug__" : Str)) = false) (hF : Fields fs) (h9 : fs.length ≤ 900) {x t0 : Addr} {vs : List Value} (hvl : vs.length = fs.length)
    (X : K.In s.heap) (G : s.heap.Ns mainGlobals mg) (hsm : mg "super" = none) (B : s.heap.Ns builtinsNs mb) (hsb : mb "super" = some (.type "super")) (hlim : s.heap.NoLimit) (hx : s.heap.get? x = some (excO C t0)) (hnx : K.lookup x = none) (hroom : A.depth < recursionLimit)
    (hq : ∀ h' tk dx t1, InitEnd s.heap h' x C dx t1 (fs.zip vs).reverse → R (.ok (.ret .none)) { s with heap := h', toks := tk }) :
    codeAny (model prog w) A (.call (.ref fI) ⟨.ref x :: vs, []⟩) R s := by
  obtain ⟨oc, od, osl, nmF, qual, ps, b, sc, kV, doc, pm, an, cdv, ct, cc, cl, cld, csl, ho, hb, hsc, hps, hic, hcc⟩ := iniF_ok T.fn
  obtain ⟨hkd, hgen, hco, hloc, hsup, hcls, hcell⟩ := iniS_ok hsc
  obtain ⟨sk, snm, sgn, sco, smr⟩ := sc
  dsimp only at hkd hgen hco hloc hsup hcls hcell
  subst hkd hgen hco
  obtain ⟨as, eps, has⟩ := iniP_ok hps
  subst eps
  obtain ⟨a0, as', eas⟩ : ∃ a0 as', as = a0 :: as' := by
    cases as with
    | nil => simp at has
    | cons a0 as' => exact ⟨_, _, rfl⟩
  subst eas
  have ea0 : a0.arg = ("self" : Str) := by
    rw [List.map_cons] at has
    exact (List.cons.inj has).1
  obtain ⟨hcd, cda, ccl, ccd, cvs, csl2, tf, ecd, hcda, hfl⟩ := iniC_ok hic
  subst ecd
  obtain ⟨nm, q, N, bs, bm, sn, sub, ab, col, dd, k0, k1, k2, k3, k5, hC, hbm, hal⟩ := T.cls
  have hcl : clsIn K C = some { name := nm, bases := bs, mro := .ref C :: bm, ns := N, qualname := q, hasDict := true, slotNames := sn, subclasses := sub, abstract := ab, collection := col, hasDel := false } := by unfold clsIn; rw [hC] <;> rfl
  obtain ⟨p0, p1, p2, msg, j, p3, p4, p5, b', eb, hpos, hini⟩ := iniB_ok hb
  subst eb
  refine ks_codeAny_call_defAt (binds := (("self" : Str) :: fs).zip (.ref x :: vs)) hroom (X _ _ ho) rfl hlim (codeRec_of X hcd) rfl (hF _ _ _ _ _ _ _ _ _ _ _ _ _ _ has (by simp [hvl])) hcell (fun y hy => hloc _ (List.of_mem_zip hy).1) (fun h₁ hns k₁ => ?_) rfl rfl rfl
  have hxL : s.heap.objs.size ≠ x := Nat.ne_of_gt (Heap.lt_size hx)
  have X₁ : K.In h₁ := X.keeps k₁
  have hx₁ := k₁ _ _ hx
  have hC₁ := X₁ _ _ hC
  have hms : (((("self" : Str) :: fs).zip (.ref x :: vs)).reverse).lookup ("self" : Str) = some (.ref x) := by
    have z := lookup_zip (("self" : Str) :: fs) (.ref x :: vs) hnd (by simp [hvl])
    rw [List.map_cons, List.map_cons] at z
    exact (List.cons.inj z).1
  have hmf : fs.map (fun y => ((("self" : Str) :: fs).zip (.ref x :: vs)).reverse.lookup y) = vs.map some := by
    have z := lookup_zip (("self" : Str) :: fs) (.ref x :: vs) hnd (by simp [hvl])
    rw [List.map_cons, List.map_cons] at z
    exact (List.cons.inj z).2
  refine ks_wpAt_execs_cons (ks_wpAt_Expr_any (ks_wpAt_MethodCall ?_ (super_eq hpos)))
  refine ks_wpAt_super_base (env := ksEnv qual ⟨.function, snm, false, false, smr⟩ s.heap.objs.size fI (.ref cda) cc) hsup hcls rfl rfl (X₁ _ _ ho) rfl rfl rfl (X₁ _ _ hcda) rfl hfl hfile htop ?_
  refine ks_loadName_global rfl hsup (loadGlobal_builtin (env := ksEnv qual ⟨.function, snm, false, false, smr⟩ s.heap.objs.size fI (.ref cda) cc) (G.keeps k₁) hsm (B.keeps k₁) hsb ⟨rfl, ?_⟩)
  refine wpAny_loadName_free rfl hcls rfl ⟨_, X₁ _ _ hcc, rfl⟩ ?_
  show wpAny _ _ (loadName _ a0.arg) _ _ _
  rw [ea0]
  refine wpAny_loadName_local rfl (hloc _ List.mem_cons_self) hns hms ?_
  refine ks_wpAny_isType_cls hC₁ rfl ⟨rfl, ?_⟩
  refine ks_wpAny_call_super hC₁ rfl hx₁ rfl (fun c e => by cases e) (looks_mroIn X₁ (by unfold mroIn; rw [hcl, Option.bind_some]; simp)) (fun h₂ hso k₂ => ?_)
  have X₂ : K.In h₂ := X₁.keeps k₂
  have hx₂ := k₂ _ _ hx₁
  refine kxs_getMethod kxs_ValueError hso (looks_opaque X₂ T.opq) (l₀ := .ref C :: bm) (fun A Q E s k q => wpAny_bind ((looks_clsIn X₂ hcl) A _ E s k (wpAny_pure q))) (ESX.drop_own C bm) X₂ hal ?_ (fun e => by rw [e, hC] at hnx; cases hnx) rfl ?_
  · have I2 : InstAt h₂ x (excO C t0) C none := ⟨hx₂, rfl, rfl, trivial⟩
    refine I2.type.andThen (looks_mroIn X₂ ?_)
    unfold mroIn
    rw [hcl, Option.bind_some]
    have z := refsVE_contains "ValueError" (.ref C :: bm) (show refsVE (.ref C :: bm) = true from hbm)
    simp only [List.isEmpty_cons, Bool.false_eq_true, if_false, z]
    rfl
  · refine kxs_callWith (i := "ValueError.__init__") (x := x) rfl (evalArgs_plain ?_)
    refine Calls.spliced_cons (Calls.Constant_str (k := j) (pos := p3) (Calls.spliced_nil ⟨Heap.get?_push_at rfl rfl, ?_⟩))
    have k₃ : ∀ b o, h₁.get? b = some o → (h₂.push (kxs_mw "ValueError.__init__" x)).get? b = some o := fun b o e => Heap.get?_push_of_some _ (k₂ b o e)
    refine call_mw (k₃ _ _ hC₁) (k₃ _ _ hx₁) (Heap.get?_push_at rfl rfl) (by show 1 ≤ sizeLine; rw [sizeLine_eq]; decide) (fun h₄ t1 k₄ hx₄ => ?_)
    have k5 : ∀ b o, b ≠ x → h₁.get? b = some o → h₄.get? b = some o := fun b o hb e => k₄ b o hb (k₃ b o e)
    refine wpAt_of_wpAny ?_
    refine stores0 (env := ksEnv qual ⟨.function, snm, false, false, smr⟩ s.heap.objs.size fI (.ref cda) cc) T rfl (hloc _ List.mem_cons_self) hms (Ne.symm hxL) hnx hne hini (fun f hf => ⟨hf, hloc f (List.mem_cons_of_mem _ hf), hdb f hf⟩) hmf h9 (ns_but hns hxL k5) (kept_but X₁ hnx k5) hx₄ (fun h₅ tk dx k₅ hx₅ dn dne hns₅ => ?_)
    have hL4 : s.heap.objs.size < h₄.objs.size := by
      obtain ⟨o, es, ep, ho, _⟩ := ns_but hns hxL k5
      exact Heap.lt_size ho
    exact hq h₅ tk dx t1 ⟨fun b o hb e => k₅ b o hb (k5 b o hb (k₁ b o e)), hx₅, Nat.le_trans (Nat.le_of_lt hL4) dn, dne, hns₅⟩
end

end MP

set_option Elab.async false
set_option linter.all false
set_option maxRecDepth 100000
set_option maxHeartbeats 4000000
/-! MP6: own exceptions raised, caught, looked at. -/
namespace MP
open PySem PySem.W PySem.Calls PyProof.Rows PySem.HandSPX
/-- a made exception -/
structure OwnMade (h h' : Heap) (e C d : Addr) (l : List (Str × Value)) : Prop where
  keep : ∀ b o, h.get? b = some o → h'.get? b = some o
  new : h.objs.size ≤ e
  obj : ∃ oe vs, h'.get? e = some oe ∧ oe.cls = .ref C ∧ oe.dict = some d ∧ oe.data = .fields vs ∧ vs[1]? = some .none ∧ vs[2]? = some .none
  dbig : h.objs.size ≤ d
  dne : d ≠ e
  ns : h'.Ns1 d (mOf l)
/-- what is asked of the field names -/
structure FN (fs : List Str) : Prop where
  ne : fs ≠ []
  nd : (("self" : Str) :: fs).Nodup
  db : ∀ f ∈ fs, (f == ("__debug__" : Str)) = false
  bd : Fields fs
  few : fs.length ≤ 900
section
variable {prog : Program} {w : World} {A : Around} {R : Result → Shared → Prop} {s : Shared} {K : Frag} {file : Str} {C fI : Addr} {fs : List Str} {mg mb : Str → Option Value}
theorem fit_made (T : ExC K file C fI fs) (N : FN fs) (hfile : ((prog.main.file : Str) == file) = true) (htop : (prog.main.scope.names.lookup ("super" : Str)).isSome = false) {vs : List Value} (hvl : vs.length = fs.length)
    (X : K.In s.heap) (G : s.heap.Ns mainGlobals mg) (hsm : mg "super" = none) (B : s.heap.Ns builtinsNs mb) (hsb : mb "super" = some (.type "super")) (hlim : s.heap.NoLimit) (hroom : A.depth + 1 < recursionLimit)
    (hq : ∀ h' tk e d, OwnMade s.heap h' e C d (fs.zip vs).reverse → R (.ok (.ret (.ref e))) { s with heap := h', toks := tk }) :
    codeAny (model prog w) A (.call (.ref C) ⟨vs, []⟩) R s := by
  obtain ⟨nm, q, N', bs, bm, sn, sub, ab, col, dd, k0, k1, k2, k3, k5, hC, hbm, hal⟩ := T.cls
  obtain ⟨hp, g, dr, tk, os⟩ := s
  have k : ∀ b o, hp.get? b = some o → ((hp.push (kdv_tup vs)).push (excO C hp.objs.size)).get? b = some o := fun b o e => Heap.get?_push_of_some _ (Heap.get?_push_of_some _ e)
  have hget : ((hp.push (kdv_tup vs)).push (excO C hp.objs.size)).get? (hp.objs.size + 1) = some (excO C hp.objs.size) := by heap_get
  have hnx : K.lookup (hp.objs.size + 1) = none := lookup_big X (Nat.le_succ _)
  have hz : vs.length ≤ sizeLine := by
    have := N.few
    rw [hvl, sizeLine_eq]
    omega
  refine call_own F.excBase_ValueError (fun X => refsVE_contains X bm hbm) (X _ _ hC) (looks_findIn X T.iC) (fun self => bind_fn X self T.tC) hz ?_
  refine fit_init (s := ⟨(hp.push (kdv_tup vs)).push (excO C hp.objs.size), g, dr, tk, os⟩) (mg := mg) (mb := mb) T hfile htop N.ne N.nd N.db N.bd N.few hvl (X.keeps k) (G.keeps k) hsm (B.keeps k) hsb (hlim.keeps k) hget hnx ?_ fun h' tk' dx t1 I => ?_
  · show A.depth + 1 < recursionLimit
    exact hroom
  · obtain ⟨k', hx, dn, dne, hns⟩ := I
    have old : ∀ b o, hp.get? b = some o → h'.get? b = some o := fun b o e => k' b o (Nat.ne_of_lt (Nat.lt_succ_of_lt (Heap.lt_size e))) (k b o e)
    have z : hp.objs.size + 1 + 1 ≤ dx := by
      first
        | (simpa only [Heap.size_push] using dn)
        | exact dn
        | (have q := dn; rw [Heap.size_push, Heap.size_push] at q; exact q)
    exact ⟨rfl, hq h' tk' (hp.objs.size + 1) dx ⟨old, Nat.le_succ _, ⟨_, _, hx, rfl, rfl, rfl, rfl, rfl⟩, Nat.le_trans (Nat.le_trans (Nat.le_succ _) (Nat.le_succ _)) z, dne, hns⟩⟩
end
/-- what the program says beside the classes -/
structure FitW (P : Program) (mg : Str → Option Value) (file : Str) : Prop where
  hfile : ((P.main.file : Str) == file) = true
  htop : (P.main.scope.names.lookup ("super" : Str)).isSome = false
  sup : mg "super" = none
end MP
namespace MP
open PySem L2 PySem.Spec PyProof.Rows
theorem relO_mOf : ∀ (ns : List Str) (vs : List V) (us : List Value), Vals vs us → ∀ f, RelO ((ns.zip vs).lookup f) (mOf (ns.zip us) f)
  | [], vs, us, r, f => trivial
  | n :: ns, [], [], .nil, f => trivial
  | n :: ns, v :: vs, u :: us, .cons r rs, f => by
    rw [List.zip_cons_cons, List.zip_cons_cons]
    have ih := relO_mOf ns vs us rs f
    by_cases h : f = n
    · subst h
      have e : List.lookup f ((f, v) :: ns.zip vs) = some v := by simp [List.lookup]
      rw [e]
      show RelO (some v) (if f = f then some u else mOf _ f)
      rw [if_pos rfl]
      exact r
    · have e1 : (f == n) = false := by simpa using h
      have e : List.lookup f ((n, v) :: ns.zip vs) = (ns.zip vs).lookup f := by simp [List.lookup, e1]
      rw [e]
      show RelO _ (if f = n then some u else mOf _ f)
      rw [if_neg h]
      exact ih
theorem vals_reverse {vs : List V} {us : List Value} (r : Vals vs us) : Vals vs.reverse us.reverse := by
  induction r with
  | nil => exact .nil
  | cons h _ ih =>
    rw [List.reverse_cons, List.reverse_cons]
    exact ih.append (.cons h .nil)
theorem zip_rev {α β : Type} (l : List α) (l' : List β) (h : l.length = l'.length) : (l.zip l').reverse = l.reverse.zip l'.reverse := by
  rw [List.zip_eq_zipWith, List.zip_eq_zipWith, List.reverse_zipWith h]
section
variable {X : Cx} {C fI : Addr} {x file : Str} {names : List Str}
theorem pmk_fit {e : Expr} {es : List Expr} {ta : TA} {p pos : Pos} {k : Nat} (T : ExC X.K file C fI names) (N : FN names) (FW : FitW X.prog X.mg file) (hgC : X.mg x = some (.ref C)) (hr : Room k X.A) (ha : PA X (e :: es) ta) (hg : Gl X x) (hdb : (x == ("__debug__" : Str)) = false)
    (he : starEach (e :: es) X.env = (false, eval e X.env) :: starEach es X.env) (hpl : (backTo pos (starEach es X.env)).any (·.1) = false) :
    L2N.PMk X (.Call (.Name x p) (e :: es) [] pos) (fun σ H Q => ta σ H fun vs H1 => vs.length = names.length ∧ ∀ d, H1 d = none → Q (.ref C) (some d) (upd H1 d (.xd (names.reverse.zip vs.reverse)))) := by
  intro pins s σ H Q I h
  refine wpAny_Call_Name_kw (ld_glob I hg hgC ?_ hdb)
  refine PySem.W.callWith_K (h₀ := X.base) I.ok.mod.kin T.kC (thn (ha.run pos pins s σ H _ I h) fun us s1 hh => ?_) he hpl
  obtain ⟨vs, H1, I1, r1, hl, q1⟩ := hh
  refine ⟨I1.kIn, ?_⟩
  show wpAny _ _ (call (.ref C) us) _ _ _
  have hlim := I1.nolimit
  have bk := I1.bk
  obtain ⟨mb, hb1, hb2⟩ := I1.mod.blt
  have G := I1.mod.glob
  obtain ⟨hp, g, dr, tk, os⟩ := s1
  have hlu : us.length = names.length := by rw [← hl]; exact (Paired.length r1).symm
  refine wpAny_call (fit_made T N FW.hfile FW.htop hlu I1.kIn (G.keeps bk) FW.sup (hb1.keeps bk) ((hb2 _ (by decide)).trans (by decide +kernel)) hlim (by have := hr.dp; omega) fun h' tk' e d M => ?_)
  show L2N.MkP X pins σ Q (.ref e) ⟨h', g, dr, tk', os⟩
  obtain ⟨oe, fv, hoe, hc, hd, hdat, h1, h2⟩ := M.obj
  have hns := M.ns
  obtain ⟨G', g1, g2⟩ := restrict h' fun b => decide (b ≠ e)
  have gk : ∀ b, b ≠ e → G'.get? b = h'.get? b := fun b hb => g1 b (decide_eq_true hb)
  have ge : G'.get? e = none := g2 e (by simp)
  have old : ∀ b o, hp.get? b = some o → G'.get? b = some o := fun b o q => (gk b (Nat.ne_of_lt (Nat.lt_of_lt_of_le (Heap.lt_size q) M.new))).trans (M.keep b o q)
  have ob : ObjOk X.prog X.w (upd H1 d (.xd (names.reverse.zip vs.reverse))) G' d (.xd (names.reverse.zip vs.reverse)) :=
    ⟨_, hns.at (fun o q => (gk d M.dne).trans q), fun f => by
      rw [zip_rev names us hlu.symm]
      exact relO_mOf _ _ _ (vals_reverse r1) f⟩
  have J : Inv X pins σ (upd H1 d (.xd (names.reverse.zip vs.reverse))) ⟨G', g, dr, tk', os⟩ := I1.laid (t' := tk') old M.dbig ob
  refine ⟨e, oe, fv, ⟨G', g, dr, tk', os⟩, _, .ref C, some d, rfl, J, fun b o q => ?_, ge, hoe, ⟨hc, hd, fun vs' ev => ?_⟩, hdat, h1, ?_, rfl, I1.bare, raises_own T.exC T.tyC, q1 d (I1.hok.fresh M.dbig)⟩
  · by_cases hb : b = e
    · have q' : G'.get? b = some o := q
      rw [hb, ge] at q'; cases q'
    · exact (gk b hb).symm.trans q
  · rw [hdat] at ev
    cases ev
    exact h2
  · rw [upd_ne (Ne.symm M.dne)]
    exact I1.hok.fresh M.new
end
theorem rvs_rev {K : PySem.W.Frag} {m : Nat → Addr} {n : Nat} {H : Hp} : ∀ {ds : List D} {vs : List V}, RVs K m n H ds vs → RVs K m n H ds.reverse vs.reverse
  | [], vs, h => by cases h; exact rfl
  | d :: ds, vs, h => by
    obtain ⟨v, r, e, h1, h2⟩ := h
    subst e
    rw [List.reverse_cons, List.reverse_cons]
    exact RVs.app (rvs_rev h2) (RVs.one h1)
/-- raise x(e, ..) -/
def sRaise (x : Str) (names : List Str) (a : FA) : FS := fun ρ st => (a ρ st).so ρ fun ds st1 => if ds.length = names.length then .ex ⟨x, st1.length⟩ ρ (st1 ++ [.xd (names.reverse.zip ds.reverse)]) else .bad
/-- an own exception class: name, its fields -/
def ExcOk (P : Program) (K : PySem.W.Frag) (mg : Str → Option Value) (x : Str) (names : List Str) : Prop :=
  ∃ C fI file, mg x = some (.ref C) ∧ ExC K file C fI names ∧ FitW P mg file
theorem js_raise {X : Cx} {W : Wc} {x : Str} {names : List Str} {e : Expr} {es : List Expr} {fs : FA} {p pos pos2 : Pos} {k : Nat} (hc : X.calm = true) (T : ExcOk X.prog X.K X.mg x names) (N : FN names) (hr : Room k X.A) (tk : L2N.Takes X W.W) (ha : JA X W (e :: es) fs) (hg : Gl X x)
    (hdb : (x == ("__debug__" : Str)) = false := by decide) (he : starEach (e :: es) X.env = (false, eval e X.env) :: starEach es X.env := by rfl) (hpl : (backTo pos (starEach es X.env)).any (·.1) = false := by rfl) :
    JS X W (.Raise (some (.Call (.Name x p) (e :: es) [] pos)) none pos2) (sRaise x names fs) := by
  obtain ⟨C, fI, file, hm, T, FW⟩ := T
  refine ps_imp (L2N.ps_raise hc tk (pmk_fit T N FW hm hr ha hg hdb he hpl)) fun E σ H h => ?_
  obtain ⟨m, st, ρ, rs, re, h⟩ := h
  refine sa_bind rs re h fun ds st1 m1 H1 vs r1 re1 mn1 rv1 h1 => ?_
  by_cases hl : ds.length = names.length
  · rw [if_pos hl] at h1
    refine ⟨by rw [← RVs.len rv1]; exact hl, fun d hd => ?_⟩
    have hlv : vs.length = names.length := by rw [← RVs.len rv1]; exact hl
    have e1 : ((names.reverse.zip ds.reverse).map (·.1)) = names.reverse := by rw [List.map_fst_zip]; simp [hl]
    have e2 : ((names.reverse.zip ds.reverse).map (·.2)) = ds.reverse := by rw [List.map_snd_zip]; simp [hl]
    have rv2 : RVs X.K m1 st1.length H1 ((names.reverse.zip ds.reverse).map (·.2)) vs.reverse := by rw [e2]; exact rvs_rev rv1
    obtain ⟨m2, em, r2, mn2⟩ := r1.pushX hd rv2
    rw [e1] at r2 mn2
    exact h1 m2 _ σ (.ref C) (some d) r2 mn2 (re1.mono mn2) ⟨C, d, hm, rfl, rfl, by simp, by rw [em]⟩
  · rw [if_neg hl] at h1
    exact h1.elim

/-! ### try -/
theorem RE.less {K : PySem.W.Frag} {m : Nat → Addr} {n : Nat} {H : Hp} {gh gh' : List (D × V)} {ρ : En} {σ : L2.St} (r : RE gh K m n H ρ σ) (h : ∀ p ∈ gh', p ∈ gh) : RE gh' K m n H ρ σ := ⟨r.len, r.get, fun p hp => r.gho p (h p hp)⟩
theorem RE.more {K : PySem.W.Frag} {m : Nat → Addr} {n : Nat} {H : Hp} {gh : List (D × V)} {ρ : En} {σ : L2.St} {p : D × V} (r : RE gh K m n H ρ σ) (h : RV K m n H p.1 p.2) : RE (p :: gh) K m n H ρ σ :=
  ⟨r.len, r.get, fun q hq => by
    rcases List.mem_cons.mp hq with e | hq
    · rw [e]; exact h
    · exact r.gho q hq⟩
/-- what a suite leaves -/
def sLeave (i : Nat) : SO → SO
  | .nx ρ st => .nx (ρ.set i none) st
  | .bk ρ st => .bk (ρ.set i none) st
  | .ct ρ st => .ct (ρ.set i none) st
  | .rt d st => .rt d st
  | .ex _ _ _ => .bad
  | .bad => .bad
def sTryAs (i : Nat) (tb : List (Str × Bool)) (fb : FS) (fh : Ex → Nat → FS) : FS := fun ρ st => match fb ρ st with
  | .ex e ρ1 st1 => (match tb.lookup e.cls with
    | some true => sLeave i (fh e st1.length (ρ1.set i (some (.loc st1.length))) (st1 ++ [.nu]))
    | some false => .ex e ρ1 st1
    | none => .bad)
  | o => o
def sLeave0 : SO → SO
  | .ex _ _ _ => .bad
  | o => o
/-- except x: with no name -/
def sTry (tb : List (Str × Bool)) (fb fh : FS) : FS := fun ρ st => match fb ρ st with
  | .ex e ρ1 st1 => (match tb.lookup e.cls with
    | some true => sLeave0 (fh ρ1 st1)
    | some false => .ex e ρ1 st1
    | none => .bad)
  | o => o
theorem lookup_mem {tb : List (Str × Bool)} {x : Str} {b : Bool} (h : tb.lookup x = some b) : (x, b) ∈ tb := by
  induction tb with
  | nil => simp at h
  | cons p r ih =>
    obtain ⟨y, c⟩ := p
    rw [List.lookup_cons] at h
    cases q : (x == y) with
    | true =>
      rw [q] at h
      have e := beq_iff_eq.mp q
      cases h
      rw [e]
      exact List.mem_cons_self
    | false =>
      rw [q] at h
      exact List.mem_cons_of_mem _ (ih h)
abbrev noX : WX := fun _ _ _ _ => False
theorem takes_suite {X : Cx} {a : Addr} {pn : List (Addr × Obj)} : L2N.Takes (X.suite a pn) noX := fun u s' ⟨_, _, _, _, _, _, _, _, _, _, _, _, _, _, _, _, w⟩ => w
/-- a table of classes against the class of a clause -/
def Tab (K : PySem.W.Frag) (mg : Str → Option Value) (c : Value) (tb : List (Str × Bool)) : Prop := ∀ p ∈ tb, ∃ C, mg p.1 = some (.ref C) ∧ PySem.W.exmOne K (.ref C) c = some p.2
section
variable {X : Cx} {x n : Str} {c : Value} {i : Nat} {body suite : List Stmt} {b₀ : Stmt} {np pos pos' : Pos} {W : Wc} {fb : FS} {tb : List (Str × Bool)}
theorem js_try_as {fh : Ex → Nat → FS} (hs : X.stack = X.env :: X.outer) (hf : X.env.frame = some X.env.locals) (hN : X.N.Nodup) (hi : X.N[i]? = some n) (hln : X.env.kindOf n = some .local) (hc : Names X x c) (tk : L2N.Takes X W.W)
    (htab : Tab X.K X.mg c tb)
    (hb : ∀ (WB : WX) (pn : List (Addr × Obj)) (xe : Value → Shared → Prop), L2N.Takes (X.tr pn xe) WB → PassesOwn (model X.prog X.w) X.A X.env xe → JB (X.tr pn xe) ⟨WB, W.gh⟩ body fb)
    (hsu : ∀ (e : Ex) (k : Nat) (a C dx : Addr) (oe : Obj) (pn : List (Addr × Obj)), X.mg e.cls = some (.ref C) → L2N.Zn (.ref C) (some dx) oe → (∃ vs, oe.data = .fields vs) →
      JB (X.suite a ((a, oe) :: pn)) ⟨noX, (.loc k, .ref a) :: (.loc e.at_, .ref dx) :: W.gh⟩ (b₀ :: suite) (fh e k)) :
    JS X W (.Try body [.ExceptHandler (some (.Name x np)) (some n) (b₀ :: suite) pos'] [] [] pos) (sTryAs i tb fb fh) := by
  refine ps_imp (L2N.ps_try_as (tb := fun WB => rS X.K X.mg ⟨WB, W.gh⟩ fb) (ts := fun a cls d => fun D σ H => ∃ e C dx k, X.mg e.cls = some (.ref C) ∧ cls = .ref C ∧ d = some dx ∧ rS X.K X.mg ⟨noX, (.loc k, .ref a) :: (.loc e.at_, .ref dx) :: W.gh⟩ (fh e k) D σ H)
    hs hf hN hi hln hc tk (fun WB pn xe t hp => hb WB pn xe t hp) (fun a oe cls d pn hz hd => ⟨fun pins s σ H E I h => ?_⟩)) fun D σ H h => ?_
  · obtain ⟨e, C, dx, k, hm, rfl, rfl, h⟩ := h
    exact (hsu e k a C dx oe pn hm hz hd).run pins s σ H E I h
  · obtain ⟨m, st, ρ, rs, re, h⟩ := h
    refine ⟨m, st, ρ, rs, re, ?_⟩
    unfold sTryAs at h
    cases q : fb ρ st with
    | nx ρ1 st1 => rw [q] at h; exact h
    | rt d st1 => rw [q] at h; exact h
    | bk ρ1 st1 => rw [q] at h; exact h
    | ct ρ1 st1 => rw [q] at h; exact h
    | bad => rw [q] at h; exact h
    | ex e ρ1 st1 =>
      rw [q] at h
      simp only at h
      intro m1 H1 σ1 cls od r1 mn1 re1 rx
      obtain ⟨C, dx, hm, hcl, hod, hrv⟩ := rx
      cases ql : tb.lookup e.cls with
      | none => rw [ql] at h; exact h.elim
      | some b =>
        rw [ql] at h
        obtain ⟨C', hm', hx⟩ := htab _ (lookup_mem ql)
        have eC : C' = C := by
          have := hm'.symm.trans hm
          cases this
          rfl
        subst eC
        subst hcl hod
        refine ⟨b, hx, fun hb1 a ha => ?_, fun hb0 => ?_⟩
        · subst hb1
          simp only at h
          obtain ⟨m2, em, r2, mn2⟩ := r1.pushN a
          have rvk : RV X.K m2 (st1 ++ [Ob.nu]).length H1 (.loc st1.length) (.ref a) := ⟨by simp, by rw [em]⟩
          refine ⟨e, C', dx, st1.length, hm, rfl, rfl, m2, _, _, r2, (((re1.mono mn2).more (p := (.loc e.at_, .ref dx)) (mn2 _ _ hrv)).more (p := (.loc st1.length, .ref a)) rvk).set rvk, ?_⟩
          have sub : ∀ p ∈ W.gh, p ∈ (MP.D.loc st1.length, V.ref a) :: (MP.D.loc e.at_, V.ref dx) :: W.gh := fun p hp => List.mem_cons_of_mem _ (List.mem_cons_of_mem _ hp)
          cases q2 : fh e st1.length (ρ1.set i (some (.loc st1.length))) (st1 ++ [.nu]) with
          | nx ρ2 st2 => rw [q2] at h; exact fun m3 H3 σ3 r3 mn3 re3 => h m3 H3 _ r3 ((mn1.trans mn2).trans mn3) (re3.less sub).drop
          | bk ρ2 st2 => rw [q2] at h; exact fun m3 H3 σ3 r3 mn3 re3 => h m3 H3 _ r3 ((mn1.trans mn2).trans mn3) (re3.less sub).drop
          | ct ρ2 st2 => rw [q2] at h; exact fun m3 H3 σ3 r3 mn3 re3 => h m3 H3 _ r3 ((mn1.trans mn2).trans mn3) (re3.less sub).drop
          | rt d2 st2 => rw [q2] at h; exact fun m3 H3 v3 r3 mn3 rv3 => h m3 H3 v3 r3 ((mn1.trans mn2).trans mn3) rv3
          | ex _ _ _ => rw [q2] at h; exact h.elim
          | bad => rw [q2] at h; exact h.elim
        · subst hb0
          exact h m1 H1 σ1 _ _ r1 mn1 re1 ⟨C', dx, hm, rfl, rfl, hrv⟩
theorem js_try {fh : FS} (hs : X.stack = X.env :: X.outer) (hf : X.env.frame = some X.env.locals) (hc : Names X x c) (tk : L2N.Takes X W.W)
    (htab : Tab X.K X.mg c tb)
    (hb : ∀ (WB : WX) (pn : List (Addr × Obj)) (xe : Value → Shared → Prop), L2N.Takes (X.tr pn xe) WB → PassesOwn (model X.prog X.w) X.A X.env xe → JB (X.tr pn xe) ⟨WB, W.gh⟩ body fb)
    (hsu : ∀ (a : Addr) (oe : Obj) (pn : List (Addr × Obj)), (∃ vs, oe.data = .fields vs) → JB (X.suite a ((a, oe) :: pn)) ⟨noX, W.gh⟩ (b₀ :: suite) fh) :
    JS X W (.Try body [.ExceptHandler (some (.Name x np)) none (b₀ :: suite) pos'] [] [] pos) (sTry tb fb fh) := by
  refine ps_imp (L2N.ps_try_many (tb := fun WB => rS X.K X.mg ⟨WB, W.gh⟩ fb) hs hf tk (fun WB pn xe t hp => hb WB pn xe t hp) (.cons (ts := fun a cls d => rS X.K X.mg ⟨noX, W.gh⟩ fh) hc (fun a oe cls d pn hz hd => hsu a oe pn hd) .nil)) fun D σ H h => ?_
  obtain ⟨m, st, ρ, rs, re, h⟩ := h
  refine ⟨m, st, ρ, rs, re, ?_⟩
  unfold sTry at h
  cases q : fb ρ st with
  | nx ρ1 st1 => rw [q] at h; exact h
  | rt d st1 => rw [q] at h; exact h
  | bk ρ1 st1 => rw [q] at h; exact h
  | ct ρ1 st1 => rw [q] at h; exact h
  | bad => rw [q] at h; exact h
  | ex e ρ1 st1 =>
    rw [q] at h
    simp only at h
    intro m1 H1 σ1 cls od r1 mn1 re1 rx
    obtain ⟨C, dx, hm, hcl, hod, hrv⟩ := rx
    cases ql : tb.lookup e.cls with
    | none => rw [ql] at h; exact h.elim
    | some b =>
      rw [ql] at h
      obtain ⟨C', hm', hx⟩ := htab _ (lookup_mem ql)
      have eC : C' = C := by
        have := hm'.symm.trans hm
        cases this
        rfl
      subst eC
      subst hcl hod
      refine ⟨b, hx, fun hb1 a ha => ?_, fun hb0 => ?_⟩
      · subst hb1
        simp only at h
        refine ⟨m1, _, _, r1, re1, ?_⟩
        cases q2 : fh ρ1 st1 with
        | nx ρ2 st2 => rw [q2] at h; exact fun m3 H3 σ3 r3 mn3 re3 => h m3 H3 _ r3 (mn1.trans mn3) re3
        | bk ρ2 st2 => rw [q2] at h; exact fun m3 H3 σ3 r3 mn3 re3 => h m3 H3 _ r3 (mn1.trans mn3) re3
        | ct ρ2 st2 => rw [q2] at h; exact fun m3 H3 σ3 r3 mn3 re3 => h m3 H3 _ r3 (mn1.trans mn3) re3
        | rt d2 st2 => rw [q2] at h; exact fun m3 H3 v3 r3 mn3 rv3 => h m3 H3 v3 r3 (mn1.trans mn3) rv3
        | ex _ _ _ => rw [q2] at h; exact h.elim
        | bad => rw [q2] at h; exact h.elim
      · subst hb0
        exact h m1 H1 σ1 _ _ r1 mn1 re1 ⟨C', dx, hm, rfl, rfl, hrv⟩
end

/-! ### looking at the exception that the suite holds -/
def kXf (k : Nat) (e : Ex) (cs : List Str) (f : Str) (x : D) (st : S) : Out D := if x = .loc k ∧ e.cls ∈ cs then (match st[e.at_]? with
  | some (.xd fs) => (match fs.lookup f with
    | some d => .ok d st
    | none => .bad)
  | _ => .bad) else .bad
def fXf (k : Nat) (e : Ex) (cs : List Str) (f : Str) (a : FE) : FE := fun ρ st => (a ρ st).bind (kXf k e cs f)
def kIsX (k : Nat) (e : Ex) (tb : List (Str × Bool)) (x : D) (st : S) : Out D := if x = .loc k then (match st[e.at_]? with
  | some (.xd _) => (match tb.lookup e.cls with
    | some b => .ok (.bl b) st
    | none => .bad)
  | _ => .bad) else .bad
def fIsX (k : Nat) (e : Ex) (tb : List (Str × Bool)) (a : FE) : FE := fun ρ st => (a ρ st).bind (kIsX k e tb)
/-- the suite's exception -/
structure SuX (X : Cx) (gh : List (D × V)) (e : Ex) (k : Nat) (a C dx : Addr) (oe : Obj) : Prop where
  hm : X.mg e.cls = some (.ref C)
  hz : L2N.Zn (.ref C) (some dx) oe
  hd : ∃ vs, oe.data = .fields vs
  gk : (.loc k, .ref a) ∈ gh
  gx : (.loc e.at_, .ref dx) ∈ gh
/-- the field f of the classes cs -/
def FldOk (K : PySem.W.Frag) (mg : Str → Option Value) (cs : List Str) (f : Str) : Prop := ∀ c ∈ cs, ∃ C, mg c = some (.ref C) ∧ XfC K C ∧ PySem.W.findIn K (.ref C) f = some none
def TabI (K : PySem.W.Frag) (mg : Str → Option Value) (c : Value) (tb : List (Str × Bool)) : Prop := ∀ p ∈ tb, ∃ C, mg p.1 = some (.ref C) ∧ L2.ExcC K C ∧ PySem.W.kitOne K (.ref C) c = some p.2
theorem lookup_map {fs : List (Str × D)} {vs : List V} {K : PySem.W.Frag} {m : Nat → Addr} {n : Nat} {H : Hp} (h : RVs K m n H (fs.map (·.2)) vs) {f : Str} {d : D} (e : fs.lookup f = some d) : ∃ v, ((fs.map (·.1)).zip vs).lookup f = some v ∧ RV K m n H d v := by
  induction fs generalizing vs with
  | nil => simp at e
  | cons p r ih =>
    obtain ⟨y, c⟩ := p
    obtain ⟨v, vr, ev, h1, h2⟩ := h
    subst ev
    rw [List.lookup_cons] at e
    rw [List.map_cons, List.zip_cons_cons, List.lookup_cons]
    cases q : (f == y) with
    | true =>
      rw [q] at e
      cases e
      exact ⟨v, rfl, h1⟩
    | false =>
      rw [q] at e
      exact ih h2 e
def rIsX (K : PySem.W.Frag) (C a dx : Addr) : List V → Hp → VK → Prop := fun xs H Q => ∃ (c : V) (cv : Value) (b : Bool) (fs : List (Str × V)), xs = [.ref a, c] ∧ (∀ u, RelV c u → u = cv) ∧ PySem.W.kitOne K (.ref C) cv = some b ∧ H dx = some (.xd fs) ∧ Q (.bl b) H
section
variable {X : Cx} {W : Wc} {e : Ex} {k : Nat} {a C dx : Addr} {oe : Obj} {pn : List (Addr × Obj)} {x : Expr} {fa : FE}
theorem call_isX (E : L2.ExcC X.K C) (hz : Zc (.ref C) (some dx) oe) (hf : ∃ vs, oe.data = .fields vs) : CallR (X.suite a ((a, oe) :: pn)) (.builtin "isinstance") (rIsX X.K C a dx) := by
  intro pins s σ H xs us Q I r h
  obtain ⟨c, cv, b, fs, rfl, hcv, e, hxd, q⟩ := h
  cases r with
  | cons rx rr =>
    cases rr with
    | cons rt rr =>
      cases rr
      cases rx
      have ec := hcv _ rt
      subst ec
      obtain ⟨hget, _⟩ := I.pin (a, oe) (List.mem_append.mpr (.inl List.mem_cons_self))
      obtain ⟨vs, hv⟩ := hf
      obtain ⟨mA, hns, hr⟩ := (I.hok dx _ hxd : ObjOk X.prog X.w H s.heap dx (.xd fs))
      obtain ⟨od, ho, _⟩ := lookIn_ns hns
      have J : PySem.W.InstAt s.heap a oe C (some od) := ⟨hget, hz.1, by unfold PySem.W.notCls; rw [hv] <;> rfl, by rw [hz.2]; exact ho⟩
      have hcl : (PySem.W.clsIn X.K C).isSome = true := by
        have z := E.hd
        unfold PySem.W.hasDictIn at z
        cases q : PySem.W.clsIn X.K C with
        | none => rw [q] at z; cases z
        | some cd => rfl
      exact PySem.W.kia_one (PySem.W.kitx_exc hcl E.hg E.hk E.hs E.ha E.hn E.ht E.hm) I.kIn J e (fun z => nomatch z) fun tk => ⟨.bl b, H, I.kept (t' := tk) fun _ _ z => z, rfl, q⟩
/-- isinstance(e, c) -/
theorem je_isX {nm : Str} {vc : V} {cv : Value} {tb : List (Str × Bool)} {p p2 pos : Pos} (S : SuX X W.gh e k a C dx oe) (T : TabI X.K X.mg cv tb) (hT : PE (X.suite a ((a, oe) :: pn)) (.Name nm p2) (tC vc)) (hcv : ∀ u, RelV vc u → u = cv)
    (hg : Gl X "isinstance") (hm : X.mg "isinstance" = none) (ha : JE (X.suite a ((a, oe) :: pn)) W x fa)
    (he : starEach (x :: [.Name nm p2]) X.env = (false, eval x X.env) :: starEach [.Name nm p2] X.env := by rfl) (hpl : (backTo pos (starEach [.Name nm p2] X.env)).any (·.1) = false := by rfl) :
    JE (X.suite a ((a, oe) :: pn)) W (.Call (.Name "isinstance" p) [x, .Name nm p2] [] pos) (fIsX k e tb fa) := by
  cases ql : tb.lookup e.cls with
  | none =>
    refine pe_imp (pe_callB (X := X.suite a ((a, oe) :: pn)) (r := fun _ _ _ => False) (fun _ _ _ _ _ _ _ _ _ h => h.elim) hg hm PyProof.Rows.boot_isinstance (pa_cons ha (pa_cons hT pa_nil) he) (by decide) (by decide) he hpl) fun σ H Q h => ?_
    obtain ⟨m, st, ρ, rs, re, h⟩ := h
    refine re_bind (k := fun x st1 ρ => kIsX k e tb x st1) rs re h fun x st1 m1 H1 v1 r1 re1 mn1 rv1 h1 => ?_
    have hbad : kIsX k e tb x st1 = .bad := by
      unfold kIsX
      rw [ql]
      split
      · split <;> rfl
      · rfl
    rw [hbad] at h1
    exact h1.elim
  | some b =>
    obtain ⟨C', hm', hE, hx⟩ := T _ (lookup_mem ql)
    have eC : C' = C := by
      have := hm'.symm.trans S.hm
      cases this
      rfl
    subst eC
    refine pe_imp (pe_callB (X := X.suite a ((a, oe) :: pn)) (call_isX hE S.hz.zc S.hd) hg hm PyProof.Rows.boot_isinstance (pa_cons ha (pa_cons hT pa_nil) he) (by decide) (by decide) he hpl) fun σ H Q h => ?_
    obtain ⟨m, st, ρ, rs, re, h⟩ := h
    refine re_bind (k := fun x st1 ρ => kIsX k e tb x st1) rs re h fun x st1 m1 H1 v1 r1 re1 mn1 rv1 h1 => ?_
    unfold kIsX at h1
    by_cases hx' : x = .loc k
    · rw [if_pos hx'] at h1
      subst hx'
      have gk := re1.gho _ S.gk
      have gx := re1.gho _ S.gx
      have ev : v1 = .ref a := by
        obtain ⟨_, q1⟩ := rv1
        obtain ⟨_, q2⟩ := gk
        rw [q1]
        exact q2.symm
      subst ev
      cases q : st1[e.at_]? with
      | none => rw [q] at h1; exact h1.elim
      | some ob =>
        rw [q] at h1
        cases ob with
        | xd fs =>
          simp only [ql] at h1
          obtain ⟨vs, hxd, _⟩ := r1.at_ _ _ q
          have ed : m1 e.at_ = dx := by
            obtain ⟨_, q2⟩ := gx
            injection q2 with q3
            exact q3.symm
          exact ⟨vc, cv, b, _, rfl, hcv, hx, by rw [← ed]; exact hxd, h1 m1 H1 r1 Mn.refl _ rfl⟩
        | _ => exact h1.elim
    · rw [if_neg hx'] at h1; exact h1.elim
/-- e.f -/
theorem je_xf {f : Str} {cs : List Str} {pos : Pos} (S : SuX X W.gh e k a C dx oe) (T : FldOk X.K X.mg cs f) (ha : JE (X.suite a ((a, oe) :: pn)) W x fa) (hb : attributeBase x f X.env (eval x X.env) = eval x X.env := by rfl) :
    JE (X.suite a ((a, oe) :: pn)) W (.Attribute x f pos) (fXf k e cs f fa) := by
  by_cases hc : e.cls ∈ cs
  · obtain ⟨C', hm', hE, hx⟩ := T _ hc
    have eC : C' = C := by
      have := hm'.symm.trans S.hm
      cases this
      rfl
    subst eC
    refine pe_imp (pe_xf hE hx S.hz.zc S.hd ha hb) fun σ H Q h => ?_
    obtain ⟨m, st, ρ, rs, re, h⟩ := h
    refine re_bind (k := fun x st1 ρ => kXf k e cs f x st1) rs re h fun x st1 m1 H1 v1 r1 re1 mn1 rv1 h1 => ?_
    unfold kXf at h1
    by_cases hx' : x = .loc k ∧ e.cls ∈ cs
    · rw [if_pos hx'] at h1
      obtain ⟨hx', _⟩ := hx'
      subst hx'
      have gk := re1.gho _ S.gk
      have gx := re1.gho _ S.gx
      have ev : v1 = .ref a := by
        obtain ⟨_, q1⟩ := rv1
        obtain ⟨_, q2⟩ := gk
        rw [q1]
        exact q2.symm
      subst ev
      cases q : st1[e.at_]? with
      | none => rw [q] at h1; exact h1.elim
      | some ob =>
        rw [q] at h1
        cases ob with
        | xd fs =>
          simp only at h1
          cases qf : fs.lookup f with
          | none => rw [qf] at h1; exact h1.elim
          | some d =>
            rw [qf] at h1
            obtain ⟨vs, hxd, hvs⟩ := r1.at_ _ _ q
            have ed : m1 e.at_ = dx := by
              obtain ⟨_, q2⟩ := gx
              injection q2 with q3
              exact q3.symm
            obtain ⟨v, hl, hv⟩ := lookup_map hvs qf
            exact ⟨rfl, rfl, dx, _, v, rfl, by rw [← ed]; exact hxd, hl, h1 m1 H1 r1 Mn.refl v hv⟩
        | _ => exact h1.elim
    · rw [if_neg hx'] at h1; exact h1.elim
  · refine ⟨fun pins s σ H Q I h => attr_of hb (thn (ha.run pins s σ H (fun _ _ => False) I ?_) fun u s1 ⟨_, _, _, _, q⟩ => q.elim)⟩
    obtain ⟨m, st, ρ, rs, re, h⟩ := h
    refine re_bind (k := fun x st1 ρ => kXf k e cs f x st1) rs re h fun x st1 m1 H1 v1 r1 re1 mn1 rv1 h1 => ?_
    unfold kXf at h1
    rw [if_neg (fun z => hc z.2)] at h1
    exact h1.elim
end
end MP

set_option Elab.async false
set_option linter.all false
set_option maxRecDepth 100000
set_option maxHeartbeats 4000000
/-! MP7: the head's hook with any facts of the written part that are told by a Bool, and what they say. -/
namespace MP
open PySem L2 PySem.Spec PyProof.Rows
abbrev FrB := PySem.W.Frag → Bool
abbrev AlM : Type := Bool × List He.FnW
def asM (g : Addr → Option Obj) : Nat → List Addr
  | 0 => [mainGlobals, cStatics]
  | n + 1 => He.growD g (asM g n)
def obsM (xs : List FrB) (fn : List He.DefD) (K : PySem.W.Frag) : AlM := ((xs.all fun f => f K) && fn.all fun d => d.ok K, fn.map fun d => He.fnW K d.at_)
def valM (fn : List He.DefD) : AlM := (true, fn.map He.DefD.val)
def SaysM (xs : List FrB) (fn : List He.DefD) (K : PySem.W.Frag) : Prop := obsM xs fn K = valM fn
def obsMG (n : Nat) (xs : List FrB) (fn : List He.DefD) (g : Addr → Option Obj) : AlM := obsM xs fn (He.frG g (asM g n))
def hookM (n : Nat) (xs : List FrB) (fn : List He.DefD) : PySem.W.Hook where
  α := AlM
  obs := fun s => obsMG n xs fn s.heap.get?
  val := fun _ => valM fn
  says := fun _ h => ∃ K : PySem.W.Frag, K.In h ∧ SaysM xs fn K
  of := fun _ _ e => ⟨_, He.frG_in, e⟩
  keeps := fun _ _ _ ⟨K, hK, c⟩ k => ⟨K, PySem.W.Frag.In.keeps hK k, c⟩
theorem obsMG_eq {n : Nat} {xs : List FrB} {fn : List He.DefD} {g : Addr → Option Obj} {s : Shared} (h : ∀ a, g a = s.heap.get? a) : obsMG n xs fn g = (hookM n xs fn).obs s := by
  have e : g = s.heap.get? := funext h
  rw [e] <;> rfl
section
variable {xs : List FrB} {fn : List He.DefD} {K : PySem.W.Frag}
theorem SaysM.fact (c : SaysM xs fn K) (i : Nat) {f : FrB} (h : xs[i]? = some f := by rfl) : f K = true := by
  have c1 := (He.ba (show ((xs.all fun f => f K) && fn.all fun d => d.ok K) = true from congrArg (fun z : AlM => z.1) c)).1
  exact List.all_eq_true.mp c1 f (List.mem_of_getElem? h)
theorem SaysM.def_ (c : SaysM xs fn K) (i : Nat) {d : He.DefD} (h : fn[i]? = some d := by rfl) : ∃ fd, FunD K d.name d.qual d.params d.body d.scope (d.dvs K) (d.kws K) (He.fAd K d.at_) fd := by
  have c2 := (He.ba (show ((xs.all fun f => f K) && fn.all fun d => d.ok K) = true from congrArg (fun z : AlM => z.1) c)).2
  have e : fn.map (fun d => He.fnW K d.at_) = fn.map He.DefD.val := congrArg (fun z : AlM => z.2) c
  have e2 : (fn.map fun d => He.fnW K d.at_)[i]? = (fn.map He.DefD.val)[i]? := by rw [e]
  rw [List.getElem?_map, List.getElem?_map, h] at e2
  exact He.DefD.funD (Option.some.inj e2) (List.all_eq_true.mp c2 d (List.mem_of_getElem? h))
end
/-! ### facts -/
def faB (f : He.Fa) : FrB := fun K => f.ok K
def bltB (x : Str) (i : String) : FrB := fun K => He.eqO (PySem.W.nsIn K mainGlobals x) (some (some (.builtin i)))
def excB (file x : Str) (fs : List Str) : FrB := fun K => He.eqO (PySem.W.nsIn K mainGlobals x) (some (some (.ref (He.ga K x)))) && excX K file (He.ga K x) (He.ma K (He.ga K x) "__init__") fs
def xfcB (x f : Str) : FrB := fun K => xfB K (He.ga K x) && He.eqO (PySem.W.findIn K (.ref (He.ga K x)) f) (some none)
def ixcB (x : Str) : FrB := fun K =>
  He.eqO (PySem.W.findIn K (.ref (He.ga K x)) "__getattribute__") (some (some (.builtin "BaseException.__getattribute__"))) && (He.eqO (PySem.W.findIn K (.ref (He.ga K x)) "__getattr__") (some none) &&
  (decide (PySem.W.subIn K (.ref (He.ga K x)) (.type "BaseException") = some true) && (PySem.W.hasDictIn K (He.ga K x) && (He.eqO (PySem.W.findIn K (.ref (He.ga K x)) "__class__") (some (some (.builtin "object.__class__"))) &&
  (He.eqO (PySem.W.specialIn K (.builtin "object.__class__") "__get__") (some (some (.builtin "getset_descriptor.__get__"))) && (decide (PySem.W.takesIn K (.builtin "object.__class__") = some true) && decide (PySem.W.mroIn K (He.ga K x) (.type "object") = some true)))))))
/-- the value that a name stands for in an isinstance -/
inductive Cv where
  | glo (x : Str) | ty (n : String)
def Cv.v (K : PySem.W.Frag) : Cv → Value
  | .glo x => .ref (He.ga K x)
  | .ty n => .type n
def kitB1 (x : Str) (c : Cv) (b : Bool) : FrB := fun K => decide (PySem.W.kitOne K (.ref (He.ga K x)) (c.v K) = some b)
def exmB1 (x : Str) (c : Cv) (b : Bool) : FrB := fun K => decide (PySem.W.exmOne K (.ref (He.ga K x)) (c.v K) = some b)
def gloB (x : Str) : FrB := faB (.glo x)
def freeB (x : Str) : FrB := faB (.free x)
def tupB (x : Str) (vs : List He.Dv) : FrB := fun K => He.eqO (PySem.W.nsIn K mainGlobals x) (some (some (.ref (He.ga K x)))) && He.tupB K x vs
section
variable {K : PySem.W.Frag} {h : Heap} {mg : Str → Option Value} {P : Program}
theorem glo_of (X : K.In h) (G : h.Ns mainGlobals mg) {x : Str} (c : gloB x K = true) : mg x = some (.ref (He.ga K x)) := He.glo_ok X G c
theorem free_of (X : K.In h) (G : h.Ns mainGlobals mg) {x : Str} (c : freeB x K = true) : mg x = none := He.free_ok X G c
theorem blt_of (X : K.In h) (G : h.Ns mainGlobals mg) {x : Str} {i : String} (c : bltB x i K = true) : mg x = some (.builtin i) := PySem.W.mg_of X G (He.eqO_ok c)
theorem exc_of (X : K.In h) (G : h.Ns mainGlobals mg) {file x : Str} {fs : List Str} (FW : FitW P mg file) (c : excB file x fs K = true) : ExcOk P K mg x fs := by
  obtain ⟨c1, c2⟩ := aa c
  exact ⟨_, _, file, PySem.W.mg_of X G (He.eqO_ok c1), excX_ok c2, FW⟩
theorem ixc_of {x : Str} (c : ixcB x K = true) : L2.ExcC K (He.ga K x) := by
  obtain ⟨c1, c⟩ := aa c
  obtain ⟨c2, c⟩ := aa c
  obtain ⟨c3, c⟩ := aa c
  obtain ⟨c4, c⟩ := aa c
  obtain ⟨c5, c⟩ := aa c
  obtain ⟨c6, c⟩ := aa c
  obtain ⟨c7, c8⟩ := aa c
  exact ⟨He.eqO_ok c1, He.eqO_ok c2, of_decide_eq_true c3, c4, He.eqO_ok c5, He.eqO_ok c6, of_decide_eq_true c7, of_decide_eq_true c8⟩
theorem fld_nil {f : Str} : FldOk K mg [] f := fun _ h => nomatch h
theorem fld_cons {x f : Str} {cs : List Str} (hx : mg x = some (.ref (He.ga K x))) (c : xfcB x f K = true) (r : FldOk K mg cs f) : FldOk K mg (x :: cs) f := fun y hy => by
  rcases List.mem_cons.mp hy with e | hy
  · subst e
    obtain ⟨c1, c2⟩ := aa c
    exact ⟨_, hx, xfB_ok c1, He.eqO_ok c2⟩
  · exact r y hy
theorem tab_nil {c : Value} : Tab K mg c [] := fun _ h => nomatch h
theorem tab_cons {x : Str} {cv : Cv} {b : Bool} {tb : List (Str × Bool)} (hx : mg x = some (.ref (He.ga K x))) (c : exmB1 x cv b K = true) (r : Tab K mg (cv.v K) tb) : Tab K mg (cv.v K) ((x, b) :: tb) := fun y hy => by
  rcases List.mem_cons.mp hy with e | hy
  · subst e
    exact ⟨_, hx, of_decide_eq_true c⟩
  · exact r y hy
theorem tabi_nil {c : Value} : TabI K mg c [] := fun _ h => nomatch h
theorem tabi_cons {x : Str} {cv : Cv} {b : Bool} {tb : List (Str × Bool)} (hx : mg x = some (.ref (He.ga K x))) (hi : L2.ExcC K (He.ga K x)) (c : kitB1 x cv b K = true) (r : TabI K mg (cv.v K) tb) : TabI K mg (cv.v K) ((x, b) :: tb) := fun y hy => by
  rcases List.mem_cons.mp hy with e | hy
  · subst e
    exact ⟨_, hx, hi, of_decide_eq_true c⟩
  · exact r y hy
/-- a datum that the written part holds -/
def KD (K : PySem.W.Frag) (d : D) (u : Value) : Prop := ∃ v, RelV v u ∧ ∀ m n H, RV K m n H d v
def dOf : He.Dv → Option D
  | .non => some .non
  | .bl b => some (.bl b)
  | .int i => some (.int i)
  | .str x => some (.str x)
  | _ => none
def dsOf : List He.Dv → Option (List D)
  | [] => some []
  | v :: vs => (dOf v).bind fun d => (dsOf vs).bind fun ds => some (d :: ds)
theorem dOf_rv {v : He.Dv} {d : D} (e : dOf v = some d) (m : Nat → Addr) (n : Nat) (H : Hp) : RV K m n H d (v.v K) := by
  cases v <;> first | (cases e; rfl) | cases e
theorem dsOf_rv : ∀ {vs : List He.Dv} {ds : List D}, dsOf vs = some ds → ∀ (m : Nat → Addr) (n : Nat) (H : Hp), RVs K m n H ds (vs.map (He.Dv.v K))
  | [], ds, e, m, n, H => by cases e; exact rfl
  | v :: vs, ds, e, m, n, H => by
    unfold dsOf at e
    cases h1 : dOf v with
    | none => rw [h1] at e; cases e
    | some d =>
      rw [h1] at e
      cases h2 : dsOf vs with
      | none => rw [h2] at e; cases e
      | some ds' =>
        rw [h2] at e
        cases e
        exact ⟨_, _, rfl, dOf_rv h1 m n H, dsOf_rv h2 m n H⟩
theorem tup_of {x : Str} {vs : List He.Dv} {ds : List D} (e : dsOf vs = some ds) (X : K.In h) (G : h.Ns mainGlobals mg) (c : tupB x vs K = true) : ∃ u, mg x = some u ∧ KD K (.tup ds) u := by
  obtain ⟨c1, c2⟩ := aa c
  exact ⟨_, PySem.W.mg_of X G (He.eqO_ok c1), .ref (He.ga K x), rfl, fun m n H => ⟨_, _, rfl, He.tupB_ok c2 H, dsOf_rv e m n H⟩⟩
theorem je_kd {X : Cx} {W : Wc} {x : Str} {d : D} {pos : Pos} (c : ∃ u, X.mg x = some u ∧ KD X.K d u) (hg : Gl X x) (hd : (x == ("__debug__" : Str)) = false := by decide) : JE X W (.Name x pos) (fC d) := by
  obtain ⟨u, hm, v, hr, hv⟩ := c
  exact pe_imp (pe_glob hg hm hr hd) fun σ H Q ⟨m, st, ρ, rs, re, h⟩ => h m H rs Mn.refl v (hv _ _ _)
end

/-! ### words for the printed walks -/
theorem bt_len : bootBuiltins "len" = some (.builtin "len") := by decide +kernel
theorem bt_abs : bootBuiltins "abs" = some (.builtin "abs") := by decide +kernel
theorem bt_max : bootBuiltins "max" = some (.builtin "max") := by decide +kernel
theorem bt_min : bootBuiltins "min" = some (.builtin "min") := by decide +kernel
theorem bt_sum : bootBuiltins "sum" = some (.builtin "sum") := by decide +kernel
theorem bt_int : bootBuiltins "int" = some (.type "int") := by decide +kernel
theorem bt_bool : bootBuiltins "bool" = some (.type "bool") := by decide +kernel
theorem bt_str : bootBuiltins "str" = some (.type "str") := by decide +kernel
theorem bt_list : bootBuiltins "list" = some (.type "list") := by decide +kernel
theorem bt_tuple : bootBuiltins "tuple" = some (.type "tuple") := by decide +kernel
theorem bt_ValueError : bootBuiltins "ValueError" = some (.type "ValueError") := by decide +kernel
theorem bt_TypeError : bootBuiltins "TypeError" = some (.type "TypeError") := by decide +kernel
theorem bt_Exception : bootBuiltins "Exception" = some (.type "Exception") := by decide +kernel
theorem huR {k : Nat} {A : Around} (r : Room k A) : A.units + 64 < cLine := by have := r.un; omega
theorem huH {k : Nat} {A : Around} (r : L2H.RoomH k A) : A.units + 64 < cLine := by have := r.un; omega
theorem roomMk {k : Nat} {A : Around} (r : Room k A) (h : Option Value) : L2H.RoomH k (A.mark h) := ⟨r.dp, r.un⟩
theorem hotSu {X : Cx} {a : Addr} {oe : Obj} {pn : List (Addr × Obj)} {cls : Value} {d : Option Addr} (hz : L2N.Zn cls d oe) (hd : ∃ vs, oe.data = .fields vs) : L2H.HotC (X.suite a ((a, oe) :: pn)) := by
  obtain ⟨vs, hv⟩ := hd
  exact ⟨(a, oe), ⟨rfl, vs, hv, hz.2.2 vs hv⟩, List.mem_cons_self⟩
section
variable {K : PySem.W.Frag} {x qual : Str} {params : Arguments} {body : List Stmt} {scope : Scope} {dvs : List V} {kws : List (Str × V)} {f : Addr} {fd : FuncData} {ps ks : List Str} {np : Nat} {sel : List Nat}
theorem kw_binds (F : FunD K x qual params body scope dvs kws f fd) (hd : dvs ≠ [])
    (h : ∀ (T : Addr) (kV doc pm : Value) (an : Option Addr) (cdv ct : Value) (us ws its : List Value), us.length + ws.length = np → ws.length = ks.length → its.length = dvs.length →
      ∃ k, bindArgs (PySem.W.fnOf x qual params body scope (.ref T) kV doc pm an cdv ct) ⟨us, ks.zip ws⟩ = seqItems? (.ref T) >>= k ∧ k (some its.toArray) = pure (ps.zip (pick sel (us ++ ws ++ its)))) :
    ∃ dus, Vals dvs dus ∧ ∀ (s : Shared) (us ws : List Value), K.In s.heap → us.length + ws.length = np → ws.length = ks.length → BindsTo s fd ⟨us, ks.zip ws⟩ (ps.zip (pick sel (us ++ ws ++ dus))) := by
  obtain ⟨oc, od, dV, kV, doc, pm, an, cdv, ct, osl, rfl, lk, hcd, hD, hK⟩ := F.ex
  rcases hD with ⟨e, _⟩ | ⟨_, T, o, its, m, rfl, lT, oT, rT⟩
  · exact absurd e hd
  · refine ⟨its, rT, fun s us ws X h1 h2 => ?_⟩
    obtain ⟨k, e1, e2⟩ := h T kV doc pm an cdv ct us ws its h1 h2 rT.length.symm
    refine BindsTo.of_looks fun M => ?_
    rw [e1]
    exact looks_items X lT oT (.of_pure e2)
end

theorem walk_ofM {l : PySem.W.OpenLaw} {n k : Nat} {q : Program} {loose : List Str} {XP : (Str → Option Value) → Heap → Prop} {YP : World → Heap → Prop} {d : DefRec} {x : Str}
    (hn : l.most = some n) (hn2 : n ≤ sizeLine) (hdf : d.params.defaults = []) (hr : Room k callerA)
    (F : ∀ (w : World) (mg : Str → Option Value) (fa : Addr) (h : Heap), YP w h → h.Ns mainGlobals mg → mg d.name = some (.ref fa) →
      ∃ (K : PySem.W.Frag) (fd : FuncData) (sp : Sp), K.In h ∧ (∀ (s : Shared) (u : Value), BindsTo s fd ⟨[u], []⟩ [(x, u)]) ∧
        (∀ (H : Hp) (a : Addr) (ns : List Int), ns.length ≤ n → Only H → SqL K H a (ns.map V.int) → sp [.ref a] H (fun v _ => v = .bl true) fun _ _ _ => False) ∧
        ∀ base : Heap, K.In base → base.Ns mainGlobals mg → FnOk l.prog w K mg base (L2N.CX l.prog w) k fa fd [x] sp) :
    PySem.W.WalkO q loose XP YP l.row.toRowW d [] (fun f vs => PySem.call f vs) := by
  refine Att.attach_call hn hdf fun w s₀ s₁ mg mb fa o pm cd doc a vs ns G Y ho hd hcd hmg hobj hints hlen hg => ?_
  obtain ⟨K, fd, sp, KX, hb, hsp, hF⟩ := F w mg fa _ Y G.T.g hmg
  exact law_call KX G.T.g G.T.b G.T.builtins G.T.nolimit hg hobj hints (Nat.le_trans hlen hn2) hr hF hb (fun H hO hS => hsp H a ns hlen hO hS) fun H e s' ⟨_, _, _, _, _, _, _, _, _, _, _, _, z⟩ => z

/-- the law's promise from its denotation -/
theorem sp_law {K : PySem.W.Frag} {mg : Str → Option Value} {g : List D → S → Out D} (n : Nat) (h : ∀ ns : List Int, ns.length ≤ n → ∃ st', g [.loc 0] [.fz (ns.map D.int)] = .ok (.bl true) st')
    (H : Hp) (a : Addr) (ns : List Int) (hl : ns.length ≤ n) (hO : Only H) (hS : SqL K H a (ns.map V.int)) : spG K mg g [.ref a] H (fun v _ => v = .bl true) fun _ _ _ => False := by
  have hf : FzL K H a (ns.map V.int) := by
    rcases hS with (h1 | ⟨o, h1⟩) | h2
    · rcases hO a with z | ⟨o, xs, z⟩
      · rw [z] at h1; cases h1
      · rw [z] at h1; cases h1
    · exact .inl ⟨o, h1⟩
    · exact .inr h2
  have hv : ∀ (l : List Int) (m : Nat → Addr) (j : Nat), RVs K m j H (l.map D.int) (l.map V.int) := by
    intro l m j
    induction l with
    | nil => exact rfl
    | cons i l ih => exact ⟨_, _, rfl, rfl, ih⟩
  refine ⟨fun _ => a, [.fz (ns.map D.int)], [.loc 0], ⟨fun k o e => ?_, fun i j oi oj ei ej mi mj q => ?_⟩, ⟨_, _, rfl, ⟨by simp, rfl⟩, rfl⟩, ?_⟩
  · cases k with
    | zero =>
      cases e
      exact ⟨_, hf, hv _ _ _⟩
    | succ k => simp at e
  · cases i with
    | zero =>
      cases ei
      cases mi
    | succ i => simp at ei
  · obtain ⟨st', e⟩ := h ns hl
    rw [e]
    exact fun m' H' r mn v rv => rv
end MP

set_option Elab.async false
set_option linter.all false
set_option maxRecDepth 100000
set_option maxHeartbeats 4000000
/-! MP8: equations for reckoning with denotations. -/
namespace MP
open PySem
def SO.then_ (o : SO) (k : En → S → SO) : SO := match o with
  | .nx ρ st => k ρ st
  | .rt d st => .rt d st
  | .bk ρ st => .bk ρ st
  | .ct ρ st => .ct ρ st
  | .ex e ρ st => .ex e ρ st
  | .bad => .bad
section
variable (k : En → S → SO) (ρ : En) (st : S) (d : D) (e : Ex)
@[simp] theorem then_nx : (SO.nx ρ st).then_ k = k ρ st := rfl
@[simp] theorem then_rt : (SO.rt d st).then_ k = .rt d st := rfl
@[simp] theorem then_bk : (SO.bk ρ st).then_ k = .bk ρ st := rfl
@[simp] theorem then_ct : (SO.ct ρ st).then_ k = .ct ρ st := rfl
@[simp] theorem then_ex : (SO.ex e ρ st).then_ k = .ex e ρ st := rfl
end
section
variable (ρ : En) (st : S)
@[simp] theorem sSkip_ap : sSkip ρ st = .nx ρ st := rfl
@[simp] theorem sSeq_ap (a b : FS) : sSeq a b ρ st = (a ρ st).then_ b := by unfold sSeq; cases a ρ st <;> rfl
@[simp] theorem sSet_ap (i : Nat) (e : FE) : sSet i e ρ st = (e ρ st).so ρ fun d st1 => .nx (ρ.set i (some d)) st1 := rfl
@[simp] theorem sExpr_ap (e : FE) : sExpr e ρ st = (e ρ st).so ρ fun _ st1 => .nx ρ st1 := rfl
@[simp] theorem sRet_ap (e : FE) : sRet e ρ st = (e ρ st).so ρ fun d st1 => .rt d st1 := rfl
@[simp] theorem sRetN_ap : sRetN ρ st = .rt .non st := rfl
@[simp] theorem sIf_ap (t : FT) (a b : FS) : sIf t a b ρ st = (t ρ st).so ρ fun c st1 => if c = true then a ρ st1 else b ρ st1 := rfl
@[simp] theorem sBreak_ap : sBreak ρ st = .bk ρ st := rfl
@[simp] theorem sCont_ap : sCont ρ st = .ct ρ st := rfl
@[simp] theorem sPar_ap (i j : Nat) (a : FA) : sPar i j a ρ st = (a ρ st).so ρ fun ds st1 => match ds with
  | [x, y] => .nx ((ρ.set i (some x)).set j (some y)) st1
  | _ => .bad := rfl
@[simp] theorem sAsg_ap (t : FG) (e : FE) : sAsg t e ρ st = (e ρ st).so ρ fun d st1 => match t d st1 ρ with
  | some ρ1 => .nx ρ1 st1
  | none => .bad := rfl
@[simp] theorem sRaise_ap (x : Str) (names : List Str) (a : FA) : sRaise x names a ρ st = (a ρ st).so ρ fun ds st1 => if ds.length = names.length then .ex ⟨x, st1.length⟩ ρ (st1 ++ [.xd (names.reverse.zip ds.reverse)]) else .bad := rfl
@[simp] theorem sStore_ap (o i e : FE) : sStore o i e ρ st = (e ρ st).so ρ fun d st1 => (o ρ st1).so ρ fun x st2 => (i ρ st2).so ρ fun y st3 => match gStore x y d st3 with
  | some st4 => .nx ρ st4
  | none => .bad := rfl
@[simp] theorem fC_ap (d : D) : fC d ρ st = .ok d st := rfl
@[simp] theorem fVar_ap (i : Nat) : fVar i ρ st = match ρ[i]? with
  | some (some d) => .ok d st
  | _ => .bad := rfl
@[simp] theorem fBin_ap (g : D → D → S → Option (D × S)) (a b : FE) : fBin g a b ρ st = (a ρ st).bind fun x st1 => (b ρ st1).bind fun y st2 => ofO (g x y st2) := rfl
@[simp] theorem fUn_ap (g : D → S → Option (D × S)) (a : FE) : fUn g a ρ st = (a ρ st).bind fun x st1 => ofO (g x st1) := rfl
@[simp] theorem fNil_ap : fNil ρ st = .ok [] st := rfl
@[simp] theorem fCons_ap (a : FE) (r : FA) : fCons a r ρ st = (a ρ st).bind fun x st1 => (r ρ st1).bind fun xs st2 => .ok (x :: xs) st2 := rfl
@[simp] theorem fTup_ap (a : FA) : fTup a ρ st = (a ρ st).bind fun ds st1 => .ok (.tup ds) st1 := rfl
@[simp] theorem fLst_ap (a : FA) : fLst a ρ st = (a ρ st).bind fun ds st1 => .ok (.loc st1.length) (st1 ++ [.lst ds]) := rfl
@[simp] theorem fArgs_ap (g : List D → S → Option (D × S)) (a : FA) : fArgs g a ρ st = (a ρ st).bind fun ds st1 => ofO (g ds st1) := rfl
@[simp] theorem fCall_ap (g : List D → S → Out D) (a : FA) : fCall g a ρ st = (a ρ st).bind fun ds st1 => g ds st1 := rfl
@[simp] theorem fLM_ap (g : D → List D → S → Option (D × S)) (o : FE) (a : FA) : fLM g o a ρ st = (o ρ st).bind fun x st1 => match x with
  | .loc n => match lstAt st1 n with
    | some _ => (a ρ st1).bind fun ds st2 => ofO (g (.loc n) ds st2)
    | none => .bad
  | _ => .bad := rfl
@[simp] theorem fIsB_ap (a : FE) : fIsB a ρ st = (a ρ st).bind fun x st1 => match x with
  | .bl b => .ok b st1
  | _ => .bad := rfl
@[simp] theorem fTru_ap (a : FE) : fTru a ρ st = (a ρ st).bind fun x st1 => match truD st1 x with
  | some b => .ok b st1
  | none => .bad := rfl
@[simp] theorem fAnd_ap (a b : FT) : fAnd a b ρ st = (a ρ st).bind fun x st1 => if x = true then b ρ st1 else .ok false st1 := rfl
@[simp] theorem fOr_ap (a b : FT) : fOr a b ρ st = (a ρ st).bind fun x st1 => if x = true then .ok true st1 else b ρ st1 := rfl
@[simp] theorem fNot_ap (a : FT) : fNot a ρ st = (a ρ st).bind fun x st1 => .ok (!x) st1 := rfl
@[simp] theorem fAndV_ap (a b : FE) : fAndV a b ρ st = (fIsB a ρ st).bind fun x st1 => if x = true then b ρ st1 else .ok (.bl false) st1 := rfl
@[simp] theorem fOrV_ap (a b : FE) : fOrV a b ρ st = (fIsB a ρ st).bind fun x st1 => if x = true then .ok (.bl true) st1 else b ρ st1 := rfl
@[simp] theorem fNotV_ap (a : FE) : fNotV a ρ st = (fIsB a ρ st).bind fun x st1 => .ok (.bl (!x)) st1 := rfl
@[simp] theorem fIf_ap (t : FT) (a b : FE) : fIf t a b ρ st = (t ρ st).bind fun x st1 => if x = true then a ρ st1 else b ρ st1 := rfl
@[simp] theorem fSl_ap (g : D → Option Int → Option Int → S → Option (D × S)) (a : FE) (lo hi : FO) : fSl g a lo hi ρ st = (a ρ st).bind fun x st1 => (lo ρ st1).bind fun l st2 => (hi ρ st2).bind fun u st3 => ofO (g x l u st3) := rfl
@[simp] theorem fNo_ap : fNo ρ st = .ok none st := rfl
@[simp] theorem fXf_ap (k : Nat) (e : Ex) (cs : List Str) (f : Str) (a : FE) : fXf k e cs f a ρ st = (a ρ st).bind (kXf k e cs f) := rfl
@[simp] theorem fIsX_ap (k : Nat) (e : Ex) (tb : List (Str × Bool)) (a : FE) : fIsX k e tb a ρ st = (a ρ st).bind (kIsX k e tb) := rfl
@[simp] theorem tgN_ap (i : Nat) (d : D) : tgN i d st ρ = some (ρ.set i (some d)) := rfl
end
def absI (i : Int) : Int := ((i.natAbs : Nat) : Int)
section
variable (st : S) (i j : Int) (a b : D) (r : List D)
@[simp] theorem truD_bl (x : Bool) : truD st (.bl x) = some x := rfl
@[simp] theorem truD_int : truD st (.int i) = some (i != 0) := rfl
@[simp] theorem gAdd_int : gAdd (.int i) (.int j) st = some (.int (i + j), st) := rfl
@[simp] theorem gSub_int : gSub (.int i) (.int j) st = some (.int (i - j), st) := rfl
@[simp] theorem gMul_int : gMul (.int i) (.int j) st = if MulOk i j then some (.int (i * j), st) else none := rfl
@[simp] theorem gDiv_int : gDiv (.int i) (.int j) st = if DivOk j then some (.int (i / j), st) else none := rfl
@[simp] theorem gMod_int : gMod (.int i) (.int j) st = if 0 < j then some (.int (i % j), st) else none := rfl
@[simp] theorem gPow_int : gPow (.int i) (.int j) st = if 0 ≤ j ∧ j ≤ 1000000 ∧ i.natAbs < 2 ^ 64 then some (.int (i ^ j.toNat), st) else none := rfl
@[simp] theorem gNeg_int : gNeg (.int i) st = some (.int (-i), st) := rfl
@[simp] theorem gLt_int : gLt (.int i) (.int j) st = some (.bl (decide (i < j)), st) := rfl
@[simp] theorem gLe_int : gLe (.int i) (.int j) st = some (.bl (decide (i ≤ j)), st) := rfl
@[simp] theorem gGt_int : gGt (.int i) (.int j) st = some (.bl (decide (j < i)), st) := rfl
@[simp] theorem gGe_int : gGe (.int i) (.int j) st = some (.bl (decide (j ≤ i)), st) := rfl
@[simp] theorem gEq_int : gEq (.int i) (.int j) st = some (.bl (decide (i = j)), st) := rfl
@[simp] theorem gNe_int : gNe (.int i) (.int j) st = some (.bl (!decide (i = j)), st) := rfl
@[simp] theorem gIs_bl (x y : Bool) : gIs (.bl x) (.bl y) st = some (.bl (decide (x = y)), st) := rfl
@[simp] theorem gIsNot_bl (x y : Bool) : gIsNot (.bl x) (.bl y) st = some (.bl (!decide (x = y)), st) := rfl
@[simp] theorem gLen_tup (xs : List D) : gLen [.tup xs] st = some (.int xs.length, st) := rfl
theorem gLen_loc {n : Nat} {xs : List D} (h : lstAt st n = some xs) : gLen [.loc n] st = some (.int xs.length, st) := by unfold gLen; simp only [h]
@[simp] theorem gAbs_int : gAbs [.int i] st = some (.int (absI i), st) := by
  show some (D.int (if i < 0 then -i else i), st) = _
  have : (if i < 0 then -i else i) = absI i := by unfold absI; split <;> omega
  rw [this]
@[simp] theorem gInt_int : gInt [.int i] st = some (.int i, st) := rfl
@[simp] theorem gGcd_int : gGcd [.int i, .int j] st = some (.int ((Nat.gcd i.natAbs j.natAbs : Nat) : Int), st) := rfl
@[simp] theorem gStr_int : gStr [.int i] st = if i.natAbs.log2 < 1920 then some (.str (toString i), st) else none := rfl
@[simp] theorem gIx_tup (xs : List D) : gIx (.tup xs) (.int i) st = (L2.atI xs i).map fun d => (d, st) := rfl
theorem gIx_loc {n : Nat} {xs : List D} (h : lstAt st n = some xs) : gIx (.loc n) (.int i) st = (L2.atI xs i).map fun d => (d, st) := by unfold gIx; simp only [h]
@[simp] theorem atI_0 : L2.atI (a :: r) 0 = some a := by unfold L2.atI L2.ixN; simp
@[simp] theorem atI_1 : L2.atI (a :: b :: r) 1 = some b := by
  unfold L2.atI L2.ixN
  have h1 : (1 : Int) < ((a :: b :: r).length : Int) := by simp only [List.length_cons]; omega
  rw [if_pos (by decide), if_pos h1]
  rfl
theorem atI_nat {xs : List D} {k : Nat} {d : D} (h : xs[k]? = some d) : L2.atI xs (k : Int) = some d := by
  have hk : k < xs.length := (List.getElem?_eq_some_iff.mp h).1
  unfold L2.atI L2.ixN
  have h1 : (0 : Int) ≤ k := Int.natCast_nonneg k
  have h2 : (k : Int) < xs.length := by omega
  simp only [h1, h2, if_true, Option.bind_some, Int.toNat_natCast]
  first | exact h | simp [h]
@[simp] theorem gIsi_non (T : String) : gIsi T .non st = some (.bl (isiT T "NoneType"), st) := rfl
@[simp] theorem gIsi_bl (T : String) (x : Bool) : gIsi T (.bl x) st = some (.bl (isiT T "bool"), st) := rfl
@[simp] theorem gIsi_int (T : String) : gIsi T (.int i) st = some (.bl (isiT T "int"), st) := rfl
@[simp] theorem gIsi_str (T : String) (x : Str) : gIsi T (.str x) st = some (.bl (isiT T "str"), st) := rfl
@[simp] theorem gIsi_tup (T : String) (xs : List D) : gIsi T (.tup xs) st = some (.bl (isiT T "tuple"), st) := rfl
theorem gIsi_loc {T : String} {n : Nat} {xs : List D} (h : lstAt st n = some xs) : gIsi T (.loc n) st = some (.bl (isiT T "list"), st) := by unfold gIsi; simp only [h]
@[simp] theorem isiT_tt : isiT "tuple" "tuple" = true := by decide
@[simp] theorem isiT_ti : isiT "tuple" "int" = false := by decide
@[simp] theorem isiT_tn : isiT "tuple" "NoneType" = false := by decide
@[simp] theorem isiT_tb : isiT "tuple" "bool" = false := by decide
@[simp] theorem isiT_ts : isiT "tuple" "str" = false := by decide
@[simp] theorem isiT_tl : isiT "tuple" "list" = false := by decide
@[simp] theorem isiT_ii : isiT "int" "int" = true := by decide
@[simp] theorem isiT_ib : isiT "int" "bool" = true := by decide
@[simp] theorem isiT_in : isiT "int" "NoneType" = false := by decide
@[simp] theorem isiT_is : isiT "int" "str" = false := by decide
@[simp] theorem isiT_it : isiT "int" "tuple" = false := by decide
@[simp] theorem isiT_il : isiT "int" "list" = false := by decide
@[simp] theorem isiT_bb : isiT "bool" "bool" = true := by decide
@[simp] theorem isiT_bi : isiT "bool" "int" = false := by decide
@[simp] theorem isiT_bn : isiT "bool" "NoneType" = false := by decide
@[simp] theorem isiT_bs : isiT "bool" "str" = false := by decide
@[simp] theorem isiT_bt : isiT "bool" "tuple" = false := by decide
@[simp] theorem isiT_ll : isiT "list" "list" = true := by decide
@[simp] theorem isiT_lt : isiT "list" "tuple" = false := by decide
end
theorem den_rt {n : Nat} {f : FS} {ds : List D} {st st' : S} {d : D} (h : f (ds.map some ++ List.replicate (n - ds.length) none) st = .rt d st') : den n f ds st = .ok d st' := by
  unfold den
  rw [h]
theorem den_nx {n : Nat} {f : FS} {ds : List D} {st st' : S} {ρ : En} (h : f (ds.map some ++ List.replicate (n - ds.length) none) st = .nx ρ st') : den n f ds st = .ok .non st' := by
  unfold den
  rw [h]
theorem den_ex {n : Nat} {f : FS} {ds : List D} {st st' : S} {ρ : En} {e : Ex} (h : f (ds.map some ++ List.replicate (n - ds.length) none) st = .ex e ρ st') : den n f ds st = .exc e st' := by
  unfold den
  rw [h]
def SO.out : SO → Out D
  | .rt d st => .ok d st
  | .nx _ st => .ok .non st
  | .ex e _ st => .exc e st
  | _ => .bad
@[simp] theorem out_rt (d : D) (st : S) : (SO.rt d st).out = .ok d st := rfl
@[simp] theorem out_nx (ρ : En) (st : S) : (SO.nx ρ st).out = .ok .non st := rfl
@[simp] theorem out_ex (e : Ex) (ρ : En) (st : S) : (SO.ex e ρ st).out = .exc e st := rfl
theorem den_ap (n : Nat) (f : FS) (ds : List D) (st : S) : den n f ds st = (f (ds.map some ++ List.replicate (n - ds.length) none) st).out := by
  unfold den
  cases f (ds.map some ++ List.replicate (n - ds.length) none) st <;> rfl
/-- MulOk of not too large numbers -/
theorem mulok_small {i j : Int} (hi : i.natAbs < 2 ^ 400000) (hj : j.natAbs < 2 ^ 400000) : MulOk i j := by
  refine Or.inr ?_
  show i.natAbs.log2 + j.natAbs.log2 < 1000000
  have h : ∀ n : Nat, n < 2 ^ 400000 → n.log2 < 400000 := fun n h => by
    by_cases h0 : n = 0
    · subst h0; rw [Nat.log2_zero]; omega
    · exact (Nat.log2_lt h0).mpr h
  have := h _ hi
  have := h _ hj
  omega
theorem mulok_r {i j : Int} (h1 : -(2 ^ 64) < j) (h2 : j < 2 ^ 64) : MulOk i j := Or.inl (Or.inr ⟨h1, h2⟩)
theorem mulok_l {i j : Int} (h1 : -(2 ^ 64) < i) (h2 : i < 2 ^ 64) : MulOk i j := Or.inl (Or.inl ⟨h1, h2⟩)
theorem divok_small {j : Int} (h1 : 0 < j) (h2 : j.natAbs < 2 ^ 8000) : DivOk j := by
  refine ⟨h1, ?_⟩
  have h0 : j.natAbs ≠ 0 := by omega
  have := (Nat.log2_lt h0).mpr h2
  omega
end MP

set_option Elab.async false
set_option linter.all false
set_option maxRecDepth 100000
set_option maxHeartbeats 4000000
/-! MP9: the store in reckoning; loops. -/
namespace MP
open PySem
section
variable {st : S} {n : Nat} {xs : List D} {d : D}
theorem lstAt_lst (h : st[n]? = some (.lst xs)) : lstAt st n = some xs := by unfold lstAt; simp only [h]
theorem lstAt_fz (h : st[n]? = some (.fz xs)) : lstAt st n = some xs := by unfold lstAt; simp only [h]
@[simp] theorem ixN_0 (k : Nat) : L2.ixN (k + 1) 0 = some 0 := by unfold L2.ixN; simp
@[simp] theorem ixN_1 (k : Nat) : L2.ixN (k + 1 + 1) 1 = some 1 := by
  unfold L2.ixN
  rw [if_pos (by decide), if_pos (by omega)]
  rfl
@[simp] theorem ixN_2 (k : Nat) : L2.ixN (k + 1 + 1 + 1) 2 = some 2 := by
  unfold L2.ixN
  rw [if_pos (by decide), if_pos (by omega)]
  rfl
@[simp] theorem atI_2 (a b c : D) (r : List D) : L2.atI (a :: b :: c :: r) 2 = some c := by unfold L2.atI; simp
theorem gStore_loc {k : Int} {j : Nat} (h : st[n]? = some (.lst xs)) (hj : L2.ixN xs.length k = some j) : gStore (.loc n) (.int k) d st = some (st.set n (.lst (xs.set j d))) := by
  unfold gStore
  simp only [h, hj, Option.map_some]
theorem gPop_at {k : Int} {j : Nat} (h : st[n]? = some (.lst xs)) (hk : -(2 ^ 63) ≤ k ∧ k < 2 ^ 63) (hj : seqIndex? k xs.length = some j) (hd : xs[j]? = some d) : gPop (.loc n) [.int k] st = some (d, st.set n (.lst (xs.eraseIdx j))) := by
  unfold gPop
  simp only [h, hk, and_self, if_true, hj, hd, Option.map_some]
theorem gAppend_loc (h : st[n]? = some (.lst xs)) (hl : xs.length < sizeLine) : gAppend (.loc n) [d] st = some (.non, st.set n (.lst (xs ++ [d]))) := by
  unfold gAppend
  simp only [h, hl, if_true]
theorem gInsert_loc {i : Nat} (h : st[n]? = some (.lst xs)) (hl : xs.length < sizeLine) (hi : i ≤ xs.length) : gInsert (.loc n) [.int i, d] st = some (.non, st.set n (.lst (xs.take i ++ [d] ++ xs.drop i))) := by
  unfold gInsert
  have h1 : sizeLine = 16777216 := sizeLine_eq
  have h2 : (0 : Int) ≤ i ∧ (i : Int) < 2 ^ 63 := ⟨by omega, by omega⟩
  simp only [h, hl, h2, and_self, if_true, Int.toNat_natCast]
theorem set_at {o : Ob} (h : n < st.length) : (st.set n o)[n]? = some o := by
  rw [List.getElem?_set_self h]
theorem set_ne {o : Ob} {k : Nat} (h : k ≠ n) : (st.set n o)[k]? = st[k]? := List.getElem?_set_ne (Ne.symm h)
theorem app_old {o : Ob} {k : Nat} {ob : Ob} (h : st[k]? = some ob) : (st ++ [o])[k]? = some ob := by
  rw [List.getElem?_append_left (List.getElem?_eq_some_iff.mp h).1]
  exact h
theorem app_new {o : Ob} : (st ++ [o])[st.length]? = some o := by simp
theorem lt_of_at {ob : Ob} (h : st[n]? = some ob) : n < st.length := (List.getElem?_eq_some_iff.mp h).1
end
/-! ### loops -/
theorem sLoop_nil {chk : S → Bool} {t : FG} {body : FS} {ρ : En} {st : S} : sLoop chk t body [] ρ st = if chk st = true then .nx ρ st else .bad := rfl
/-- a loop that runs through: I holds ahead of each turn (done, to come) -/
theorem loop_inv {chk : S → Bool} {t : FG} {body : FS} (I : List D → List D → En → S → Prop)
    (hstep : ∀ don d ds ρ st, I don (d :: ds) ρ st → chk st = true ∧ ∃ ρ1, t d st ρ = some ρ1 ∧ ∃ ρ2 st2, (body ρ1 st = .nx ρ2 st2 ∨ body ρ1 st = .ct ρ2 st2) ∧ I (don ++ [d]) ds ρ2 st2)
    (hend : ∀ don ρ st, I don [] ρ st → chk st = true) : ∀ (ds don : List D) (ρ : En) (st : S), I don ds ρ st → ∃ ρ' st', sLoop chk t body ds ρ st = .nx ρ' st' ∧ I (don ++ ds) [] ρ' st'
  | [], don, ρ, st, h => ⟨ρ, st, by rw [sLoop_nil, if_pos (hend _ _ _ h)], by rw [List.append_nil]; exact h⟩
  | d :: ds, don, ρ, st, h => by
    obtain ⟨hc, ρ1, ht, ρ2, st2, hb, hI⟩ := hstep don d ds ρ st h
    obtain ⟨ρ', st', h1, h2⟩ := loop_inv I hstep hend ds (don ++ [d]) ρ2 st2 hI
    refine ⟨ρ', st', ?_, by rw [List.append_assoc] at h2; exact h2⟩
    unfold sLoop
    rw [if_pos hc, ht]
    rcases hb with hb | hb <;> (simp only [hb]; exact h1)
theorem rangeD_len (n : Nat) : (rangeD 0 n).length = n := by unfold rangeD; simp

theorem sForR1_ok {a : FA} {t : FG} {body : FS} {ρ : En} {st st1 : S} {j : Int} (h : a ρ st = .ok [.int j] st1) (hs : Small62 j) : sForR1 a t body ρ st = sLoop (fun _ => true) t body (rangeD 0 j) ρ st1 := by
  unfold sForR1
  rw [h]
  simp only [Out.so_ok]
  rw [if_pos hs]
theorem sFor_loc {e : FE} {t : FG} {body : FS} {ρ : En} {st st1 : S} {n : Nat} {ds : List D} (h : e ρ st = .ok (.loc n) st1) (hl : lstAt st1 n = some ds) : sFor e t body ρ st = sLoop (fun s => decide (lstAt s n = some ds)) t body ds ρ st1 := by
  unfold sFor
  rw [h]
  simp only [Out.so_ok, hl]
theorem sFor_tup {e : FE} {t : FG} {body : FS} {ρ : En} {st st1 : S} {ds : List D} (h : e ρ st = .ok (.tup ds) st1) : sFor e t body ρ st = sLoop (fun _ => true) t body ds ρ st1 := by
  unfold sFor
  rw [h]
  simp only [Out.so_ok]
theorem small_nat {n : Nat} (h : n < 1000000) : Small62 (n : Int) := by unfold Small62; omega
end MP

set_option Elab.async false
set_option linter.all false
set_option maxRecDepth 100000
set_option maxHeartbeats 4000000
/-! MPT: texts: methods of one text argument. -/
namespace MP
open PySem L2
def rM1 (K : PySem.W.Frag) (g : D → D → S → Option (D × S)) : V → List V → Hp → VK → Prop := fun x xs H Q => ∃ m st dx dy d st' y, xs = [y] ∧ RS K m st H ∧ RV K m st.length H dx x ∧ RV K m st.length H dy y ∧ g dx dy st = some (d, st') ∧ Fin K m st H d st' Q
def gFind (x y : D) (st : S) : Option (D × S) := match x, y with
  | .str a, .str b => some (.int (Txt.find a b), st)
  | _, _ => none
def gStarts (x y : D) (st : S) : Option (D × S) := match x, y with
  | .str a, .str b => some (.bl (Txt.startswith a b), st)
  | _, _ => none
def gSplit (x y : D) (st : S) : Option (D × S) := match x, y with
  | .str a, .str b => if (b.length == 0) = false ∧ a.length + 2 ≤ sizeLine then some (.loc st.length, st ++ [.lst ((Txt.split a b).map D.str)]) else none
  | _, _ => none
section
variable {X : Cx} {W : Wc} {o e : Expr} {fo fa : FE}
theorem mtd_find : MtR X "str.find" (rM1 X.K gFind) := by
  intro pins s σ H x xs v us Q I rx rv h
  obtain ⟨m, st, dx, dy, d, st', y, rfl, rs, r1, r2, e, fin⟩ := h
  unfold gFind at e
  split at e
  · cases r1; cases r2; cases e
    exact mt_find pins s σ H _ _ v us Q I rx rv ⟨_, _, rfl, rfl, fin.here rs rfl⟩
  · cases e
theorem mtd_starts : MtR X "str.startswith" (rM1 X.K gStarts) := by
  intro pins s σ H x xs v us Q I rx rv h
  obtain ⟨m, st, dx, dy, d, st', y, rfl, rs, r1, r2, e, fin⟩ := h
  unfold gStarts at e
  split at e
  · cases r1; cases r2; cases e
    exact mt_startswith pins s σ H _ _ v us Q I rx rv ⟨_, _, rfl, rfl, fin.here rs rfl⟩
  · cases e
def fM1 (g : D → D → S → Option (D × S)) (o a : FE) : FE := fun ρ st => (o ρ st).bind fun x st1 => match x with
  | .str _ => (a ρ st1).bind fun y st2 => ofO (g x y st2)
  | _ => .bad
theorem je_m1 {id : String} {name : Str} {apos pos : Pos} {g : D → D → S → Option (D × S)} (slot : Slot "str" name id) (ty : typeOf (.builtin id) = pure (.type "method_descriptor")) (rule : MtR X id (rM1 X.K g)) (ho : JE X W o fo) (he : JE X W e fa)
    (hs : starEach [e] X.env = [(false, eval e X.env)] := by rfl) (hbase : attributeBase o name X.env (eval o X.env) = eval o X.env := by rfl) (hline : (apos.endLine == pos.line) = true := by rfl) :
    JE X W (.Call (.Attribute o name apos) [e] [] pos) (fM1 g fo fa) := by
  refine pe_imp (pe_m1 slot ty rule ho he hs hbase hline) fun σ H Q h => ?_
  obtain ⟨m, st, ρ, rs, re, h⟩ := h
  refine re_bind (α := D) (k := fun x st1 ρ => match x with | .str _ => (fa ρ st1).bind fun y st2 => ofO (g x y st2) | _ => .bad) rs re h fun x st1 m1 H1 v1 r1 re1 mn1 rv1 h1 => ?_
  cases x with
  | str a =>
    obtain rfl : v1 = .str a := rv1
    refine ⟨⟨a, rfl⟩, ?_⟩
    refine re_bind (k := fun y st2 ρ => ofO (g (.str a) y st2)) r1 re1 h1 fun y st2 m2 H2 v2 r2 re2 mn2 rv2 h2 => ?_
    obtain ⟨d, st', e, fin⟩ := meet_fin h2
    exact ⟨m2, st2, .str a, y, d, st', v2, rfl, r2, rfl, rv2, e, fin⟩
  | _ => exact h1.elim
theorem mtd_split : MtR X "str.split" (rM1 X.K gSplit) := by
  intro pins s σ H x xs v us Q I rx rv h
  obtain ⟨m, st, dx, dy, d, st', y, rfl, rs, r1, r2, e, fin⟩ := h
  unfold gSplit at e
  split at e
  · cases r1; cases r2
    split at e
    · rename_i a b hc
      cases e
      have hv : ∀ l : List Str, RVs X.K m st.length H (l.map D.str) (l.map V.str) := fun l => by
        induction l with
        | nil => exact rfl
        | cons x l ih => exact ⟨_, _, rfl, rfl, ih⟩
      exact mt_split pins s σ H _ _ v us Q I rx rv ⟨_, _, rfl, rfl, hc.1, hc.2, fun p hp => fin.lst rs (hv _) hp⟩
    · cases e
  · cases e
/-- c in x, c not in x: c a text of one sign -/
def inS (n : Bool) (x y : D) (st : S) : Option (D × S) := match x, y with
  | .str a, .str z => (match a.cps.toList with
    | [c] => some (.bl (if n then !decide (c ∈ z.cps.toList) else decide (c ∈ z.cps.toList)), st)
    | _ => none)
  | _, _ => none
theorem one_sign {a : Str} {c : Nat} (h : a.cps.toList = [c]) : a = ⟨#[c]⟩ := by
  obtain ⟨⟨l⟩⟩ := a
  simp only at h
  rw [h]
theorem opd_inS : OpR X (compareOp .In) (rD X.K (inS false)) := by
  intro pins s σ H x y v u Q I rx ry h
  obtain ⟨m, st, dx, dy, d, st', rs, r1, r2, e, fin⟩ := h
  unfold inS at e
  split at e
  · cases r1; cases r2
    split at e
    · rename_i hc
      cases e
      rw [one_sign hc] at rx
      exact op_in_sign pins s σ H _ _ v u Q I rx ry ⟨_, _, rfl, rfl, fin.here rs rfl⟩
    · cases e
  · cases e
theorem opd_notInS : OpR X (compareOp .NotIn) (rD X.K (inS true)) := by
  intro pins s σ H x y v u Q I rx ry h
  obtain ⟨m, st, dx, dy, d, st', rs, r1, r2, e, fin⟩ := h
  unfold inS at e
  split at e
  · cases r1; cases r2
    split at e
    · rename_i hc
      cases e
      rw [one_sign hc] at rx
      exact op_notIn_sign pins s σ H _ _ v u Q I rx ry ⟨_, _, rfl, rfl, fin.here rs rfl⟩
    · cases e
  · cases e
/-- int(x) of a text -/
def gIntS (ds : List D) (st : S) : Option (D × S) := match ds with
  | [.str a] => (match PySem.intText? a with
    | some n => if a.length ≤ 640 then some (.int n, st) else none
    | none => none)
  | ds => gInt ds st
theorem cad_intS : CallR X (.type "int") (rDL X.K gIntS) := by
  intro pins s σ H xs us Q I r h
  obtain ⟨m, st, ds, d, st', rs, r1, e, fin⟩ := h
  unfold gIntS at e
  split at e
  · rename_i a
    split at e
    · rename_i n hn
      split at e
      · rename_i hl
        cases e
        obtain ⟨v, w, rfl, hv, hw⟩ := r1
        cases hv; cases hw
        exact call_int_str pins s σ H _ us Q I r ⟨_, n, rfl, hn, hl, fin.here rs rfl⟩
      · cases e
    · cases e
  · exact cad_int pins s σ H xs us Q I r ⟨m, st, _, d, st', rs, r1, e, fin⟩
/-- {x} in an f-string -/
def fFmt (a : FE) : FE := fun ρ st => (a ρ st).bind fun x st1 => match x with
  | .str y => if y.length ≤ sizeLine then .ok (.str y) st1 else .bad
  | .int i => if i.natAbs.log2 < 1920 then .ok (.str (toString i)) st1 else .bad
  | _ => .bad
theorem je_fmt {pos : Pos} (he : JE X W e fa) : JE X W (.FormattedValue e (-1) none pos) (fFmt fa) := by
  refine pe_imp (pe_fmt he) fun σ H Q h => ?_
  obtain ⟨m, st, ρ, rs, re, h⟩ := h
  refine re_bind (α := D) (k := fun x st1 ρ => match x with | .str y => if y.length ≤ sizeLine then .ok (.str y) st1 else .bad | .int i => if i.natAbs.log2 < 1920 then .ok (.str (toString i)) st1 else .bad | _ => .bad) rs re h fun x st1 m1 H1 v1 r1 re1 mn1 rv1 h1 => ?_
  cases x with
  | str y =>
    obtain rfl : v1 = .str y := rv1
    simp only at h1
    split at h1
    · rename_i hz
      exact .inl ⟨y, rfl, hz, h1 m1 H1 r1 Mn.refl _ rfl⟩
    · exact h1.elim
  | int i =>
    obtain rfl : v1 = .int i := rv1
    simp only at h1
    split at h1
    · rename_i hz
      exact .inr ⟨i, rfl, hz, h1 m1 H1 r1 Mn.refl _ rfl⟩
    · exact h1.elim
  | _ => exact h1.elim
end
def fJs : List FE → Str → FE
  | [], acc => fun _ st => .ok (.str acc) st
  | f :: r, acc => fun ρ st => (f ρ st).bind fun x st1 => match x with
    | .str y => if (acc ++ y).length ≤ sizeLine then fJs r (acc ++ y) ρ st1 else .bad
    | _ => .bad
inductive JP (X : Cx) (W : Wc) : List Expr → List FE → Prop
  | nil : JP X W [] []
  | cons {e : Expr} {f : FE} {es : List Expr} {fs : List FE} (h : JE X W e f) (r : JP X W es fs) : JP X W (e :: es) (f :: fs)
section
variable {X : Cx} {W : Wc}
theorem JP.pj {es : List Expr} {fs : List FE} (h : JP X W es fs) : PJ X es (fs.map (rE X.K X.mg W)) := by
  induction h with
  | nil => exact .nil
  | cons h _ ih => exact .cons h ih
theorem js_imp : ∀ (fs : List FE) (acc : Str) {σ : L2.St} {H : Hp} {Q : VK}, rE X.K X.mg W (fJs fs acc) σ H Q → tJs (fs.map (rE X.K X.mg W)) acc σ H fun out H1 => Q (.str out) H1
  | [], acc, σ, H, Q, ⟨m, st, ρ, rs, re, h⟩ => h m H rs Mn.refl _ rfl
  | f :: fs, acc, σ, H, Q, ⟨m, st, ρ, rs, re, h⟩ => by
    refine re_bind (α := D) (k := fun x st1 ρ => match x with | .str y => if (acc ++ y).length ≤ sizeLine then fJs fs (acc ++ y) ρ st1 else .bad | _ => .bad) rs re h fun x st1 m1 H1 v1 r1 re1 mn1 rv1 h1 => ?_
    cases x with
    | str y =>
      obtain rfl : v1 = .str y := rv1
      simp only at h1
      split at h1
      · rename_i hz
        exact ⟨y, rfl, hz, js_imp fs (acc ++ y) ⟨m1, st1, ρ, r1, re1, h1⟩⟩
      · exact h1.elim
    | _ => exact h1.elim
theorem je_joined {v1 v2 : Expr} {rest : List Expr} {fs : List FE} {pos : Pos} (h : JP X W (v1 :: v2 :: rest) fs) : JE X W (.JoinedStr (v1 :: v2 :: rest) pos) (fJs fs Str.empty) :=
  pe_imp (pe_joined h.pj) fun σ H Q h => js_imp fs _ h
end

def strB (x z : Str) : FrB := faB (.str x z)
theorem str_of {K : PySem.W.Frag} {h : Heap} {mg : Str → Option Value} (X : K.In h) (G : h.Ns mainGlobals mg) {x z : Str} (c : strB x z K = true) : ∃ u, mg x = some u ∧ KD K (.str z) u := by
  obtain ⟨t, e⟩ := He.str_ok X G c
  exact ⟨_, e, .str z, ⟨t, rfl⟩, fun _ _ _ => rfl⟩
theorem sl_find : Slot "str" "find" "str.find" := PySem.F.slot_str_find
theorem sl_startswith : Slot "str" "startswith" "str.startswith" := PySem.F.slot_str_startswith
theorem sl_split : Slot "str" "split" "str.split" := PySem.F.slot_str_split
theorem ty_find : typeOf (.builtin "str.find") = pure (.type "method_descriptor") := PySem.F.type_str_find
theorem ty_startswith : typeOf (.builtin "str.startswith") = pure (.type "method_descriptor") := PySem.F.type_str_startswith
theorem ty_split : typeOf (.builtin "str.split") = pure (.type "method_descriptor") := PySem.F.type_str_split
end MP

set_option Elab.async false
set_option linter.all false
set_option maxRecDepth 100000
set_option maxHeartbeats 4000000
/-! MPL: what is walked (sources), loops over them, list comprehensions. -/
namespace MP
open PySem L2
abbrev FI := En → S → Out (List D × (S → Bool))
def Serves (K : PySem.W.Frag) (m0 : Nat → Addr) (n0 : Nat) (H0 : Hp) (J : It) (ds : List D) (chk : S → Bool) : Prop :=
  ∀ m st H, RS K m st H → Mn K m0 n0 H0 m st.length H → chk st = true →
    (∀ i d, ds[i]? = some d → J.go i H ∧ ∀ x H', J.yld i H x H' → RS K m st H' ∧ Mn K m st.length H m st.length H' ∧ RV K m st.length H' d x) ∧ J.stop ds.length H
def rI (K : PySem.W.Frag) (mg : Str → Option Value) (W : Wc) (f : FI) : TI := fun σ H R => ∃ m st ρ, RS K m st H ∧ RE W.gh K m st.length H ρ σ ∧
  Meet K mg m st.length H (f ρ st) (fun p st' m' H' => ∀ J, Serves K m' st'.length H' J p.1 p.2 → R J H') (fun cls od H' => W.W cls od σ H')
abbrev JI (X : Cx) (W : Wc) (tg e : Expr) (f : FI) : Prop := PI X tg e (rI X.K X.mg W f)
theorem pi_imp {X : Cx} {tg e : Expr} {t t' : TI} (h : PI X tg e t) (hi : ∀ σ H R, t' σ H R → t σ H R) : PI X tg e t' := ⟨fun pins s σ H R I hw => h.run pins s σ H R I (hi σ H R hw)⟩
/-! ### loops -/
theorem loopS {K : PySem.W.Frag} {mg : Str → Option Value} {W : Wc} {J : It} {ds : List D} {chk : S → Bool} {g : FG} {body : FS} {E : Ends} {m0 : Nat → Addr} {n0 : Nat} {H0 : Hp} (hJ : Serves K m0 n0 H0 J ds chk)
    {m : Nat → Addr} {st : S} {ρ : En} {σ : L2.St} {H : Hp} (rs : RS K m st H) (re : RE W.gh K m st.length H ρ σ) (r0 : Mn K m0 n0 H0 m st.length H) (h : MeetS K mg W m st.length H (sLoop chk g body ds ρ st) E) :
    ∃ Wd : Nat → Nat → L2.St → Hp → Prop, (∃ k, Wd 0 k σ H) ∧ ∀ i k σ H, Wd i k σ H → (J.stop i H ∧ E.nx σ H) ∨ (J.go i H ∧ ∃ N : L2.St → Hp → Prop, (∀ σ' H', N σ' H' → ∃ k', k' < k ∧ Wd (i + 1) k' σ' H') ∧ ∀ x H', J.yld i H x H' → rG K W g x σ H' fun σ2 H2 => rS K mg W body { E with nx := N, ct := N, bk := E.nx } σ2 H2) := by
  refine ⟨fun i k σ H => k = ds.length - i ∧ i ≤ ds.length ∧ ∃ m st ρ, RS K m st H ∧ RE W.gh K m st.length H ρ σ ∧ Mn K m0 n0 H0 m st.length H ∧ MeetS K mg W m st.length H (sLoop chk g body (ds.drop i) ρ st) E, ⟨_, rfl, Nat.zero_le _, m, st, ρ, rs, re, r0, h⟩, ?_⟩
  rintro i k σ H ⟨rfl, hi, m, st, ρ, rs, re, r0, h⟩
  by_cases hlt : i < ds.length
  · have e : ds.drop i = ds[i] :: ds.drop (i + 1) := List.drop_eq_getElem_cons hlt
    rw [e] at h
    unfold sLoop at h
    by_cases hc : chk st = true
    · rw [if_pos hc] at h
      have hd : ds[i]? = some ds[i] := List.getElem?_eq_getElem hlt
      obtain ⟨j1, j2⟩ := (hJ m st H rs r0 hc).1 i ds[i] hd
      refine .inr ⟨j1, fun σ' H' => ∃ m st ρ, RS K m st H' ∧ RE W.gh K m st.length H' ρ σ' ∧ Mn K m0 n0 H0 m st.length H' ∧ MeetS K mg W m st.length H' (sLoop chk g body (ds.drop (i + 1)) ρ st) E, fun σ' H' z => ⟨ds.length - (i + 1), by omega, rfl, hlt, z⟩, fun x H' y => ?_⟩
      obtain ⟨rs', mn', rv'⟩ := j2 x H' y
      have h := MeetS.later h mn'
      have re' := re.mono mn'
      have r0' := r0.trans mn'
      cases q : g ds[i] st ρ with
      | none => rw [q] at h; exact h.elim
      | some ρ1 =>
        rw [q] at h
        refine ⟨m, st, ρ, ds[i], ρ1, rs', re', rv', q, fun σ1 re1 => ⟨m, st, ρ1, rs', re1, ?_⟩⟩
        cases b : body ρ1 st with
        | nx ρ2 st2 =>
          simp only [b] at h
          exact fun m2 H2 σ2 r2 mn2 re2 => ⟨m2, st2, ρ2, r2, re2, r0'.trans mn2, MeetS.later h mn2⟩
        | ct ρ2 st2 =>
          simp only [b] at h
          exact fun m2 H2 σ2 r2 mn2 re2 => ⟨m2, st2, ρ2, r2, re2, r0'.trans mn2, MeetS.later h mn2⟩
        | bk ρ2 st2 => simp only [b] at h; exact h
        | rt d st2 => simp only [b] at h; exact h
        | ex e ρ2 st2 => simp only [b] at h; exact h
        | bad => simp only [b] at h; exact h
    · rw [if_neg hc] at h; exact h.elim
  · have e : i = ds.length := by omega
    subst e
    rw [List.drop_length] at h
    unfold sLoop at h
    by_cases hc : chk st = true
    · rw [if_pos hc] at h
      exact .inl ⟨(hJ m st H rs r0 hc).2, h m H σ rs Mn.refl re⟩
    · rw [if_neg hc] at h; exact h.elim
def sForI (fi : FI) (t : FG) (body : FS) : FS := fun ρ st => (fi ρ st).so ρ fun p st1 => sLoop p.2 t body p.1 ρ st1
section
variable {X : Cx} {W : Wc} {tg e iter elt : Expr} {sts : List Stmt} {fe : FE} {fs : FA} {fi : FI} {g : FG} {body : FS} {ft : FT} {pos p p2 : Pos}
theorem js_forI (hp : PassesOwn (model X.prog X.w) X.A X.env X.xe) (hc : X.calm = true) (hi : JI X W tg iter fi) (hg : JG X W tg g) (hb : JB X W sts body) (hs : ∀ x, foldedSetIterable iter X.env x = pure x := by intro _; rfl) : JS X W (.For tg iter sts [] pos) (sForI fi g body) := by
  refine ps_imp (ps_for hp hc hi hg hb hs) fun E σ H h => ?_
  obtain ⟨m, st, ρ, rs, re, h⟩ := h
  refine ⟨m, st, ρ, rs, re, ?_⟩
  unfold sForI at h
  cases q : fi ρ st with
  | ok p st1 =>
    rw [q] at h
    exact fun m1 H1 r1 mn J hJ => loopS hJ r1 (re.mono mn) Mn.refl (MeetS.later h mn)
  | exc x st1 =>
    rw [q] at h
    exact fun m1 H1 cls od r1 mn rx => h m1 H1 σ cls od r1 mn (re.mono mn) rx
  | bad => rw [q] at h; exact h
/-! ### sources -/
def fSeq (fe : FE) : FI := fun ρ st => (fe ρ st).bind fun d st1 => match d with
  | .tup ds => .ok (ds, fun _ => true) st1
  | .loc n => match lstAt st1 n with
    | some ds => .ok (ds, fun s => decide (lstAt s n = some ds)) st1
    | none => .bad
  | .str z => .ok (signs z, fun _ => true) st1
  | _ => .bad
theorem serves_tup {K : PySem.W.Frag} {m : Nat → Addr} {n : Nat} {H : Hp} {ds : List D} {a : Addr} (rv : RV K m n H (.tup ds) (.ref a)) : Serves K m n H (Itt K a) ds (fun _ => true) := by
  intro m' st' H' rs mn _
  obtain ⟨a', ws, ea, q3, q4⟩ := mn _ _ rv
  cases ea
  refine ⟨fun i d hi => ?_, ⟨ws, q3, by rw [RVs.len q4]; exact Nat.le_refl _⟩⟩
  obtain ⟨x, g1, g2⟩ := RVs.get q4 hi
  refine ⟨⟨ws, x, q3, g1⟩, fun y H'' yl => ?_⟩
  obtain ⟨rfl, yl⟩ := yl
  have := yl ws q3
  rw [g1] at this
  cases this
  exact ⟨rs, Mn.refl, g2⟩
theorem serves_lst {K : PySem.W.Frag} {m : Nat → Addr} {n k : Nat} {H : Hp} {ds : List D} {a : Addr} (rv : RV K m n H (.loc k) (.ref a)) : Serves K m n H (Itl K a) ds (fun s => decide (lstAt s k = some ds)) := by
  intro m' st' H' rs mn hc
  obtain ⟨hn', ea⟩ := mn _ _ rv
  have ea' : a = m' k := V.ref.inj ea
  obtain ⟨ws, q3, q4, _⟩ := lstAt_ok rs (of_decide_eq_true hc)
  rw [← ea'] at q3
  refine ⟨fun i d hi => ?_, ⟨ws, q3, by rw [RVs.len q4]; exact Nat.le_refl _⟩⟩
  obtain ⟨x, g1, g2⟩ := RVs.get q4 hi
  refine ⟨⟨ws, x, q3, g1⟩, fun y H'' yl => ?_⟩
  obtain ⟨rfl, yl⟩ := yl
  have := yl ws q3
  rw [g1] at this
  cases this
  exact ⟨rs, Mn.refl, g2⟩
theorem serves_str {K : PySem.W.Frag} {m : Nat → Addr} {n : Nat} {H : Hp} {z : Str} : Serves K m n H (Its z) (signs z) (fun _ => true) := by
  intro m' st' H' rs mn _
  refine ⟨fun i d hi => ?_, ?_⟩
  · unfold signs at hi
    rw [List.getElem?_map] at hi
    obtain ⟨c, e1, e2⟩ := Option.map_eq_some_iff.mp hi
    rw [Array.getElem?_toList] at e1
    refine ⟨(Array.getElem?_eq_some_iff.mp e1).1, fun x H' y => ?_⟩
    obtain ⟨rfl, c', e3, rfl⟩ := y
    rw [e1] at e3
    cases e3
    subst e2
    exact ⟨rs, Mn.refl, rfl⟩
  · show z.cps.size ≤ (signs z).length
    unfold signs
    rw [List.length_map, Array.length_toList]
    exact Nat.le_refl _
theorem serves_rng {K : PySem.W.Frag} {m : Nat → Addr} {n : Nat} {H : Hp} {lo hi : Int} : Serves K m n H (Itr lo (hi - lo).toNat) (rangeD lo hi) (fun _ => true) := by
  intro m' st' H' rs mn _
  refine ⟨fun i d hi => ?_, ?_⟩
  · have hl := (List.getElem?_eq_some_iff.mp hi).1
    unfold rangeD at hi hl
    rw [List.length_map, List.length_range] at hl
    rw [List.getElem?_map, List.getElem?_range hl] at hi
    cases hi
    refine ⟨hl, fun x H' y => ?_⟩
    obtain ⟨rfl, rfl⟩ := y
    exact ⟨rs, Mn.refl, rfl⟩
  · show (hi - lo).toNat ≤ (rangeD lo hi).length
    unfold rangeD
    rw [List.length_map, List.length_range]
    exact Nat.le_refl _
theorem ji_seq (he : JE X W e fe) : JI X W tg e (fSeq fe) := by
  refine pi_imp (pi_seq he) fun σ H R h => ?_
  obtain ⟨m, st, ρ, rs, re, h⟩ := h
  refine ⟨m, st, ρ, rs, re, (Meet.bind h).imp fun d st1 m1 H1 r1 mn h1 v rv => ?_⟩
  cases d with
  | tup ds =>
    have rv0 := rv
    obtain ⟨a, vs, rfl, q1, q2⟩ := rv
    exact .inl ⟨a, rfl, .inr ⟨⟨vs, q1⟩, h1 m1 H1 r1 Mn.refl _ (serves_tup rv0)⟩⟩
  | loc n =>
    have rv0 := rv
    obtain ⟨hn, rfl⟩ := rv
    simp only at h1
    cases q : lstAt st1 n with
    | none => simp only [q] at h1; exact h1.elim
    | some ds =>
      simp only [q] at h1
      obtain ⟨vs, g1, g2, _⟩ := lstAt_ok r1 q
      exact .inl ⟨_, rfl, .inl ⟨⟨vs, g1⟩, h1 m1 H1 r1 Mn.refl _ (serves_lst rv0)⟩⟩
  | str z =>
    obtain rfl : v = .str z := rv
    exact .inr ⟨z, rfl, h1 m1 H1 r1 Mn.refl _ serves_str⟩
  | _ => exact h1.elim
def fRng1 (fs : FA) : FI := fun ρ st => (fs ρ st).bind fun ds st1 => match ds with
  | [.int j] => if Small62 j then .ok (rangeD 0 j, fun _ => true) st1 else .bad
  | _ => .bad
def fRng2 (fs : FA) : FI := fun ρ st => (fs ρ st).bind fun ds st1 => match ds with
  | [.int i, .int j] => if Small62 i ∧ Small62 j then .ok (rangeD i j, fun _ => true) st1 else .bad
  | _ => .bad
theorem ji_rng1 {a : Expr} (hgl : Gl X "range") (hm : X.mg "range" = none) (ha : JA X W [a] fs) (hst : starEach [a] X.env = [(false, eval a X.env)] := by rfl) : JI X W tg (.Call (.Name "range" p) [a] [] pos) (fRng1 fs) := by
  refine pi_imp (pi_range1 hgl hm ha hst) fun σ H R h => ?_
  obtain ⟨m, st, ρ, rs, re, h⟩ := h
  refine ⟨m, st, ρ, rs, re, (Meet.bind h).imp fun ds st1 m1 H1 r1 mn h1 vs rv => ?_⟩
  by_cases hx : ∃ j, ds = [.int j]
  · obtain ⟨j, rfl⟩ := hx
    obtain ⟨v, rfl, rfl⟩ := rvs1 rv
    simp only at h1
    by_cases hj : Small62 j
    · rw [if_pos hj] at h1
      have z := h1 m1 H1 r1 Mn.refl _ serves_rng
      rw [Int.sub_zero] at z
      exact ⟨j, rfl, hj.1, hj.2, z⟩
    · rw [if_neg hj] at h1; exact h1.elim
  · exfalso
    revert h1
    split
    · exact fun _ => hx ⟨_, rfl⟩
    · exact fun h => h
theorem ji_rng2 {a b : Expr} (hgl : Gl X "range") (hm : X.mg "range" = none) (ha : JA X W [a, b] fs) (hst : starEach [a, b] X.env = [(false, eval a X.env), (false, eval b X.env)] := by rfl) (hst2 : starEach [b] X.env = [(false, eval b X.env)] := by rfl) : JI X W tg (.Call (.Name "range" p) [a, b] [] pos) (fRng2 fs) := by
  refine pi_imp (pi_range2 hgl hm ha hst hst2) fun σ H R h => ?_
  obtain ⟨m, st, ρ, rs, re, h⟩ := h
  refine ⟨m, st, ρ, rs, re, (Meet.bind h).imp fun ds st1 m1 H1 r1 mn h1 vs rv => ?_⟩
  by_cases hx : ∃ i j, ds = [.int i, .int j]
  · obtain ⟨i, j, rfl⟩ := hx
    obtain ⟨v, w, rfl, rfl, rfl⟩ := rvs2 rv
    simp only at h1
    by_cases hj : Small62 i ∧ Small62 j
    · rw [if_pos hj] at h1
      exact ⟨i, j, rfl, ⟨hj.1.1, hj.1.2, hj.2.1, hj.2.2⟩, h1 m1 H1 r1 Mn.refl _ serves_rng⟩
    · rw [if_neg hj] at h1; exact h1.elim
  · exfalso
    revert h1
    split
    · exact fun _ => hx ⟨_, _, rfl⟩
    · exact fun h => h
end
/-! ### list comprehensions -/
def wipeE (ρ : En) : List Nat → En
  | [] => ρ
  | v :: vs => (wipeE ρ vs).set v none
theorem RE.wipe {gh : List (D × V)} {K : PySem.W.Frag} {m : Nat → Addr} {n : Nat} {H : Hp} {ρ : En} {σ : L2.St} (r : RE gh K m n H ρ σ) : ∀ vs : List Nat, RE gh K m n H (wipeE ρ vs) (wipe σ vs)
  | [] => r
  | v :: vs => (RE.wipe r vs).drop
theorem wipe_set (σ : L2.St) (i : Nat) (x : Option V) : ∀ vs : List Nat, wipe (σ.set i x) vs = if i ∈ vs then wipe σ vs else (wipe σ vs).set i x
  | [] => by simp [wipe]
  | v :: vs => by
    unfold wipe
    rw [wipe_set σ i x vs]
    by_cases hv : i = v
    · subst hv
      by_cases h : i ∈ vs
      · simp [h]
      · simp [h]
    · by_cases h : i ∈ vs
      · simp [h]
      · simp only [h, if_false, List.mem_cons, hv, false_or]
        exact List.set_comm _ _ hv
theorem wipe_sub (σ : L2.St) (ws : List Nat) : ∀ vs : List Nat, (∀ v ∈ vs, v ∈ ws) → wipe (wipe σ vs) ws = wipe σ ws
  | [], _ => rfl
  | v :: vs, h => by
    show wipe ((wipe σ vs).set v none) ws = _
    rw [wipe_set, if_pos (h v (List.mem_cons_self ..))]
    exact wipe_sub σ ws vs fun u hu => h u (List.mem_cons_of_mem _ hu)
theorem wipe_wipe (σ : L2.St) (vs : List Nat) : wipe (wipe σ vs) vs = wipe σ vs := wipe_sub σ vs vs fun _ h => h
/-- targets within a block: the def's other slots stay -/
def rGw (K : PySem.W.Frag) (W : Wc) (own : List Nat) (f : FG) : TG := fun v σ H Q => ∃ m st ρ d ρ', RS K m st H ∧ RE W.gh K m st.length H ρ σ ∧ RV K m st.length H d v ∧ f d st ρ = some ρ' ∧ ∀ σ', RE W.gh K m st.length H ρ' σ' → wipe σ' own = wipe σ own → Q σ' H
def rGws (K : PySem.W.Frag) (W : Wc) (own : List Nat) (fs : List FG) : TGs := fun vs σ H Q => ∃ m st ρ ds ρ', RS K m st H ∧ RE W.gh K m st.length H ρ σ ∧ RVs K m st.length H ds vs ∧ tgAll fs ds st ρ = some ρ' ∧ ∀ σ', RE W.gh K m st.length H ρ' σ' → wipe σ' own = wipe σ own → Q σ' H
abbrev JGw (X : Cx) (W : Wc) (own : List Nat) (e : Expr) (f : FG) : Prop := PG X e (rGw X.K W own f)
abbrev JGws (X : Cx) (W : Wc) (own : List Nat) (es : List Expr) (fs : List FG) : Prop := PGs X es (rGws X.K W own fs)
section
variable {X : Cx} {W : Wc} {own : List Nat} {e : Expr} {es : List Expr} {f : FG} {fs : List FG} {pos p : Pos}
theorem jgw_name {i : Nat} {x : Str} (hN : X.N.Nodup) (hi : X.N[i]? = some x) (ho : i ∈ own) (hx : Loc X.env.scope x := by first | exact Or.inl rfl | exact Or.inr rfl) (hf : X.fn x = true ∨ X.env.scope.names.lookup x = some .local := by first | exact .inl rfl | exact .inr rfl | assumption) : JGw X W own (.Name x pos) (tgN i) :=
  pg_imp (pg_name hN hi hx hf) fun v σ H Q ⟨m, st, ρ, d, ρ', rs, re, rv, e, h⟩ => by
    cases e
    exact h _ (re.set rv) (by rw [wipe_set, if_pos ho])
theorem jgws_nil : JGws X W own [] [] := pgs_imp pgs_nil fun v σ H Q ⟨m, st, ρ, ds, ρ', rs, re, rv, e, h⟩ => by
  cases ds with
  | nil =>
    cases rv
    cases e
    exact ⟨rfl, h _ re rfl⟩
  | cons _ _ => cases e
theorem jgws_cons (h1 : JGw X W own e f) (h2 : JGws X W own es fs) (hs : (assignEach (e :: es) X.env).map (·.2) = assign e X.env :: (assignEach es X.env).map (·.2) := by rfl) : JGws X W own (e :: es) (f :: fs) :=
  pgs_imp (pgs_cons h1 h2 hs) fun v σ H Q ⟨m, st, ρ, ds, ρ', rs, re, rv, e, h⟩ => by
    cases ds with
    | nil => cases e
    | cons d ds =>
      obtain ⟨x, r, rfl, r1, r2⟩ := rv
      obtain ⟨ρ1, e1, e2⟩ := Option.bind_eq_some_iff.mp (show (f d st ρ).bind (fun ρ1 => tgAll fs ds st ρ1) = some ρ' from e)
      exact ⟨x, r, rfl, m, st, ρ, d, ρ1, rs, re, r1, e1, fun σ1 re1 w1 => ⟨m, st, ρ1, ds, ρ', rs, re1, r2, e2, fun σ2 re2 w2 => h σ2 re2 (w2.trans w1)⟩⟩
theorem jgw_tup {k : Nat} (hc : X.calm = true) (h : JGws X W own es fs) (hn : (assignEach es X.env).length = fs.length := by rfl) (hst : (assignEach es X.env).findIdx? (·.1) = none := by rfl) : JGw X W own (.Tuple es k pos) (tgTup fs) :=
  pg_imp (pg_tup hc h hn hst) fun v σ H Q ⟨m, st, ρ, d, ρ', rs, re, rv, e, h⟩ => by
    cases d with
    | tup ds =>
      obtain ⟨a, vs, rfl, q1, q2⟩ := rv
      exact ⟨a, vs, rfl, q1, by rw [← RVs.len q2]; exact tgAll_len e, m, st, ρ, ds, ρ', rs, re, q2, e, h⟩
    | _ => cases e
end
def lcGo (chk : S → Bool) (g : FG) (ft : FT) (fe : FE) (ρ : En) (n : Nat) : List D → S → Out D
  | [], st => if chk st = true then .ok (.loc n) st else .bad
  | d :: ds, st => if chk st = true then (match g d st ρ with
    | some ρ1 => (match ft ρ1 st with
      | .ok true st2 => (match fe ρ1 st2 with
        | .ok y st3 => (match st3[n]? with
          | some (.lst acc) => if acc.length < sizeLine then lcGo chk g ft fe ρ n ds (st3.set n (.lst (acc ++ [y]))) else .bad
          | _ => .bad)
        | _ => .bad)
      | .ok false st2 => lcGo chk g ft fe ρ n ds st2
      | _ => .bad)
    | none => .bad) else .bad
def fLc (own : List Nat) (fi : FI) (g : FG) (ft : FT) (fe : FE) : FE := fun ρ st => (fi ρ st).bind fun p st1 => lcGo p.2 g ft fe (wipeE ρ own) st1.length p.1 (st1 ++ [.lst []])
def fYes : FT := fun _ st => .ok true st
abbrev noW (W : Wc) : Wc := ⟨noX, W.gh⟩
theorem pts_imp {X : Cx} {ifs : List Expr} {t t' : TT} (h : PTs X ifs t) (hi : ∀ σ H Q, t' σ H Q → t σ H Q) : PTs X ifs t' := ⟨fun pins s σ H Q I hw => h.run pins s σ H Q I (hi σ H Q hw)⟩
theorem jts_nil {X : Cx} {W : Wc} : PTs X [] (rT X.K X.mg W fYes) := pts_imp pts_nil fun σ H Q ⟨m, st, ρ, rs, re, h⟩ => h m H rs Mn.refl
theorem jts_one {X : Cx} {W : Wc} {c : Expr} {f : FT} (h : JT X W c f) : PTs X [c] (rT X.K X.mg W f) := pts_one h
theorem lc_den {K : PySem.W.Frag} {mg : Str → Option Value} {W : Wc} {own : List Nat} {fi : FI} {g : FG} {ft : FT} {fe : FE} {σ : L2.St} {H : Hp} {Q : VK} (h : rE K mg W (fLc own fi g ft fe) σ H Q) :
    tLc (rI K mg W fi) (rGw K (noW W) own g) (rT K mg (noW W) ft) (rE K mg (noW W) fe) own σ H Q := by
  obtain ⟨m, st, ρ, rs, re, h⟩ := h
  refine ⟨m, st, ρ, rs, re, (Meet.bind h).imp fun p st1 m1 H1 r1 mn h1 J hJ Da hD => ?_⟩
  obtain ⟨m2, e2, r2, mn2⟩ := r1.push hD (ds := []) (vs := []) rfl
  have h2 := Meet.later h1 mn2
  have hl2 : (st1 ++ [Ob.lst []]).length = st1.length + 1 := by simp
  refine ⟨fun i k H => k = p.1.length - i ∧ i ≤ p.1.length ∧ ∃ m st, RS K m st H ∧ Mn K m2 (st1 ++ [Ob.lst []]).length (upd H1 Da (.lst [])) m st.length H ∧
    Meet K mg m st.length H (lcGo p.2 g ft fe (wipeE ρ own) st1.length (p.1.drop i) st) (fun d st' m' H' => ∀ v, RV K m' st'.length H' d v → Q v H') (fun cls od H' => W.W cls od σ H'), ⟨_, rfl, Nat.zero_le _, m2, _, r2, Mn.refl, h2⟩, ?_⟩
  rintro i k H3 ⟨rfl, hi, m3, st3, r3, mn3, h3⟩
  have rl : RV K m2 (st1 ++ [Ob.lst []]).length (upd H1 Da (.lst [])) (.loc st1.length) (.ref Da) := ⟨by rw [hl2]; omega, by rw [e2]⟩
  have rl3 := mn3 _ _ rl
  have re3 := ((re.mono mn).mono mn2).mono mn3
  by_cases hlt : i < p.1.length
  · have e : p.1.drop i = p.1[i] :: p.1.drop (i + 1) := List.drop_eq_getElem_cons hlt
    rw [e] at h3
    unfold lcGo at h3
    by_cases hc : p.2 st3 = true
    · rw [if_pos hc] at h3
      have hd : p.1[i]? = some p.1[i] := List.getElem?_eq_getElem hlt
      obtain ⟨j1, j2⟩ := (hJ m3 st3 H3 r3 (mn2.trans mn3) hc).1 i p.1[i] hd
      refine .inr ⟨j1, fun H' => ∃ m st, RS K m st H' ∧ Mn K m2 (st1 ++ [Ob.lst []]).length (upd H1 Da (.lst [])) m st.length H' ∧
        Meet K mg m st.length H' (lcGo p.2 g ft fe (wipeE ρ own) st1.length (p.1.drop (i + 1)) st) (fun d st' m' H' => ∀ v, RV K m' st'.length H' d v → Q v H') (fun cls od H' => W.W cls od σ H'), fun H' z => ⟨p.1.length - (i + 1), by omega, rfl, hlt, z⟩, fun x H' y => ?_⟩
      obtain ⟨rs', mn', rv'⟩ := j2 x H' y
      have h4 := Meet.later h3 mn'
      have mn4 := mn3.trans mn'
      cases q : g p.1[i] st3 (wipeE ρ own) with
      | none => rw [q] at h4; exact h4.elim
      | some ρ1 =>
        rw [q] at h4
        refine ⟨m3, st3, wipeE ρ own, p.1[i], ρ1, rs', (re3.mono mn').wipe own, rv', q, fun σ1 re1 w1 => ⟨?_, ?_⟩⟩
        · rw [w1]
          exact wipe_wipe σ own
        refine ⟨m3, st3, ρ1, rs', re1, ?_⟩
        simp only at h4
        cases hb : ft ρ1 st3 with
        | bad => simp only [hb] at h4; exact h4
        | exc _ _ => simp only [hb] at h4; exact h4.elim
        | ok b st5 =>
          rw [hb] at h4
          intro m5 H5 r5 mn5
          cases b with
          | false =>
            rw [if_neg Bool.false_ne_true]
            exact ⟨m5, st5, r5, mn4.trans mn5, Meet.later h4 mn5⟩
          | true =>
            rw [if_pos rfl]
            simp only at h4
            refine ⟨m5, st5, ρ1, r5, re1.mono mn5, ?_⟩
            cases b2 : fe ρ1 st5 with
            | bad => simp only [b2] at h4; exact h4
            | exc _ _ => simp only [b2] at h4; exact h4.elim
            | ok yd st6 =>
              simp only [b2] at h4
              intro m6 H6 r6 mn6 v rv
              have mn56 := mn5.trans mn6
              have rl6 := (mn4.trans mn56) _ _ rl
              cases b3 : st6[st1.length]? with
              | none => simp only [b3] at h4; exact h4.elim
              | some ob =>
                simp only [b3] at h4
                cases ob with
                | lst acc =>
                  simp only at h4
                  by_cases hz : acc.length < sizeLine
                  · rw [if_pos hz] at h4
                    obtain ⟨xs, g1, g2⟩ := r6.at_ _ _ b3
                    have eD : m6 st1.length = Da := (V.ref.inj rl6.2).symm
                    obtain ⟨r7, mn7⟩ := r6.write b3 (RVs.app g2 (RVs.one rv))
                    rw [eD] at g1 r7 mn7
                    have hl7 : (st6.set st1.length (.lst (acc ++ [yd]))).length = st6.length := List.length_set
                    refine ⟨xs, g1, by rw [← RVs.len g2]; exact hz, m6, _, r7, ?_, ?_⟩
                    · have z := (mn4.trans mn56).trans mn7
                      exact z
                    · exact Meet.later (Meet.later h4 mn56) mn7
                  · rw [if_neg hz] at h4; exact h4.elim
                | _ => exact h4.elim
    · rw [if_neg hc] at h3; exact h3.elim
  · have e : i = p.1.length := by omega
    subst e
    rw [List.drop_length] at h3
    unfold lcGo at h3
    by_cases hc : p.2 st3 = true
    · rw [if_pos hc] at h3
      exact .inl ⟨(hJ m3 st3 H3 r3 (mn2.trans mn3) hc).2, h3 m3 H3 r3 Mn.refl _ rl3⟩
    · rw [if_neg hc] at h3; exact h3.elim
end MP

set_option Elab.async false
set_option linter.all false
set_option maxRecDepth 100000
set_option maxHeartbeats 4000000
/-! MPL2: the rules of comprehensions; enumerate, zip; all, any; tuple * int; range loops within a suite. -/
namespace MP
open PySem L2
theorem takes_no {X : Cx} : L2N.Takes X noX := fun u s' ⟨_, _, _, _, _, _, _, _, _, _, _, _, _, _, _, _, w⟩ => w.elim
section
variable {X : Cx} {W : Wc} {tg iter elt : Expr} {ifs : List Expr} {scope : Scope} {pos spos p : Pos} {fi : FI} {g : FG} {ft : FT} {fe : FE} {fs : FA}
theorem je_lc {os : List Nat} (own : List (Str × Nat)) (ho : own.map (·.2) = os) (hc : X.calm = true) (hN : X.N.Nodup) (hi : JI X W tg iter fi) (ok : BlkOk X.N X.env.scope scope own)
    (hg : ∀ (s : Shared) (H : Hp) (C : Addr) (cl : List (Str × Addr)) (fp : List Addr), JGw (X.blk s H scope (compEnvC scope cl C X.env) fp) (noW W) os tg g)
    (ht : ∀ (s : Shared) (H : Hp) (C : Addr) (cl : List (Str × Addr)) (fp : List Addr), PTs (X.blk s H scope (compEnvC scope cl C X.env) fp) ifs (rT X.K X.mg (noW W) ft))
    (he : ∀ (s : Shared) (H : Hp) (C : Addr) (cl : List (Str × Addr)) (fp : List Addr), JE (X.blk s H scope (compEnvC scope cl C X.env) fp) (noW W) elt fe) (hs : ∀ x, foldedSetIterable iter X.env x = pure x := by intro _; rfl) :
    JE X W (.ListComp elt [⟨tg, iter, ifs, 0⟩] scope pos) (fLc os fi g ft fe) := by
  subst ho
  exact pe_imp (pe_lc hc hN hi ok hg ht he hs) fun σ H Q h => lc_den h
theorem js_setLc {i : Nat} {y : Str} {py : Pos} {os : List Nat} (own : List (Str × Nat)) (ho : own.map (·.2) = os) (hc : X.calm = true) (hN : X.N.Nodup) (hy : X.N[i]? = some y) (hyl : X.env.scope.names.lookup y = some .local)
    (hsw : swapsWith (.ListComp elt [⟨tg, iter, ifs, 0⟩] scope pos) (some (.Name y py)) spos.line X.env = pure true) (hi : JI X W tg iter fi) (ok : BlkOk X.N X.env.scope scope own)
    (hg : ∀ (s : Shared) (H : Hp) (C : Addr) (cl : List (Str × Addr)) (fp : List Addr), JGw (X.blk s H scope (compEnvC scope cl C X.env) fp) (noW W) os tg g)
    (ht : ∀ (s : Shared) (H : Hp) (C : Addr) (cl : List (Str × Addr)) (fp : List Addr), PTs (X.blk s H scope (compEnvC scope cl C X.env) fp) ifs (rT X.K X.mg (noW W) ft))
    (he : ∀ (s : Shared) (H : Hp) (C : Addr) (cl : List (Str × Addr)) (fp : List Addr), JE (X.blk s H scope (compEnvC scope cl C X.env) fp) (noW W) elt fe) (hs : ∀ x, foldedSetIterable iter X.env x = pure x := by intro _; rfl) :
    JS X W (.Assign [.Name y py] (.ListComp elt [⟨tg, iter, ifs, 0⟩] scope pos) spos) (sSet i (fLc os fi g ft fe)) := by
  subst ho
  refine ps_imp (ps_setLc (te := rE X.K X.mg (noW W) fe) (g := rGw X.K (noW W) (own.map (·.2)) g) hc hN hy hyl hsw hi ok hg ht he hs) fun E σ H h => ?_
  obtain ⟨m, st, ρ, rs, re, h⟩ := h
  refine lc_den (se_bind rs re h fun d st1 m1 H1 v r1 re1 mn rv h1 => ?_)
  exact h1 m1 H1 _ r1 Mn.refl (re1.set rv)
/-! ### enumerate -/
def enumD (ds : List D) : List D := ds.mapIdx fun i d => .tup [.int (i : Nat), d]
def fEnum (fs : FA) : FI := fun ρ st => (fs ρ st).bind fun xs st1 => match xs with
  | [.loc n] => (match lstAt st1 n with
    | some ds => .ok (enumD ds, fun s => decide (lstAt s n = some ds)) st1
    | none => .bad)
  | _ => .bad
theorem serves_enum {K : PySem.W.Frag} {m : Nat → Addr} {n k : Nat} {H : Hp} {ds : List D} {a : Addr} (rv : RV K m n H (.loc k) (.ref a)) : Serves K m n H (Ite K a) (enumD ds) (fun s => decide (lstAt s k = some ds)) := by
  intro m' st' H' rs mn hc
  obtain ⟨hn', ea⟩ := mn _ _ rv
  have ea' : a = m' k := V.ref.inj ea
  obtain ⟨ws, q3, q4, _⟩ := lstAt_ok rs (of_decide_eq_true hc)
  rw [← ea'] at q3
  refine ⟨fun i d hi => ?_, ⟨ws, q3, by unfold enumD; rw [List.length_mapIdx, RVs.len q4]; exact Nat.le_refl _⟩⟩
  unfold enumD at hi
  rw [List.getElem?_mapIdx] at hi
  obtain ⟨d0, hi2, rfl⟩ := Option.map_eq_some_iff.mp hi
  obtain ⟨x, g1, g2⟩ := RVs.get q4 hi2
  refine ⟨⟨ws, x, q3, g1⟩, fun y H'' yl => ?_⟩
  obtain ⟨T, x', rfl, hT, rfl, yl⟩ := yl
  have := yl ws q3
  rw [g1] at this
  cases this
  obtain ⟨r2, mn2⟩ := rs.laid (o := .tup [.int (i : Nat), x]) hT
  exact ⟨r2, mn2, T, [.int (i : Nat), x], rfl, SqT.of upd_same, _, _, rfl, rfl, _, _, rfl, mn2 _ _ g2, rfl⟩
theorem ji_enum {e : Expr} {tpos : Pos} {elts : List Expr} {kk : Nat} (hgl : Gl X "enumerate") (hm : X.mg "enumerate" = none) (ha : JA X W [e] fs) (hst : starEach [e] X.env = [(false, eval e X.env)] := by rfl) :
    JI X W (.Tuple elts kk tpos) (.Call (.Name "enumerate" p) [e] [] pos) (fEnum fs) := by
  refine pi_imp (pi_enum hgl hm ha hst) fun σ H R h => ?_
  obtain ⟨m, st, ρ, rs, re, h⟩ := h
  refine ⟨m, st, ρ, rs, re, (Meet.bind h).imp fun ds st1 m1 H1 r1 mn h1 vs rv => ?_⟩
  by_cases hx : ∃ n, ds = [.loc n]
  · obtain ⟨n, rfl⟩ := hx
    obtain ⟨v, rfl, rv1⟩ := rvs1 rv
    have rv0 := rv1
    obtain ⟨hn, rfl⟩ := rv1
    simp only at h1
    cases q : lstAt st1 n with
    | none => simp only [q] at h1; exact h1.elim
    | some ds =>
      simp only [q] at h1
      obtain ⟨vs, g1, g2, _⟩ := lstAt_ok r1 q
      exact ⟨_, vs, rfl, g1, h1 m1 H1 r1 Mn.refl _ (serves_enum rv0)⟩
  · exfalso
    revert h1
    split
    · exact fun _ => hx ⟨_, rfl⟩
    · exact fun h => h
/-! ### zip of two lists, of two tuples -/
def zipD (xs ys : List D) : List D := (xs.zip ys).map fun p => .tup [p.1, p.2]
def fZip (fs : FA) : FI := fun ρ st => (fs ρ st).bind fun xs st1 => match xs with
  | [.loc n, .loc k] => (match lstAt st1 n, lstAt st1 k with
    | some ds, some es => .ok (zipD ds es, fun s => decide (lstAt s n = some ds) && decide (lstAt s k = some es)) st1
    | _, _ => .bad)
  | [.tup ds, .tup es] => .ok (zipD ds es, fun _ => true) st1
  | _ => .bad
theorem zipD_at {xs ys : List D} {i : Nat} {d : D} (h : (zipD xs ys)[i]? = some d) : ∃ a b, xs[i]? = some a ∧ ys[i]? = some b ∧ d = .tup [a, b] := by
  unfold zipD at h
  rw [List.getElem?_map] at h
  obtain ⟨⟨a, b⟩, e1, rfl⟩ := Option.map_eq_some_iff.mp h
  obtain ⟨h1, h2⟩ := List.getElem?_zip_eq_some.mp e1
  exact ⟨a, b, h1, h2, rfl⟩
theorem zipD_len (xs ys : List D) : (zipD xs ys).length = min xs.length ys.length := by
  unfold zipD
  rw [List.length_map, List.length_zip]
theorem serves_zipL {K : PySem.W.Frag} {m : Nat → Addr} {n k k2 : Nat} {H : Hp} {ds es : List D} {a b : Addr} (rv : RV K m n H (.loc k) (.ref a)) (rv2 : RV K m n H (.loc k2) (.ref b)) :
    Serves K m n H (Itz K a b) (zipD ds es) (fun s => decide (lstAt s k = some ds) && decide (lstAt s k2 = some es)) := by
  intro m' st' H' rs mn hc
  rw [Bool.and_eq_true] at hc
  obtain ⟨_, ea⟩ := mn _ _ rv
  obtain ⟨_, eb⟩ := mn _ _ rv2
  have ea' : a = m' k := V.ref.inj ea
  have eb' : b = m' k2 := V.ref.inj eb
  obtain ⟨ws, q3, q4, _⟩ := lstAt_ok rs (of_decide_eq_true hc.1)
  obtain ⟨us, p3, p4, _⟩ := lstAt_ok rs (of_decide_eq_true hc.2)
  rw [← ea'] at q3
  rw [← eb'] at p3
  refine ⟨fun i d hi => ?_, ⟨ws, us, q3, p3, by rw [zipD_len, ← RVs.len q4, ← RVs.len p4]; omega⟩⟩
  obtain ⟨d1, d2, h1, h2, rfl⟩ := zipD_at hi
  obtain ⟨x, g1, g2⟩ := RVs.get q4 h1
  obtain ⟨z, g3, g4⟩ := RVs.get p4 h2
  refine ⟨⟨ws, us, x, z, q3, p3, g1, g3⟩, fun y H'' yl => ?_⟩
  obtain ⟨T, x', z', rfl, hT, rfl, y1, y2⟩ := yl
  have t1 := y1 ws q3
  have t2 := y2 us p3
  rw [g1] at t1
  rw [g3] at t2
  cases t1
  cases t2
  obtain ⟨r2, mn2⟩ := rs.laid (o := .tup [x, z]) hT
  exact ⟨r2, mn2, T, [x, z], rfl, SqT.of upd_same, _, _, rfl, mn2 _ _ g2, _, _, rfl, mn2 _ _ g4, rfl⟩
theorem serves_zipT {K : PySem.W.Frag} {m : Nat → Addr} {n : Nat} {H : Hp} {ds es : List D} {a b : Addr} (rv : RV K m n H (.tup ds) (.ref a)) (rv2 : RV K m n H (.tup es) (.ref b)) :
    Serves K m n H (RZ.ItzT K a b) (zipD ds es) (fun _ => true) := by
  intro m' st' H' rs mn hc
  obtain ⟨_, ws, ea, q3, q4⟩ := mn _ _ rv
  cases ea
  obtain ⟨_, us, eb, p3, p4⟩ := mn _ _ rv2
  cases eb
  refine ⟨fun i d hi => ?_, ⟨ws, us, q3, p3, by rw [zipD_len, ← RVs.len q4, ← RVs.len p4]; omega⟩⟩
  obtain ⟨d1, d2, h1, h2, rfl⟩ := zipD_at hi
  obtain ⟨x, g1, g2⟩ := RVs.get q4 h1
  obtain ⟨z, g3, g4⟩ := RVs.get p4 h2
  refine ⟨⟨ws, us, x, z, q3, p3, g1, g3⟩, fun y H'' yl => ?_⟩
  obtain ⟨T, x', z', rfl, hT, rfl, y1, y2⟩ := yl
  have t1 := y1 ws q3
  have t2 := y2 us p3
  rw [g1] at t1
  rw [g3] at t2
  cases t1
  cases t2
  obtain ⟨r2, mn2⟩ := rs.laid (o := .tup [x, z]) hT
  exact ⟨r2, mn2, T, [x, z], rfl, SqT.of upd_same, _, _, rfl, mn2 _ _ g2, _, _, rfl, mn2 _ _ g4, rfl⟩
theorem ji_zip {e e2 : Expr} {tpos : Pos} {elts : List Expr} {kk : Nat} (hgl : Gl X "zip") (hm : X.mg "zip" = none) (ha : JA X W [e, e2] fs)
    (hs : starEach [e, e2] X.env = (false, eval e X.env) :: starEach [e2] X.env := by rfl) (hpl : (backTo pos (starEach [e2] X.env)).any (·.1) = false := by rfl) :
    JI X W (.Tuple elts kk tpos) (.Call (.Name "zip" p) [e, e2] [] pos) (fZip fs) := by
  refine pi_imp (RZ.pi_zipA hgl hm ha hs hpl) fun σ H R h => ?_
  obtain ⟨m, st, ρ, rs, re, h⟩ := h
  refine ⟨m, st, ρ, rs, re, (Meet.bind h).imp fun ds st1 m1 H1 r1 mn h1 vs rv => ?_⟩
  by_cases hx : ∃ n k, ds = [.loc n, .loc k]
  · obtain ⟨n, k, rfl⟩ := hx
    obtain ⟨v, w, rfl, rv1, rv2⟩ := rvs2 rv
    have rv0 := rv1
    have rv20 := rv2
    obtain ⟨hn, rfl⟩ := rv1
    obtain ⟨hk, rfl⟩ := rv2
    simp only at h1
    cases q : lstAt st1 n with
    | none => simp only [q] at h1; exact h1.elim
    | some ds =>
      cases q2 : lstAt st1 k with
      | none => simp only [q, q2] at h1; exact h1.elim
      | some es =>
        simp only [q, q2] at h1
        obtain ⟨vs, g1, g2, _⟩ := lstAt_ok r1 q
        obtain ⟨ws, g3, g4, _⟩ := lstAt_ok r1 q2
        exact ⟨_, _, vs, ws, rfl, .inl ⟨g1, g3, h1 m1 H1 r1 Mn.refl _ (serves_zipL rv0 rv20)⟩⟩
  · by_cases hy : ∃ xs ys, ds = [.tup xs, .tup ys]
    · obtain ⟨xs, ys, rfl⟩ := hy
      obtain ⟨v, w, rfl, rv1, rv2⟩ := rvs2 rv
      have rv0 := rv1
      have rv20 := rv2
      obtain ⟨a, vs, rfl, q1, q2⟩ := rv1
      obtain ⟨b, ws, rfl, q3, q4⟩ := rv2
      exact ⟨_, _, vs, ws, rfl, .inr ⟨q1, q3, h1 m1 H1 r1 Mn.refl _ (serves_zipT rv0 rv20)⟩⟩
    · exfalso
      revert h1
      split
      · exact fun _ => hx ⟨_, _, rfl⟩
      · exact fun _ => hy ⟨_, _, rfl⟩
      · exact fun h => h
/-! ### all, any -/
def bolsD : List D → Option (List Bool)
  | [] => some []
  | .bl b :: r => (bolsD r).map (b :: ·)
  | _ => none
def gAll (ds : List D) (st : S) : Option (D × S) := match ds with
  | [.loc n] => match lstAt st n with
    | some xs => (bolsD xs).map fun bs => (.bl (bs.all id), st)
    | none => none
  | _ => none
def gAny (ds : List D) (st : S) : Option (D × S) := match ds with
  | [.loc n] => match lstAt st n with
    | some xs => (bolsD xs).map fun bs => (.bl (bs.any id), st)
    | none => none
  | _ => none
theorem bols_rel {K : PySem.W.Frag} {m : Nat → Addr} {n : Nat} {H : Hp} : ∀ {ds : List D} {vs : List V} {bs : List Bool}, RVs K m n H ds vs → bolsD ds = some bs → vs = bs.map V.bl
  | [], vs, bs, h, e => by cases e; exact h
  | d :: ds, vs, bs, h, e => by
    obtain ⟨v, r, rfl, h1, h2⟩ := h
    cases d with
    | bl b =>
      obtain ⟨bs', e1, rfl⟩ := Option.map_eq_some_iff.mp (show (bolsD ds).map (b :: ·) = some bs from e)
      rw [List.map_cons, bols_rel h2 e1]
      cases h1
      rfl
    | _ => cases e
theorem cad_all (hc : X.calm = true) : CallR X (.builtin "all") (rDL X.K gAll) := by
  intro pins s σ H xs us Q I r h
  obtain ⟨m, st, ds, d, st', rs, r1, e, fin⟩ := h
  unfold gAll at e
  split at e
  · obtain ⟨v, rfl, _, rfl⟩ := rvs1 r1
    split at e
    · rename_i q
      obtain ⟨vs, g1, g2, _⟩ := lstAt_ok rs q
      obtain ⟨bs, e1, e2⟩ := Option.map_eq_some_iff.mp e
      cases e2
      rw [bols_rel g2 e1] at g1
      exact cr_all hc pins s σ H _ us Q I r ⟨_, bs, rfl, g1, fin.here rs rfl⟩
    · cases e
  · cases e
theorem cad_any (hc : X.calm = true) : CallR X (.builtin "any") (rDL X.K gAny) := by
  intro pins s σ H xs us Q I r h
  obtain ⟨m, st, ds, d, st', rs, r1, e, fin⟩ := h
  unfold gAny at e
  split at e
  · obtain ⟨v, rfl, _, rfl⟩ := rvs1 r1
    split at e
    · rename_i q
      obtain ⟨vs, g1, g2, _⟩ := lstAt_ok rs q
      obtain ⟨bs, e1, e2⟩ := Option.map_eq_some_iff.mp e
      cases e2
      rw [bols_rel g2 e1] at g1
      exact cr_any hc pins s σ H _ us Q I r ⟨_, bs, rfl, g1, fin.here rs rfl⟩
    · cases e
  · cases e
end
end MP

set_option Elab.async false
set_option linter.all false
set_option maxRecDepth 100000
set_option maxHeartbeats 4000000
/-! MPL3: tuple * int (any count), range loops within a suite. -/
namespace L2
open PySem PySem.Spec PyProof.Rows
theorem tuple_mul_same (l : Addr) (items : Array Value) (n : Nat) (dd : Option Addr) (sl : Array (Option Value)) (x : Int) (u : Tok) (c0 : (decide (x < -(2 ^ 63)) || decide (x ≥ 2 ^ 63)) = false) (c1 : (items.isEmpty || x == 1) = true) :
    Meets (Builtin.«tuple.__mul__» ⟨[.ref l, .int x u], []⟩) (fun _ R s => s.heap.get? l = some { cls := .type "tuple", dict := dd, data := .seq items n, slots := sl } ∧
      R (.ok (.ret (Value.ref l))) s) :=
  .of_wp fun prog w A R s h => by
    obtain ⟨hp, g, d, tk, os⟩ := s
    obtain ⟨hl, h⟩ := h
    have f1 := AutoSeq1.idx_int
    wp_walk using wpAny_loadPart' hl
    repeat (first
      | (refine wpAny_ite_false (decide_eq_false (by rw [c0]; exact Bool.false_ne_true)) ?_; wp_walk using wpAny_loadPart' hl)
      | (refine wpAny_ite_true (decide_eq_true c1) ?_; wp_walk using wpAny_loadPart' hl))
    exact ⟨_, rfl, h⟩
theorem tuple_mul_none (l : Addr) (items : Array Value) (n : Nat) (dd : Option Addr) (sl : Array (Option Value)) (x : Int) (u : Tok) (c0 : (decide (x < -(2 ^ 63)) || decide (x ≥ 2 ^ 63)) = false) (c1 : (items.isEmpty || x == 1) = false) (c2 : (decide (x ≤ 0) || items.isEmpty) = true) :
    Meets (Builtin.«tuple.__mul__» ⟨[.ref l, .int x u], []⟩) (fun _ R s => s.heap.get? l = some { cls := .type "tuple", dict := dd, data := .seq items n, slots := sl } ∧
      R (.ok (.ret (Value.ref s.heap.objs.size))) { s with heap := s.heap.push { cls := Value.type "tuple", data := Data.seq #[] }, toks := s.toks }) :=
  .of_wp fun prog w A R s h => by
    obtain ⟨hp, g, d, tk, os⟩ := s
    obtain ⟨hl, h⟩ := h
    have f1 := AutoSeq1.idx_int
    wp_walk using wpAny_loadPart' hl
    repeat (first
      | (refine wpAny_ite_false (decide_eq_false (by rw [c0]; exact Bool.false_ne_true)) ?_; wp_walk using wpAny_loadPart' hl)
      | (refine wpAny_ite_false (decide_eq_false (by rw [c1]; exact Bool.false_ne_true)) ?_; wp_walk using wpAny_loadPart' hl)
      | (refine wpAny_ite_true (decide_eq_true c2) ?_; wp_walk using wpAny_loadPart' hl))
    exact ⟨_, rfl, h⟩
def rRepA (K : PySem.W.Frag) : R2 := fun x y H Q => ∃ l k xs, x = .ref l ∧ y = .int k ∧ SqT K H l xs ∧ -1000 ≤ k ∧ k ≤ 1000 ∧ xs.length ≤ 1000 ∧ ((xs = [] ∨ k = 1) → Q (.ref l) H) ∧ (¬ (xs = [] ∨ k = 1) → ∀ p, H p = none → Q (.ref p) (upd H p (.tup (List.replicate k.toNat xs).flatten)))
theorem op_repA {X : Cx} : OpR X (binaryOp .Mult) (rRepA X.K) := by
  intro pins s σ H x y v u Q I rx ry h
  obtain ⟨l, k, xs, ex, ey, hT, h1, h2, hz, q1, q2⟩ := h
  by_cases c : 2 ≤ k ∧ xs ≠ []
  · exact op_repT pins s σ H x y v u Q I rx ry ⟨l, k, xs, ex, ey, hT, c.2, c.1, h2, hz, q2 (fun e => by
      rcases e with e | e
      · exact c.2 e
      · omega)⟩
  subst ex ey
  cases rx
  obtain ⟨t, rfl⟩ := ry
  obtain ⟨its, r, ⟨⟨cls, dd, data, sl⟩, ho, hc, n, hd⟩, hs⟩ := I.tuple hT
  simp only at hc hd
  subst hc hd
  have hle : its.length = xs.length := r.length.symm
  have c0 : (decide (k < -(2 ^ 63)) || decide (k ≥ 2 ^ 63)) = false := by
    rw [decide_eq_false (by omega), decide_eq_false (by omega)] <;> rfl
  have he : its.toArray.isEmpty = true ↔ xs = [] := by
    constructor
    · intro e
      cases its with
      | nil => exact List.eq_nil_of_length_eq_zero hle.symm
      | cons a b => cases e
    · intro e
      rw [e] at hle
      rw [List.eq_nil_of_length_eq_zero hle]
      rfl
  by_cases c1 : xs = [] ∨ k = 1
  · have c1' : (its.toArray.isEmpty || k == 1) = true := by
      rcases c1 with e | e
      · rw [he.mpr e]; rfl
      · rw [e]; simp
    refine wpAny_binaryOp_repeat_ref (T := "tuple") (U := "int") (by decide) ⟨_, ho, rfl⟩ (fun s' => typeIs_int s' k t) noFill_tuple_mul F.fills_int_mul F.slot_int_rmul repeat_tuple F.slot_int_index.lookup
      (call_meets F.slot_int_rmul (typeIs_int s k t) F.entry_int_rmul (F.args_int_rmul_2 _ _) (int_rmul_tuple k t l its.toArray n dd sl)
        ⟨ho, rfl, ⟨_, ho, rfl⟩, call_meets F.slot_tuple_mul ⟨_, ho, rfl⟩ F.entry_tuple_mul (F.args_tuple_mul_2 _ _) (tuple_mul_same l its.toArray n dd sl k t c0 c1') ⟨ho, ?_⟩⟩)
    exact ⟨.ref l, H, I, rfl, q1 c1⟩
  · have ce : its.toArray.isEmpty = false := by
      cases e : its.toArray.isEmpty
      · rfl
      · exact absurd (.inl (he.mp e)) c1
    have ck : k ≤ 0 := by
      rcases Classical.em (k ≤ 0) with e | e
      · exact e
      · have n1 : ¬ k = 1 := fun e => c1 (.inr e)
        exact absurd ⟨by omega, fun e => c1 (.inl e)⟩ c
    have c1' : (its.toArray.isEmpty || k == 1) = false := by
      rw [ce, Bool.false_or]
      exact beq_eq_false_iff_ne.mpr (by omega)
    have c2' : (decide (k ≤ 0) || its.toArray.isEmpty) = true := by
      rw [decide_eq_true ck]; rfl
    have ef : (List.replicate k.toNat xs).flatten = [] := by
      have : k.toNat = 0 := by omega
      rw [this]
      rfl
    have q2 := q2 c1
    rw [ef] at q2
    refine wpAny_binaryOp_repeat_ref (T := "tuple") (U := "int") (by decide) ⟨_, ho, rfl⟩ (fun s' => typeIs_int s' k t) noFill_tuple_mul F.fills_int_mul F.slot_int_rmul repeat_tuple F.slot_int_index.lookup
      (call_meets F.slot_int_rmul (typeIs_int s k t) F.entry_int_rmul (F.args_int_rmul_2 _ _) (int_rmul_tuple k t l its.toArray n dd sl)
        ⟨ho, rfl, ⟨_, ho, rfl⟩, call_meets F.slot_tuple_mul ⟨_, ho, rfl⟩ F.entry_tuple_mul (F.args_tuple_mul_2 _ _) (tuple_mul_none l its.toArray n dd sl k t c0 c1' c2') ⟨ho, ?_⟩⟩)
    refine ⟨.ref s.heap.objs.size, _, I.laid (t' := s.toks) (o := .tup []) (fun b ob q => Heap.get?_push_of_some _ q) (Nat.le_refl _) ?_, rfl, q2 _ (I.hok.fresh (Nat.le_refl _))⟩
    exact ⟨by rw [sizeLine_eq]; decide, [], .nil, IsTup.new _ _⟩
end L2
namespace MP
open PySem L2
theorem kw_bindsN {K : PySem.W.Frag} {x qual : Str} {params : Arguments} {body : List Stmt} {scope : Scope} {kws : List (Str × V)} {f : Addr} {fd : FuncData} {ks ps : List Str} {np : Nat} {sel : List Nat} (F : FunD K x qual params body scope [] kws f fd)
    (h : ∀ (kV doc pm : Value) (an : Option Addr) (cdv ct : Value) (us ws : List Value), us.length + ws.length = np → ws.length = ks.length →
      bindArgs (PySem.W.fnOf x qual params body scope .none kV doc pm an cdv ct) ⟨us, ks.zip ws⟩ = pure (ps.zip (pick sel (us ++ ws)))) :
    ∃ dus, Vals [] dus ∧ ∀ (s : Shared) (us ws : List Value), K.In s.heap → us.length + ws.length = np → ws.length = ks.length → BindsTo s fd ⟨us, ks.zip ws⟩ (ps.zip (pick sel (us ++ ws ++ dus))) := by
  obtain ⟨oc, od, dV, kV, doc, pm, an, cdv, ct, osl, rfl, lk, hcd, hD, hK⟩ := F.ex
  rcases hD with ⟨_, rfl⟩ | ⟨e, _⟩
  · refine ⟨[], .nil, fun s us ws X h1 h2 => ?_⟩
    rw [List.append_nil]
    exact .of_eq (h kV doc pm an cdv ct us ws h1 h2)
  · exact absurd rfl e
theorem bt_all : bootBuiltins "all" = some (.builtin "all") := by decide +kernel
theorem bt_any : bootBuiltins "any" = some (.builtin "any") := by decide +kernel
/-- i * j, list * k, tuple * k -/
noncomputable def gMulT (x y : D) (st : S) : Option (D × S) := match x, y with
  | .tup xs, .int k => if -1000 ≤ k ∧ k ≤ 1000 ∧ xs.length ≤ 1000 then some (.tup (List.replicate k.toNat xs).flatten, st) else none
  | x, y => gMul x y st
theorem rvs_rep {K : PySem.W.Frag} {m : Nat → Addr} {n : Nat} {H : Hp} {ds : List D} {vs : List V} (h : RVs K m n H ds vs) : ∀ k : Nat, RVs K m n H (List.replicate k ds).flatten (List.replicate k vs).flatten
  | 0 => rfl
  | k + 1 => by
    rw [List.replicate_succ, List.replicate_succ, List.flatten_cons, List.flatten_cons]
    exact RVs.app h (rvs_rep h k)
theorem opd_mulT {X : Cx} : OpR X (binaryOp .Mult) (rD X.K gMulT) := by
  intro pins s σ H x y v u Q I rx ry h
  obtain ⟨m, st, dx, dy, d, st', rs, r1, r2, e, fin⟩ := h
  unfold gMulT at e
  split at e
  · rename_i xs k
    split at e
    · rename_i hl
      cases e
      have r10 := r1
      obtain ⟨a, vs, rfl, q1, q2⟩ := r1
      cases r2
      have l1 := RVs.len q2
      refine op_repA pins s σ H _ _ v u Q I rx ry ⟨a, k, vs, rfl, rfl, q1, hl.1, hl.2.1, by rw [← l1]; exact hl.2.2, fun c => ?_, fun c p hp => fin.tup rs (rvs_rep q2 _) hp⟩
      refine fin.here rs ?_
      have e : (List.replicate k.toNat xs).flatten = xs := by
        rcases c with c | c
        · rw [c] at l1
          have : xs = [] := List.eq_nil_of_length_eq_zero l1
          rw [this]
          simp
        · rw [c]
          simp
      rw [e]
      exact r10
    · cases e
  · exact opd_mul pins s σ H x y v u Q I rx ry ⟨m, st, dx, dy, d, st', rs, r1, r2, e, fin⟩
/-! ### a range loop within a suite -/
section
variable {X : Cx} {W : Wc} {tg : Expr} {sts : List Stmt} {fs : FA} {g : FG} {body : FS} {p : Pos}
theorem js_forR1H {a : Expr} {pos pos2 : Pos} (hp : PassesOwn (model X.prog X.w) X.A X.env X.xe) (hc : L2H.HotC X) (hgl : Gl X "range") (hm : X.mg "range" = none) (ha : JA X W [a] fs) (hg : JG X W tg g) (hb : JB X W sts body)
    (hst : starEach [a] X.env = [(false, eval a X.env)] := by rfl) (hs : ∀ x, foldedSetIterable (.Call (.Name "range" p) [a] [] pos) X.env x = pure x := by intro _; rfl) :
    JS X W (.For tg (.Call (.Name "range" p) [a] [] pos) sts [] pos2) (sForR1 fs g body) := by
  refine ps_imp (L2H.ps_forH hp hc (L2H.pi_range1H hgl hm ha hst) hg hb hs) fun E σ H h => ?_
  obtain ⟨m, st, ρ, rs, re, h⟩ := h
  refine sa_bind rs re h fun ds st1 m1 H1 vs r1 re1 mn rv h1 => ?_
  by_cases hx : ∃ j, ds = [.int j]
  · obtain ⟨j, rfl⟩ := hx
    obtain ⟨v, rfl, rfl⟩ := rvs1 rv
    simp only at h1
    by_cases hj : Small62 j
    · rw [if_pos hj] at h1
      refine ⟨j, rfl, hj.1, hj.2, ?_⟩
      have z := rng_ok (lo := 0) (hi := j) r1 re1 h1
      rw [Int.sub_zero] at z
      exact z
    · rw [if_neg hj] at h1; exact h1.elim
  · exfalso
    revert h1
    split
    · exact fun _ => hx ⟨_, rfl⟩
    · exact fun h => h
end
end MP

set_option Elab.async false
set_option linter.all false
set_option maxRecDepth 100000
set_option maxHeartbeats 4000000
/-! MPE: enumerate over a tuple too, zip of lists and tuples in any mix. -/
namespace MPE
open PySem PySem.Spec PyProof.Rows L2
/-- a list (false) or a tuple (true) -/
def Sq (t : Bool) (K : PySem.W.Frag) (H : Hp) (a : Addr) (xs : List V) : Prop := match t with
  | true => SqT K H a xs
  | false => SqL K H a xs
def IA (t : Bool) (h : Heap) (it a : Addr) (i : Nat) : Prop := match t with
  | true => h.IsTupleIter it a i
  | false => h.IsListIter it a i
def IsS (t : Bool) (h : Heap) (a : Addr) (items : Array Value) : Prop := match t with
  | true => h.IsTuple a items
  | false => h.IsList a items
def iname (t : Bool) : String := match t with
  | true => "tuple_iterator"
  | false => "list_iterator"
theorem draws_k (t : Bool) {prog : Program} {w : World} {A : Around} (hh : A.handled = none) (it a : Addr) (hne : a ≠ it) (items : Array Value) :
    Draws prog w A it [it, a] items.size (fun i v => items[i]? = some v) (fun i h => IA t h it a i ∧ IsS t h a items) := by
  cases t
  · exact Draws.list hh it a hne items
  · exact Draws.tuple hh it a hne items
theorem ia_obj {t : Bool} {h : Heap} {it a : Addr} {i : Nat} (x : IA t h it a i) : ∃ o, h.get? it = some o ∧ ∀ v, o.data ≠ .cell v := by
  cases t
  · obtain ⟨o, e, c, d⟩ := x
    exact ⟨o, e, fun v z => by rw [d] at z; cases z⟩
  · obtain ⟨o, e, c, d⟩ := x
    exact ⟨o, e, fun v z => by rw [d] at z; cases z⟩
theorem ia_at {t : Bool} {h h' : Heap} {it a : Addr} {i : Nat} (x : IA t h it a i) (e : ∀ o, h.get? it = some o → h'.get? it = some o) : IA t h' it a i := by
  cases t
  · exact Heap.IsListIter.at x e
  · exact Heap.IsTupleIter.at x e
theorem is_lt {t : Bool} {h : Heap} {a : Addr} {items : Array Value} (x : IsS t h a items) : a < h.objs.size := by
  cases t
  · obtain ⟨o, e, _⟩ := x
    exact Heap.lt_size e
  · obtain ⟨o, e, _⟩ := x
    exact Heap.lt_size e
section
variable {X : Cx} {pins : List (Addr × Obj)} {σ : L2.St} {H : Hp} {s : Shared} {a : Addr} {xs ys : List V} {t : Bool}
theorem inv_sq (I : L2.Inv X pins σ H s) (h : Sq t X.K H a xs) : ∃ its : List Value, Vals xs its ∧ IsS t s.heap a its.toArray ∧ xs.length ≤ sizeLine := by
  cases t
  · obtain ⟨its, rv, p, z⟩ := I.list h
    exact ⟨its, rv, p.isList, z⟩
  · obtain ⟨its, rv, p, z⟩ := I.tuple h
    exact ⟨its, rv, p, z⟩
theorem inv_inj (I : L2.Inv X pins σ H s) (h : Sq t X.K H a xs) (h' : Sq t X.K H a ys) : xs = ys := by
  cases t
  · exact I.list_inj h h'
  · exact I.tuple_inj h h'
end
/-! ### enumerate -/
def IteK (t : Bool) (K : PySem.W.Frag) (a : Addr) : It :=
  ⟨fun i H => ∃ (xs : List V) (x : V), Sq t K H a xs ∧ xs[i]? = some x, fun i H v H' => ∃ T x, v = .ref T ∧ H T = none ∧ H' = upd H T (.tup [.int (i : Nat), x]) ∧ ∀ xs, Sq t K H a xs → xs[i]? = some x,
    fun i H => ∃ xs : List V, Sq t K H a xs ∧ xs.length = i⟩
theorem turn_enumK (t : Bool) {P : Program} {w : World} {K : PySem.W.Frag} {elts : List Expr} {kk : Nat} {tpos : Pos} (a e it : Addr) :
    Turn P w K (.Tuple elts kk tpos) (IteK t K a) [e, it] e (fun i h => (∃ old, IsEnum h e it ((i : Nat) : Int) old) ∧ IA t h it a i ∧ e ≠ it ∧ e ≠ a ∧ a ≠ it) where
  mem := by simp
  obj := fun i h st b hb => by
    obtain ⟨⟨old, he⟩, hit, _⟩ := st
    have e' : b = e ∨ b = it := by simpa using hb
    rcases e' with z | z
    · rw [z]; exact ⟨_, he, fun v q => nomatch q⟩
    · rw [z]; exact ia_obj hit
  keep := fun i h h' st k => let ⟨⟨old, he⟩, hi, hne⟩ := st; ⟨⟨old, k e (by simp) _ he⟩, ia_at hi fun o q => k it (by simp) o q, hne⟩
  item := by
    intro X hP hw hK hc i pins s σ H E I hf st hg
    subst hP hw hK
    obtain ⟨⟨old, he⟩, hit, hne, hea, hai⟩ := st
    obtain ⟨xs, x, hq, hx⟩ := hg
    obtain ⟨its, rv, p, hz⟩ := inv_sq I hq
    obtain ⟨u, hu, ru⟩ := rv.get hx
    have hel : e < s.heap.objs.size := Heap.lt_size he
    have hil : it < s.heap.objs.size := by obtain ⟨_, q, _⟩ := ia_obj hit; exact Heap.lt_size q
    have hlt : i < its.toArray.size := by
      have := (List.getElem?_eq_some_iff.mp hu).1
      simpa using this
    refine wpAny_pyNext_enum_itemD (draws_k t (show X.A.in1.handled = none from I.ok.hd hc) it a hai its.toArray) he ⟨hit, p⟩ hlt hne (by simp [hne, hea]) fun u' h' tk hP ho hst' hT hsz hk => ?_
    have eu : u' = u := by
      have hP : its.toArray[i]? = some u' := hP
      rw [show its.toArray[i]? = some u by simpa using hu] at hP
      exact (Option.some.inj hP).symm
    subst eu
    refine ⟨_, rfl, wpAny_letOwnedTupleGo_enum (s := { s with heap := h', toks := tk + 1 }) ho fun h'' he' sb => ?_⟩
    have hT2 : h''.get? s.heap.objs.size = some { cls := .type "tuple", data := .seq #[.int i tk, u'] } := (sb.2 _ (Nat.ne_of_gt hel)).trans hT
    have new : ObjOk X.prog X.w (upd H s.heap.objs.size (.tup [.int (i : Nat), x])) h'' s.heap.objs.size (.tup [.int (i : Nat), x]) :=
      ⟨by show 2 ≤ sizeLine; decide, [.int i tk, u'], .cons ⟨_, rfl⟩ (.cons ru .nil), ⟨_, hT2, rfl, _, rfl⟩⟩
    have I1 : Inv X pins σ (upd H s.heap.objs.size (.tup [.int (i : Nat), x])) { s with heap := h'', toks := tk + 1 } :=
      I.turnedNew (ch := [e, it]) (fun b ob hb q => (sb.2 b (fun z => hb (by simp [z]))).trans (hk b ob (fun z => hb (by simp [z])) (fun z => hb (by simp [z])) q)) hf (Nat.le_refl _) new
    refine ⟨.ref s.heap.objs.size, _, I1, rfl, ⟨_, x, rfl, I.hok.fresh (Nat.le_refl _), rfl, fun ys hy => by rw [inv_inj I hy hq]; exact hx⟩, ⟨⟨u', ?_⟩, ia_at hst'.1 fun o q => (sb.2 it (Ne.symm hne)).trans q, hne, hea, hai⟩, fun b hb => ?_⟩
    · have e1 : ((i + 1 : Nat) : Int) = (i : Int) + 1 := by omega
      rw [e1]; exact he'
    · have hb' : b < s.heap.objs.size := by
        have e' : b = e ∨ b = it := by simpa using hb
        rcases e' with z | z
        · rw [z]; exact hel
        · rw [z]; exact hil
      rw [upd_ne (Nat.ne_of_lt hb')]
      exact (hf b hb).1
  done := by
    intro X hP hw hK hc i pins s σ H E I hf st hg
    subst hP hw hK
    obtain ⟨⟨old, he⟩, hit, hne, hea, hai⟩ := st
    obtain ⟨xs, hq, hx⟩ := hg
    obtain ⟨its, rv, p, hz⟩ := inv_sq I hq
    obtain ⟨f0, f1, f2, f3, f4, f5⟩ := hf it (by simp)
    have hl := rv.length
    have hi : i = its.toArray.size := by simp; omega
    refine wpAny_pyNext_enum_endD (draws_k t (show X.A.in1.handled = none from I.ok.hd hc) it a hai its.toArray) he (by rw [← hi]; exact ⟨hit, p⟩) fun h' eb => ⟨rfl, I.turned (t' := s.toks) (fun b o hb q => eb b o hb q) f0 f1 f3 f4 f5⟩
  self := fun A i s Q E st h => let ⟨⟨_, he⟩, _⟩ := st; wpAny_pyIter_enum he h
theorem meets_enumT (l : Addr) (items : Array Value) (n : Nat) (dct : Option Addr) (sl : Array (Option Value)) :
    Meets (Builtin.«enumerate.__new__» ⟨[.type "enumerate", .ref l], []⟩) (fun _ R s => s.heap.get? l = some { cls := .type "tuple", dict := dct, data := .seq items n, slots := sl } ∧
      R (.ok (.ret (.ref (s.heap.push { cls := .type "tuple_iterator", data := .fields #[.ref l, .int 0 0] }).objs.size)))
        { s with heap := (s.heap.push { cls := .type "tuple_iterator", data := .fields #[.ref l, .int 0 0] }).push { cls := .type "enumerate", data := .fields #[.none, .bool false, .ref s.heap.objs.size, rawInt 0, .none, .none] } }) :=
  .of_wp fun prog w A R s h => by
    obtain ⟨hp, g, d, tk, os⟩ := s; obtain ⟨hl, h⟩ := h
    have hsub := sub_enumerate
    have hL : Heap.IsTuple (Shared.heap ⟨hp, g, d, tk, os⟩) l items := ⟨_, hl, rfl, n, rfl⟩
    wp_walk using AutoSeq1.wpAny_loadPart' hl
    refine wpAny_stack_any fun st => wpAny_pure ?_
    split
    · rename_i c _ _ _ _ _
      cases (c == Value.type "enumerate")
      · wp_walk using AutoSeq1.wpAny_loadPart' hl, wpAny_pyIter_tuple hL
        exact ⟨_, rfl, h⟩
      · wp_walk using AutoSeq1.wpAny_loadPart' hl, wpAny_pyIter_tuple hL
        exact ⟨_, rfl, h⟩
    · wp_walk using AutoSeq1.wpAny_loadPart' hl, wpAny_pyIter_tuple hL
      exact ⟨_, rfl, h⟩
end MPE

set_option Elab.async false
set_option linter.all false
set_option maxRecDepth 100000
set_option maxHeartbeats 4000000
/-! MPE2: the calls enumerate(..), zip(.., ..) over lists and tuples. -/
namespace MPE
open PySem PySem.Spec PyProof.Rows L2
section
variable {prog : Program} {w : World} {A : Around} {E : Value → Shared → Prop} {s : Shared}
theorem call_enumT {l : Addr} {items : Array Value} {Q : Value → Shared → Prop} (hL : s.heap.IsTuple l items)
    (h : ∀ h', IsEnum h' (s.heap.objs.size + 1) s.heap.objs.size 0 .none → h'.IsTupleIter s.heap.objs.size l 0 → h'.objs.size = s.heap.objs.size + 2 →
      (∀ b o, s.heap.get? b = some o → h'.get? b = some o) → Q (.ref (s.heap.objs.size + 1)) { s with heap := h' }) :
    wpAny (model prog w) A (call (.type "enumerate") [.ref l]) Q E s := by
  obtain ⟨⟨c, dct, dt, sl⟩, hl, hc, n, hd⟩ := hL
  replace hc : c = .type "tuple" := hc
  replace hd : dt = .seq items n := hd
  subst hc hd
  refine callType_new F.called_enumerate (by decide) (F.typeCall_enumerate_1 _) (F.newCall_enumerate_1 _) (fun obj => F.args_object_init_2 obj _) F.entry_enumerate_new
    (meets_enumT l items n dct sl) ⟨hl, ?_⟩
  have hz : (s.heap.push { cls := .type "tuple_iterator", data := .fields #[.ref l, .int 0 0] }).objs.size = s.heap.objs.size + 1 := Heap.size_push ..
  show _ ∧ _
  rw [hz]
  have he : IsEnum ((s.heap.push { cls := .type "tuple_iterator", data := .fields #[.ref l, .int 0 0] }).push
      { cls := .type "enumerate", data := .fields #[.none, .bool false, .ref s.heap.objs.size, rawInt 0, .none, .none] }) (s.heap.objs.size + 1) s.heap.objs.size 0 .none := by
    have := Heap.get?_push_size (s.heap.push { cls := .type "tuple_iterator", data := .fields #[.ref l, .int 0 0] })
      (o := { cls := .type "enumerate", data := .fields #[.none, .bool false, .ref s.heap.objs.size, rawInt 0, .none, .none] }) rfl
    rw [hz] at this; exact this
  refine ⟨⟨_, he, rfl⟩, h _ he ⟨_, Heap.get?_push_of_some _ (Heap.get?_push_size _ rfl), rfl, rfl⟩ (by rw [Heap.size_push, hz]) fun b o x => Heap.get?_push_of_some _ (Heap.get?_push_of_some _ x)⟩
theorem call_enumK (t : Bool) {l : Addr} {items : Array Value} {Q : Value → Shared → Prop} (hL : IsS t s.heap l items)
    (h : ∀ h', IsEnum h' (s.heap.objs.size + 1) s.heap.objs.size 0 .none → IA t h' s.heap.objs.size l 0 → h'.objs.size = s.heap.objs.size + 2 →
      (∀ b o, s.heap.get? b = some o → h'.get? b = some o) → Q (.ref (s.heap.objs.size + 1)) { s with heap := h' }) :
    wpAny (model prog w) A (call (.type "enumerate") [.ref l]) Q E s := by
  cases t
  · exact call_enumerate_list hL h
  · exact call_enumT hL h
end
def iEnumK (K : PySem.W.Frag) (ta : TA) : TI := fun σ H R => ta σ H fun vs H1 => ∃ t a xs, vs = [.ref a] ∧ Sq t K H1 a xs ∧ R (IteK t K a) H1
theorem pi_enumK {X : Cx} {e : Expr} {ta : TA} {p pos tpos : Pos} {elts : List Expr} {kk : Nat} (hg : Gl X "enumerate") (hm : X.mg "enumerate" = none) (ha : PA X [e] ta) (hs : starEach [e] X.env = [(false, eval e X.env)] := by rfl) :
    PI X (.Tuple elts kk tpos) (.Call (.Name "enumerate" p) [e] [] pos) (iEnumK X.K ta) := by
  refine ⟨fun pins s σ H R I h => ?_⟩
  refine Call_ (ld_blt I hg hm boot_enumerate (PyProof.Rows.callWith_type1 (thn (ha.run pos pins s σ H _ I h) fun us s1 ⟨vs, H1, I1, r1, q1⟩ => ?_) hs rfl))
  obtain ⟨t, a, xs, ex, hq, q⟩ := q1
  subst ex
  cases r1 with
  | cons r rr =>
    cases rr
    cases r
    obtain ⟨its, rv, p', hz⟩ := inv_sq I1 hq
    have la := is_lt p'
    refine call_enumK t p' fun h' he hit hsz hk => wpAny_pyIter_enum he ?_
    have I2 : L2.Inv X pins σ H1 { s1 with heap := h' } := I1.kept (t' := s1.toks) hk
    refine ⟨s1.heap.objs.size + 1, [s1.heap.objs.size + 1, s1.heap.objs.size], _, _, H1, rfl, I2, turn_enumK t a (s1.heap.objs.size + 1) s1.heap.objs.size, ⟨⟨.none, he⟩, hit, Nat.succ_ne_self _, Ne.symm (Nat.ne_of_lt (Nat.lt_succ_of_lt la)), Nat.ne_of_lt la⟩, fun b hb => ?_, q⟩
    have e' : b = s1.heap.objs.size + 1 ∨ b = s1.heap.objs.size := by simpa using hb
    have hle : s1.heap.objs.size ≤ b := by
      rcases e' with z | z
      · rw [z]; exact Nat.le_add_right _ _
      · rw [z]; exact Nat.le_refl _
    exact I1.fpOk hle (I1.hok.fresh hle)
/-! ### zip -/
def ItzK (t1 t2 : Bool) (K : PySem.W.Frag) (a b : Addr) : It :=
  ⟨fun i H => ∃ (xs ys : List V) (x y : V), Sq t1 K H a xs ∧ Sq t2 K H b ys ∧ xs[i]? = some x ∧ ys[i]? = some y,
    fun i H v H' => ∃ T x y, v = .ref T ∧ H T = none ∧ H' = upd H T (.tup [x, y]) ∧ (∀ xs, Sq t1 K H a xs → xs[i]? = some x) ∧ ∀ ys, Sq t2 K H b ys → ys[i]? = some y,
    fun i H => ∃ xs ys : List V, Sq t1 K H a xs ∧ Sq t2 K H b ys ∧ i ≤ xs.length ∧ i ≤ ys.length ∧ (i = xs.length ∨ i = ys.length)⟩
theorem turn_zipK (t1 t2 : Bool) {P : Program} {w : World} {K : PySem.W.Frag} {elts : List Expr} {kk : Nat} {tpos : Pos} {a b z TI TO i1 i2 : Addr} (D : ZipSep2 z TI TO i1 i2 [i1, a] [i2, b]) (ha : a ≠ i1) (hb : b ≠ i2) :
    Turn P w K (.Tuple elts kk tpos) (ItzK t1 t2 K a b) [z, TI, TO, i1, i2] z (fun i h => IsZip h z TI TO .none ∧ IsTupOf2 h TI (.ref i1) (.ref i2) ∧ (∃ x y, IsTupOf2 h TO x y) ∧ IA t1 h i1 a i ∧ IA t2 h i2 b i) where
  mem := by simp
  obj := fun i h st c hc => by
    obtain ⟨hz, hTI, ⟨x, y, hTO⟩, h1, h2⟩ := st
    have e' : c = z ∨ c = TI ∨ c = TO ∨ c = i1 ∨ c = i2 := by simpa using hc
    rcases e' with q | q | q | q | q
    · rw [q]; exact ⟨_, hz, fun v q => nomatch q⟩
    · rw [q]; exact ⟨_, hTI, fun v q => nomatch q⟩
    · rw [q]; exact ⟨_, hTO, fun v q => nomatch q⟩
    · rw [q]; exact ia_obj h1
    · rw [q]; exact ia_obj h2
  keep := fun i h h' st k => by
    obtain ⟨hz, hTI, ⟨x, y, hTO⟩, h1, h2⟩ := st
    exact ⟨k z (by simp) _ hz, k TI (by simp) _ hTI, ⟨x, y, k TO (by simp) _ hTO⟩, ia_at h1 fun o q => k i1 (by simp) o q, ia_at h2 fun o q => k i2 (by simp) o q⟩
  item := by
    intro X hP hw hK hc i pins s σ H E I hf st hg
    subst hP hw hK
    obtain ⟨hz, hTI, ⟨x0, y0, hTO⟩, h1, h2⟩ := st
    obtain ⟨xs, ys, x, y, hqx, hqy, hx, hy⟩ := hg
    obtain ⟨its, rv, p, _⟩ := inv_sq I hqx
    obtain ⟨its2, rv2, p2, _⟩ := inv_sq I hqy
    obtain ⟨u, hu, ru⟩ := rv.get hx
    obtain ⟨u2, hu2, ru2⟩ := rv2.get hy
    have hzl : z < s.heap.objs.size := Heap.lt_size hz
    have hh : X.A.in1.handled = none := I.ok.hd hc
    have l1 : i < its.toArray.size := by
      have := (List.getElem?_eq_some_iff.mp hu).1
      simpa using this
    have l2 : i < its2.toArray.size := by
      have := (List.getElem?_eq_some_iff.mp hu2).1
      simpa using this
    refine wpAny_pyNext_zipD2_item D (draws_k t1 hh i1 a ha its.toArray) (draws_k t2 hh i2 b hb its2.toArray) hz hTI hTO ⟨h1, p⟩ ⟨h2, p2⟩ l1 l2 fun v1 v2 h' tk g1 g2 z' TO' h1' h2' hT hsz hk => ?_
    have e1 : v1 = u := by
      have g1 : its.toArray[i]? = some v1 := g1
      rw [show its.toArray[i]? = some u by simpa using hu] at g1
      exact (Option.some.inj g1).symm
    have e2 : v2 = u2 := by
      have g2 : its2.toArray[i]? = some v2 := g2
      rw [show its2.toArray[i]? = some u2 by simpa using hu2] at g2
      exact (Option.some.inj g2).symm
    subst e1 e2
    refine ⟨_, rfl, wpAny_letOwnedTupleGo_zip (s := { s with heap := h', toks := tk }) z' fun h'' z'' sb => ?_⟩
    have hT2 : h''.get? s.heap.objs.size = some { cls := .type "tuple", data := .seq #[v1, v2] } := (sb.2 _ (Nat.ne_of_gt hzl)).trans hT
    have new : ObjOk X.prog X.w (upd H s.heap.objs.size (.tup [x, y])) h'' s.heap.objs.size (.tup [x, y]) :=
      ⟨by show 2 ≤ sizeLine; decide, [v1, v2], .cons ru (.cons ru2 .nil), ⟨_, hT2, rfl, _, rfl⟩⟩
    have I1 : L2.Inv X pins σ (upd H s.heap.objs.size (.tup [x, y])) { s with heap := h'', toks := tk } :=
      I.turnedNew (t' := tk) (ch := [z, TI, TO, i1, i2]) (fun c o hb q => (sb.2 c (fun q' => hb (by simp [q']))).trans (hk c o (fun q' => hb (by simp [q'])) (fun q' => hb (by simp [q'])) (fun q' => hb (by simp [q'])) (fun q' => hb (by simp [q'])) q)) hf (Nat.le_refl _) new
    refine ⟨.ref s.heap.objs.size, _, I1, rfl, ⟨_, x, y, rfl, I.hok.fresh (Nat.le_refl _), rfl, fun l hl => by rw [inv_inj I hl hqx]; exact hx, fun l hl => by rw [inv_inj I hl hqy]; exact hy⟩, ⟨z'', ?_, ⟨v1, v2, ?_⟩, ?_, ?_⟩, fun c hcm => ?_⟩
    · exact (sb.2 _ D.TIz).trans (hk _ _ D.TIz D.TITO D.TIi1 D.TIi2 hTI)
    · exact (sb.2 _ D.TOz).trans TO'
    · exact ia_at h1'.1 fun o q => (sb.2 _ (Ne.symm D.zi1)).trans q
    · exact ia_at h2'.1 fun o q => (sb.2 _ (Ne.symm D.zi2)).trans q
    · have hlt : c < s.heap.objs.size := by
        have e' : c = z ∨ c = TI ∨ c = TO ∨ c = i1 ∨ c = i2 := by simpa using hcm
        rcases e' with q | q | q | q | q
        · rw [q]; exact hzl
        · rw [q]; exact Heap.lt_size hTI
        · rw [q]; exact Heap.lt_size hTO
        · rw [q]; obtain ⟨_, e1, _⟩ := ia_obj h1; exact Heap.lt_size e1
        · rw [q]; obtain ⟨_, e2, _⟩ := ia_obj h2; exact Heap.lt_size e2
      rw [upd_ne (Nat.ne_of_lt hlt)]
      exact (hf c hcm).1
  done := by
    intro X hP hw hK hc i pins s σ H E I hf st hg
    subst hP hw hK
    obtain ⟨hz, hTI, ⟨x0, y0, hTO⟩, h1, h2⟩ := st
    obtain ⟨xs, ys, hqx, hqy, m1, m2, hend⟩ := hg
    obtain ⟨its, rv, p, _⟩ := inv_sq I hqx
    obtain ⟨its2, rv2, p2, _⟩ := inv_sq I hqy
    have l1 := rv.length
    have l2 := rv2.length
    have hh : X.A.in1.handled = none := I.ok.hd hc
    exact wpAny_pyNext_zipD2_end D (draws_k t1 hh i1 a ha its.toArray) (draws_k t2 hh i2 b hb its2.toArray) hz hTI hTO ⟨h1, p⟩ ⟨h2, p2⟩ (by simp; omega) (by simp; omega) (by simp; omega) fun h' tk hk => ⟨rfl, I.turnedL (t' := tk) (ch := [z, TI, TO, i1, i2]) (fun c o hb q =>
      hk c o (fun q' => hb (by simp [q'])) (fun q' => hb (by simp [q'])) (fun q' => hb (by simp [q'])) (fun q' => hb (by simp [q'])) q) hf⟩
  self := fun A i s Q E st h => wpAny_pyIter_zip st.1 h
abbrev hz1 (t1 : Bool) (h : Heap) (l1 : Addr) : Heap := h.push { cls := .type (iname t1), data := .fields #[.ref l1, .int 0 0] }
abbrev hz2 (t1 t2 : Bool) (h : Heap) (l1 l2 : Addr) : Heap := (hz1 t1 h l1).push { cls := .type (iname t2), data := .fields #[.ref l2, .int 0 0] }
abbrev hz3 (t1 t2 : Bool) (h : Heap) (l1 l2 : Addr) : Heap := (hz2 t1 t2 h l1 l2).push { cls := .type "tuple", data := .seq #[.ref h.objs.size, .ref (hz1 t1 h l1).objs.size] }
abbrev hz4 (t1 t2 : Bool) (h : Heap) (l1 l2 : Addr) : Heap := (hz3 t1 t2 h l1 l2).push { cls := .type "tuple", data := .seq #[.none, .none] }
abbrev hz5 (t1 t2 : Bool) (h : Heap) (l1 l2 : Addr) : Heap := (hz4 t1 t2 h l1 l2).push { cls := .type "zip", data := .fields #[.none, .bool false, .bool false, .ref (hz2 t1 t2 h l1 l2).objs.size, .ref (hz3 t1 t2 h l1 l2).objs.size] }
theorem is_push {t : Bool} {h : Heap} {a : Addr} {items : Array Value} (x : IsS t h a items) (o : Obj) : IsS t (h.push o) a items := by
  cases t
  · exact Heap.IsList.push x _
  · exact Heap.IsTuple.push x _
theorem iter_k (t : Bool) {prog : Program} {w : World} {A : Around} {E : Value → Shared → Prop} {s : Shared} {a : Addr} {items : Array Value} {Q : Value → Shared → Prop} (x : IsS t s.heap a items)
    (h : Q (.ref s.heap.objs.size) { s with heap := s.heap.push { cls := .type (iname t), data := .fields #[.ref a, .int 0 0] } }) : wpAny (model prog w) A (pyIter (.ref a)) Q E s := by
  cases t
  · exact wpAny_pyIter_list x h
  · exact wpAny_pyIter_tuple x h
theorem meets_zipK (t1 t2 : Bool) (l1 l2 : Addr) (xs ys : Array Value) :
    Meets (Builtin.«zip.__new__» ⟨[.type "zip", .ref l1, .ref l2], []⟩) (fun _ R s => IsS t1 s.heap l1 xs ∧ IsS t2 s.heap l2 ys ∧
      R (.ok (.ret (.ref (hz4 t1 t2 s.heap l1 l2).objs.size))) { s with heap := hz5 t1 t2 s.heap l1 l2 }) :=
  .of_wp fun prog w A R s h => by
    obtain ⟨hp, g, d, tk, os⟩ := s; obtain ⟨hl1, hl2, h⟩ := h
    have hsub := sub_zip
    have hL1 : IsS t1 (Shared.heap ⟨hp, g, d, tk, os⟩) l1 xs := hl1
    have hL2 : IsS t2 (Shared.heap ⟨hp.push { cls := .type (iname t1), data := .fields #[.ref l1, .int 0 0] }, g, d, tk, os⟩) l2 ys := is_push hl2 _
    wp_walk using iter_k t1 hL1, iter_k t2 hL2
    exact ⟨_, rfl, h⟩
theorem ia_new (t : Bool) {h : Heap} {it a : Addr} (e : h.get? it = some { cls := .type (iname t), data := .fields #[.ref a, .int 0 0] }) : IA t h it a 0 := by
  cases t
  · exact ⟨_, e, rfl, rfl⟩
  · exact ⟨_, e, rfl, rfl⟩
section
variable {prog : Program} {w : World} {A : Around} {E : Value → Shared → Prop} {s : Shared}
theorem call_zipK (t1 t2 : Bool) {l1 l2 : Addr} {xs ys : Array Value} {Q : Value → Shared → Prop} (hl1 : IsS t1 s.heap l1 xs) (hl2 : IsS t2 s.heap l2 ys)
    (h : ∀ h', IsZip h' (s.heap.objs.size + 4) (s.heap.objs.size + 2) (s.heap.objs.size + 3) .none → IsTupOf2 h' (s.heap.objs.size + 2) (.ref s.heap.objs.size) (.ref (s.heap.objs.size + 1)) →
      IsTupOf2 h' (s.heap.objs.size + 3) .none .none → IA t1 h' s.heap.objs.size l1 0 → IA t2 h' (s.heap.objs.size + 1) l2 0 →
      (∀ c o, s.heap.get? c = some o → h'.get? c = some o) → Q (.ref (s.heap.objs.size + 4)) { s with heap := h' }) :
    wpAny (model prog w) A (call (.type "zip") [.ref l1, .ref l2]) Q E s := by
  refine callType_new F.called_zip (by decide) (F.typeCall_zip_2 _ _) (F.newCall_zip_2 _ _) (fun obj => F.args_object_init_3 obj _ _) F.entry_zip_new
    (meets_zipK t1 t2 l1 l2 xs ys) ⟨hl1, hl2, ?_⟩
  have z1 : (hz1 t1 s.heap l1).objs.size = s.heap.objs.size + 1 := Heap.size_push ..
  have z2 : (hz2 t1 t2 s.heap l1 l2).objs.size = s.heap.objs.size + 2 := by rw [Heap.size_push, z1]
  have z3 : (hz3 t1 t2 s.heap l1 l2).objs.size = s.heap.objs.size + 3 := by rw [Heap.size_push, z2]
  have z4 : (hz4 t1 t2 s.heap l1 l2).objs.size = s.heap.objs.size + 4 := by rw [Heap.size_push, z3]
  have g5 : (hz5 t1 t2 s.heap l1 l2).get? (hz4 t1 t2 s.heap l1 l2).objs.size = some _ := Heap.get?_push_size _ rfl
  have g4 : (hz5 t1 t2 s.heap l1 l2).get? (hz3 t1 t2 s.heap l1 l2).objs.size = some _ := Heap.get?_push_of_some _ (Heap.get?_push_size _ rfl)
  have g3 : (hz5 t1 t2 s.heap l1 l2).get? (hz2 t1 t2 s.heap l1 l2).objs.size = some _ := Heap.get?_push_of_some _ (Heap.get?_push_of_some _ (Heap.get?_push_size _ rfl))
  have g2 : (hz5 t1 t2 s.heap l1 l2).get? (hz1 t1 s.heap l1).objs.size = some _ := Heap.get?_push_of_some _ (Heap.get?_push_of_some _ (Heap.get?_push_of_some _ (Heap.get?_push_size _ rfl)))
  have g1 : (hz5 t1 t2 s.heap l1 l2).get? s.heap.objs.size = some _ := Heap.get?_push_of_some _ (Heap.get?_push_of_some _ (Heap.get?_push_of_some _ (Heap.get?_push_of_some _ (Heap.get?_push_size _ rfl))))
  show _ ∧ _
  rw [z2, z3, z4] at g5
  rw [z1, z2] at g3
  rw [z3] at g4
  rw [z1] at g2
  rw [z4]
  exact ⟨⟨_, g5, rfl⟩, h _ g5 g3 g4 (ia_new t1 g1) (ia_new t2 g2) fun c o x =>
    Heap.get?_push_of_some _ (Heap.get?_push_of_some _ (Heap.get?_push_of_some _ (Heap.get?_push_of_some _ (Heap.get?_push_of_some _ x))))⟩
end
def iZipK (K : PySem.W.Frag) (ta : TA) : TI := fun σ H R => ta σ H fun vs H1 => ∃ t1 t2 a b xs ys, vs = [.ref a, .ref b] ∧ Sq t1 K H1 a xs ∧ Sq t2 K H1 b ys ∧ R (ItzK t1 t2 K a b) H1
theorem sep_k {n a b : Nat} (ha : a < n) (hb : b < n) : ZipSep2 (n + 4) (n + 2) (n + 3) n (n + 1) [n, a] [n + 1, b] where
  TIz := (show (n + 2 : Nat) ≠ n + 4 by omega)
  TOz := (show (n + 3 : Nat) ≠ n + 4 by omega)
  TITO := (show (n + 2 : Nat) ≠ n + 3 by omega)
  TIi1 := (show (n + 2 : Nat) ≠ n by omega)
  mem1 := by simp
  zf1 := fun h => by
    have h : (n + 4 : Nat) = (n : Nat) ∨ (n + 4 : Nat) = a := by simpa using h
    rcases h with h | h <;> omega
  Tf1 := fun h => by
    have h : (n + 3 : Nat) = (n : Nat) ∨ (n + 3 : Nat) = a := by simpa using h
    rcases h with h | h <;> omega
  TIi2 := (show (n + 2 : Nat) ≠ n + 1 by omega)
  mem2 := by simp
  zf2 := fun h => by
    have h : (n + 4 : Nat) = (n + 1 : Nat) ∨ (n + 4 : Nat) = b := by simpa using h
    rcases h with h | h <;> omega
  Tf2 := fun h => by
    have h : (n + 3 : Nat) = (n + 1 : Nat) ∨ (n + 3 : Nat) = b := by simpa using h
    rcases h with h | h <;> omega
  sep1_2 := fun h => by
    have h : (n : Nat) = (n + 1 : Nat) ∨ (n : Nat) = b := by simpa using h
    rcases h with h | h <;> omega
  sep2_1 := fun h => by
    have h : (n + 1 : Nat) = (n : Nat) ∨ (n + 1 : Nat) = a := by simpa using h
    rcases h with h | h <;> omega
theorem pi_zipK {X : Cx} {e e2 : Expr} {ta : TA} {p pos tpos : Pos} {elts : List Expr} {kk : Nat} (hg : Gl X "zip") (hm : X.mg "zip" = none) (ha : PA X [e, e2] ta)
    (hs : starEach [e, e2] X.env = (false, eval e X.env) :: starEach [e2] X.env := by rfl) (hpl : (backTo pos (starEach [e2] X.env)).any (·.1) = false := by rfl) :
    PI X (.Tuple elts kk tpos) (.Call (.Name "zip" p) [e, e2] [] pos) (iZipK X.K ta) := by
  refine ⟨fun pins s σ H R I h => ?_⟩
  refine Call_ (ld_blt I hg hm PyProof.Rows.boot_zip (PyProof.Rows.callWith_type1 (thn (ha.run pos pins s σ H _ I h) fun us s1 ⟨vs, H1, I1, r1, q1⟩ => ?_) hs hpl))
  obtain ⟨t1, t2, a, b, xs, ys, ex, hqx, hqy, q⟩ := q1
  subst ex
  cases r1 with
  | cons r rr =>
    cases rr with
    | cons r' rr =>
      cases rr
      cases r
      cases r'
      obtain ⟨its, rv, p1, _⟩ := inv_sq I1 hqx
      obtain ⟨its2, rv2, p2, _⟩ := inv_sq I1 hqy
      have la := is_lt p1
      have lb := is_lt p2
      refine call_zipK t1 t2 p1 p2 fun h' hz hTI hTO h1 h2 hk => wpAny_pyIter_zip hz ?_
      have I2 : L2.Inv X pins σ H1 { s1 with heap := h' } := I1.kept (t' := s1.toks) hk
      refine ⟨s1.heap.objs.size + 4, [s1.heap.objs.size + 4, s1.heap.objs.size + 2, s1.heap.objs.size + 3, s1.heap.objs.size, s1.heap.objs.size + 1], _, _, H1, rfl, I2, turn_zipK t1 t2 (sep_k la lb) (Nat.ne_of_lt la) (Nat.ne_of_lt (Nat.lt_succ_of_lt lb)), ⟨hz, hTI, ⟨_, _, hTO⟩, h1, h2⟩, fun c hcm => ?_, q⟩
      have e' : c = s1.heap.objs.size + 4 ∨ c = s1.heap.objs.size + 2 ∨ c = s1.heap.objs.size + 3 ∨ c = s1.heap.objs.size ∨ c = s1.heap.objs.size + 1 := by simpa using hcm
      have hle : s1.heap.objs.size ≤ c := by
        rcases e' with z | z | z | z | z
        · rw [z]; exact Nat.le_add_right _ _
        · rw [z]; exact Nat.le_add_right _ _
        · rw [z]; exact Nat.le_add_right _ _
        · rw [z]; exact Nat.le_refl _
        · rw [z]; exact Nat.le_add_right _ _
      exact I1.fpOk hle (I1.hok.fresh hle)
end MPE

set_option Elab.async false
set_option linter.all false
set_option maxRecDepth 100000
set_option maxHeartbeats 4000000
/-! MPT8: equations for reckoning with texts. -/
namespace MP
open PySem
section
variable (ρ : En) (st : S) (i : Int) (a b : Str)
@[simp] theorem gIntS_int : gIntS [.int i] st = some (.int i, st) := rfl
@[simp] theorem gFind_str : gFind (.str a) (.str b) st = some (.int (Txt.find a b), st) := rfl
@[simp] theorem gStarts_str : gStarts (.str a) (.str b) st = some (.bl (Txt.startswith a b), st) := rfl
@[simp] theorem gEq_str : gEq (.str a) (.str b) st = some (.bl (decide (a = b)), st) := rfl
@[simp] theorem gNe_str : gNe (.str a) (.str b) st = some (.bl (!decide (a = b)), st) := rfl
@[simp] theorem gAdd_str : gAdd (.str a) (.str b) st = if a.length + b.length ≤ sizeLine then some (.str (a ++ b), st) else none := rfl
@[simp] theorem gLen_str : gLen [.str a] st = if a.length ≤ sizeLine then some (.int a.length, st) else none := rfl
@[simp] theorem gIx_str : gIx (.str a) (.int i) st = if a.length ≤ sizeLine then (L2.atI a.cps.toList i).map fun c => (.str ⟨#[c]⟩, st) else none := rfl
@[simp] theorem gIs_non (x : D) (h : x = .non) : gIs x .non st = gIs .non .non st := by rw [h]
@[simp] theorem fM1_ap (g : D → D → S → Option (D × S)) (o f : FE) : fM1 g o f ρ st = (o ρ st).bind fun x st1 => match x with
  | .str _ => (f ρ st1).bind fun y st2 => ofO (g x y st2)
  | _ => .bad := rfl
@[simp] theorem inS_one (n : Bool) (c : Nat) : inS n (.str ⟨#[c]⟩) (.str a) st = some (.bl (if n then !decide (c ∈ a.cps.toList) else decide (c ∈ a.cps.toList)), st) := rfl
end
abbrev DG : Str := ("0123456789" : Str)
def isDg (c : Nat) : Prop := 48 ≤ c ∧ c ≤ 57
instance (c : Nat) : Decidable (isDg c) := inferInstanceAs (Decidable (_ ∧ _))
theorem DG_cps : DG.cps.toList = [48, 49, 50, 51, 52, 53, 54, 55, 56, 57] := by decide +kernel
theorem mem_DG (c : Nat) : c ∈ DG.cps.toList ↔ isDg c := by
  rw [DG_cps]
  unfold isDg
  simp only [List.mem_cons, List.not_mem_nil, or_false]
  omega
theorem find_DG_none {c : Nat} (h : ¬ isDg c) : Txt.find DG ⟨#[c]⟩ = -1 := by
  have e := StrLaws.found_one DG c
  rw [decide_eq_false (fun m => h ((mem_DG c).mp m))] at e
  unfold Txt.find
  cases ho : Builtin.Str.occurrences DG ⟨#[c]⟩ 0 DG.length 1 with
  | nil => rfl
  | cons x r => rw [ho] at e; simp at e
theorem find_DG {c : Nat} (h : isDg c) : Txt.find DG ⟨#[c]⟩ = ((c - 48 : Nat) : Int) := by
  obtain ⟨h1, h2⟩ := h
  obtain ⟨k, rfl⟩ : ∃ k, c = 48 + k := ⟨c - 48, by omega⟩
  have hk : k < 10 := by omega
  match k, hk with
  | 0, _ => decide +kernel
  | 1, _ => decide +kernel
  | 2, _ => decide +kernel
  | 3, _ => decide +kernel
  | 4, _ => decide +kernel
  | 5, _ => decide +kernel
  | 6, _ => decide +kernel
  | 7, _ => decide +kernel
  | 8, _ => decide +kernel
  | 9, _ => decide +kernel
  | k + 10, h => omega
end MP

set_option Elab.async false
set_option linter.all false
set_option maxRecDepth 100000
set_option maxHeartbeats 4000000
/-! MPT9: more equations for reckoning with texts, suites. -/
namespace MP
open PySem
section
variable (ρ : En) (st : S) (i : Int) (a b : Str)
@[simp] theorem gSl_str (lo hi : Option Int) : gSl (.str a) lo hi st = if a.length ≤ sizeLine then some (.str (L2.cutS a lo hi), st) else none := rfl
@[simp] theorem gSplit_str : gSplit (.str a) (.str b) st = if (b.length == 0) = false ∧ a.length + 2 ≤ sizeLine then some (.loc st.length, st ++ [.lst ((Txt.split a b).map D.str)]) else none := rfl
@[simp] theorem fPart_ap (e : FE) : fPart e ρ st = (e ρ st).bind fun x st1 => match x with
  | .int i => .ok (some i) st1
  | _ => .bad := rfl
@[simp] theorem gIs_int_non : gIs (.int i) .non st = some (.bl false, st) := by
  show some (D.bl (decide (D.int i = .non)), st) = _
  rw [decide_eq_false (by simp)]
@[simp] theorem gIs_tup_non (ds : List D) : gIs (.tup ds) .non st = some (.bl false, st) := by
  show some (D.bl (decide (D.tup ds = .non)), st) = _
  rw [decide_eq_false (by simp)]
@[simp] theorem gIs_str_non : gIs (.str a) .non st = some (.bl false, st) := by
  show some (D.bl (decide (D.str a = .non)), st) = _
  rw [decide_eq_false (by simp)]
@[simp] theorem gIs_loc_non (n : Nat) : gIs (.loc n) .non st = some (.bl false, st) := by
  show some (D.bl (decide (D.loc n = .non)), st) = _
  rw [decide_eq_false (by simp)]
@[simp] theorem gIs_non_non : gIs .non .non st = some (.bl true, st) := by
  show some (D.bl (decide (D.non = .non)), st) = _
  rw [decide_eq_true rfl]
@[simp] theorem gStr_str : gStr [.str a] st = some (.str a, st) := rfl
@[simp] theorem fFmt_ap (e : FE) : fFmt e ρ st = (e ρ st).bind fun x st1 => match x with
  | .str y => if y.length ≤ sizeLine then .ok (.str y) st1 else .bad
  | .int i => if i.natAbs.log2 < 1920 then .ok (.str (toString i)) st1 else .bad
  | _ => .bad := rfl
@[simp] theorem fJs_nil (acc : Str) : fJs [] acc ρ st = .ok (.str acc) st := rfl
@[simp] theorem fJs_cons (f : FE) (r : List FE) (acc : Str) : fJs (f :: r) acc ρ st = (f ρ st).bind fun x st1 => match x with
    | .str y => if (acc ++ y).length ≤ sizeLine then fJs r (acc ++ y) ρ st1 else .bad
    | _ => .bad := rfl
@[simp] theorem leave_rt (i : Nat) (d : D) (st : S) : sLeave i (.rt d st) = .rt d st := rfl
end
theorem sTryAs_ex {i : Nat} {tb : List (Str × Bool)} {fb : FS} {fh : Ex → Nat → FS} {ρ ρ1 : En} {st st1 : S} {e : Ex} (h : fb ρ st = .ex e ρ1 st1) (hl : tb.lookup e.cls = some true) :
    sTryAs i tb fb fh ρ st = sLeave i (fh e st1.length (ρ1.set i (some (.loc st1.length))) (st1 ++ [.nu])) := by
  unfold sTryAs
  rw [h]
  simp only [hl]
theorem kIsX_ok {k a : Nat} {c : Str} {tb : List (Str × Bool)} {st : S} {fs : List (Str × D)} {b : Bool} (h : st[a]? = some (.xd fs)) (hl : tb.lookup c = some b) : kIsX k ⟨c, a⟩ tb (.loc k) st = .ok (.bl b) st := by
  unfold kIsX
  rw [if_pos rfl]
  simp only [h, hl]
theorem kXf_ok {k a : Nat} {c f : Str} {cs : List Str} {st : S} {fs : List (Str × D)} {d : D} (h : st[a]? = some (.xd fs)) (hc : c ∈ cs) (hl : fs.lookup f = some d) : kXf k ⟨c, a⟩ cs f (.loc k) st = .ok d st := by
  unfold kXf
  rw [if_pos ⟨rfl, hc⟩]
  simp only [h, hl]
theorem gAdd_loc {st : S} {m n : Nat} {xs ys : List D} (h : st[m]? = some (.lst xs)) (g : st[n]? = some (.lst ys)) (hs : xs.length + ys.length ≤ sizeLine) : gAdd (.loc m) (.loc n) st = some (.loc st.length, st ++ [.lst (xs ++ ys)]) := by
  unfold gAdd
  simp only [h, g, if_pos hs]
end MP

set_option Elab.async false
set_option linter.all false
set_option maxRecDepth 100000
set_option maxHeartbeats 4000000
/-! MPL8: equations for reckoning with sources and comprehensions. -/
namespace MP
open PySem
section
variable (ρ : En) (st : S)
@[simp] theorem fSeq_ap (e : FE) : fSeq e ρ st = (e ρ st).bind fun d st1 => match d with
  | .tup ds => .ok (ds, (fun _ => true : S → Bool)) st1
  | .loc n => match lstAt st1 n with
    | some ds => .ok (ds, (fun s => decide (lstAt s n = some ds) : S → Bool)) st1
    | none => .bad
  | .str z => .ok (signs z, (fun _ => true : S → Bool)) st1
  | _ => .bad := rfl
@[simp] theorem fYes_ap : fYes ρ st = .ok true st := rfl
@[simp] theorem gSl_tup (xs : List D) (lo hi : Option Int) : gSl (.tup xs) lo hi st = some (.tup (cutD xs lo hi), st) := rfl
@[simp] theorem gTuple_tup (xs : List D) : gTuple [.tup xs] st = some (.tup xs, st) := rfl
@[simp] theorem gList_tup (xs : List D) : gList [.tup xs] st = some (.loc st.length, st ++ [.lst xs]) := rfl
@[simp] theorem gMulT_tup (xs : List D) (k : Int) : gMulT (.tup xs) (.int k) st = if -1000 ≤ k ∧ k ≤ 1000 ∧ xs.length ≤ 1000 then some (.tup (List.replicate k.toNat xs).flatten, st) else none := rfl
@[simp] theorem gAdd_tup (xs ys : List D) : gAdd (.tup xs) (.tup ys) st = if xs.length + ys.length ≤ sizeLine then some (.tup (xs ++ ys), st) else none := rfl
end
theorem gTuple_loc {st : S} {n : Nat} {xs : List D} (h : lstAt st n = some xs) : gTuple [.loc n] st = some (.tup xs, st) := by
  unfold gTuple
  simp only [h]
theorem gList_loc {st : S} {n : Nat} {xs : List D} (h : lstAt st n = some xs) : gList [.loc n] st = some (.loc st.length, st ++ [.lst xs]) := by
  unfold gList
  simp only [h]
theorem gAll_loc {st : S} {n : Nat} {xs : List D} {bs : List Bool} (h : lstAt st n = some xs) (e : bolsD xs = some bs) : gAll [.loc n] st = some (.bl (bs.all id), st) := by
  unfold gAll
  simp only [h, e, Option.map_some]
theorem gSl_loc {st : S} {n : Nat} {xs : List D} {lo hi : Option Int} (h : lstAt st n = some xs) : gSl (.loc n) lo hi st = some (.loc st.length, st ++ [.lst (cutD xs lo hi)]) := by
  unfold gSl
  simp only [h]
theorem bols_map {α : Type} (f : α → Bool) : ∀ l : List α, bolsD (l.map fun x => D.bl (f x)) = some (l.map f)
  | [] => rfl
  | a :: l => by
    show (bolsD (l.map fun x => D.bl (f x))).map (f a :: ·) = _
    rw [bols_map f l]
    rfl
theorem rep_one (k : Nat) (d : D) : (List.replicate k [d]).flatten = List.replicate k d := by
  induction k with
  | zero => rfl
  | succ k ih => rw [List.replicate_succ, List.flatten_cons, ih]; rfl
theorem cut_all_to {xs : List D} {k : Nat} (h : xs.length ≤ k) : cutD xs none (some (k : Int)) = xs := by
  unfold cutD
  rw [HT.sIx_none, HT.sIx_nat, List.drop_zero, Nat.min_eq_right h, Nat.sub_zero, List.take_length]
theorem cut_take {xs : List D} {k : Nat} : cutD xs none (some (k : Int)) = xs.take k := by
  unfold cutD
  rw [HT.sIx_none, HT.sIx_nat, List.drop_zero, Nat.sub_zero]
  by_cases h : k ≤ xs.length
  · rw [Nat.min_eq_left h]
  · rw [Nat.min_eq_right (by omega), List.take_of_length_le (by omega), List.take_of_length_le (by omega)]
theorem cut_drop {xs : List D} {k : Nat} : cutD xs (some (k : Int)) none = xs.drop k := by
  unfold cutD
  rw [HT.sIx_none, HT.sIx_nat]
  by_cases h : k ≤ xs.length
  · rw [Nat.min_eq_left h, List.take_of_length_le (by rw [List.length_drop]; omega)]
  · rw [Nat.min_eq_right (by omega), List.drop_of_length_le (by omega), List.drop_of_length_le (by omega), List.take_nil]
theorem cut_tl (d : D) (xs : List D) : cutD (d :: xs) (some 1) none = xs := by
  have z := cut_drop (xs := d :: xs) (k := 1)
  exact z
theorem ints_map : ∀ ns : List Int, intsD (ns.map D.int) = some ns
  | [] => rfl
  | n :: ns => by
    show (intsD (ns.map D.int)).map (fun is => n :: is) = some (n :: ns)
    rw [ints_map ns]
    rfl
theorem lst_app {st : S} {n : Nat} {xs : List D} (os : List Ob) (h : lstAt st n = some xs) : lstAt (st ++ os) n = some xs := by
  unfold lstAt at h ⊢
  by_cases hn : n < st.length
  · rw [List.getElem?_append_left hn]
    exact h
  · rw [List.getElem?_eq_none (by omega)] at h
    cases h
theorem app_at {st : S} {k : Nat} {o : Ob} (h : st[k]? = some o) (os : List Ob) : (st ++ os)[k]? = some o := by
  rw [List.getElem?_append_left (List.getElem?_eq_some_iff.mp h).1]
  exact h
theorem set_last (st : S) (o o' : Ob) : (st ++ [o]).set st.length o' = st ++ [o'] := by
  rw [List.set_append_right _ _ (Nat.le_refl _)]
  simp
/-- a comprehension whose items leave the store as it is -/
theorem lcGo_map {chk : S → Bool} {g : FG} {fe : FE} {ρ : En} {F : D → D} : ∀ (ds acc : List D) (st0 : S), acc.length + ds.length < sizeLine → (∀ xs, chk (st0 ++ [.lst xs]) = true) →
    (∀ d ∈ ds, ∀ xs, ∃ ρ1, g d (st0 ++ [.lst xs]) ρ = some ρ1 ∧ fe ρ1 (st0 ++ [.lst xs]) = .ok (F d) (st0 ++ [.lst xs])) →
    lcGo chk g fYes fe ρ st0.length ds (st0 ++ [.lst acc]) = .ok (.loc st0.length) (st0 ++ [.lst (acc ++ ds.map F)])
  | [], acc, st0, hl, hc, hb => by
    unfold lcGo
    rw [if_pos (hc acc), List.map_nil, List.append_nil]
  | d :: ds, acc, st0, hl, hc, hb => by
    obtain ⟨ρ1, e1, e2⟩ := hb d List.mem_cons_self acc
    rw [List.length_cons] at hl
    unfold lcGo
    rw [if_pos (hc acc), e1]
    simp only [fYes_ap, e2, app_new]
    rw [if_pos (by omega), set_last, lcGo_map ds (acc ++ [F d]) st0 (by rw [List.length_append, List.length_singleton]; omega) hc (fun d' h' => hb d' (List.mem_cons_of_mem _ h'))]
    rw [List.map_cons, List.append_assoc]
    rfl
theorem fLc_map {own : List Nat} {fi : FI} {g : FG} {fe : FE} {ρ : En} {st st1 : S} {ds : List D} {chk : S → Bool} {F : D → D} (hi : fi ρ st = .ok (ds, chk) st1) (hl : ds.length < sizeLine) (hc : ∀ xs, chk (st1 ++ [.lst xs]) = true)
    (hb : ∀ d ∈ ds, ∀ xs, ∃ ρ1, g d (st1 ++ [.lst xs]) (wipeE ρ own) = some ρ1 ∧ fe ρ1 (st1 ++ [.lst xs]) = .ok (F d) (st1 ++ [.lst xs])) :
    fLc own fi g fYes fe ρ st = .ok (.loc st1.length) (st1 ++ [.lst (ds.map F)]) := by
  unfold fLc
  rw [hi]
  show lcGo _ _ _ _ _ _ _ _ = _
  rw [lcGo_map ds [] st1 (by simpa using hl) hc hb]
  rfl
/-- a loop whose turns only add to the store -/
theorem loop_app {i : Nat} {body : FS} {ρ0 : En} {chk : S → Bool} : ∀ (ds : List D) (s0 : S) (x : Option D), (∀ os, chk (s0 ++ os) = true) →
    (∀ d ∈ ds, ∀ os, ∃ os', body (ρ0.set i (some d)) (s0 ++ os) = .nx (ρ0.set i (some d)) (s0 ++ os ++ os')) →
    ∃ y os, sLoop chk (tgN i) body ds (ρ0.set i x) s0 = .nx (ρ0.set i y) (s0 ++ os)
  | [], s0, x, hc, hb => ⟨x, [], by rw [sLoop_nil, if_pos (by have := hc []; rwa [List.append_nil] at this), List.append_nil]⟩
  | d :: ds, s0, x, hc, hb => by
    obtain ⟨os1, e1⟩ := hb d List.mem_cons_self []
    rw [List.append_nil] at e1
    obtain ⟨y, os2, e2⟩ := loop_app (i := i) (body := body) (ρ0 := ρ0) (chk := chk) ds (s0 ++ os1) (some d) (fun os => by rw [List.append_assoc]; exact hc _) (fun d' h' os => by
      obtain ⟨os', e⟩ := hb d' (List.mem_cons_of_mem _ h') (os1 ++ os)
      rw [← List.append_assoc] at e
      exact ⟨os', e⟩)
    refine ⟨y, os1 ++ os2, ?_⟩
    unfold sLoop
    rw [if_pos (by have := hc []; rwa [List.append_nil] at this)]
    have t1 : tgN i d s0 (ρ0.set i x) = some (ρ0.set i (some d)) := by rw [tgN_ap, List.set_set]
    rw [t1]
    simp only [e1]
    rw [e2, List.append_assoc]
theorem set_mid (st os : S) (o o' : Ob) : (st ++ [o] ++ os).set st.length o' = st ++ [o'] ++ os := by
  rw [List.append_assoc, List.set_append_right _ _ (Nat.le_refl _)]
  simp
theorem at_mid (st os : S) (o : Ob) : (st ++ [o] ++ os)[st.length]? = some o := app_at app_new os
/-- a loop that appends one item a turn to the list laid behind st0 -/
theorem build_loop {i r : Nat} {fe : FE} {ρ0 : En} {st0 : S} {chk : S → Bool} (F : D → D) (hr : ∀ x, (ρ0.set i x)[r]? = some (some (.loc st0.length))) : ∀ (ds acc : List D) (os : List Ob) (x : Option D), acc.length + ds.length < sizeLine → (∀ xs os, chk (st0 ++ [.lst xs] ++ os) = true) →
    (∀ d ∈ ds, ∀ xs os, ∃ os', fe (ρ0.set i (some d)) (st0 ++ [.lst xs] ++ os) = .ok (F d) (st0 ++ [.lst xs] ++ (os ++ os'))) →
    ∃ y os', sLoop chk (tgN i) (sExpr (fLM gAppend (fVar r) (fCons fe fNil))) ds (ρ0.set i x) (st0 ++ [.lst acc] ++ os) = .nx (ρ0.set i y) (st0 ++ [.lst (acc ++ ds.map F)] ++ os')
  | [], acc, os, x, hl, hc, hb => ⟨x, os, by rw [sLoop_nil, if_pos (hc _ _), List.map_nil, List.append_nil]⟩
  | d :: ds, acc, os, x, hl, hc, hb => by
    obtain ⟨os1, e1⟩ := hb d List.mem_cons_self acc os
    rw [List.length_cons] at hl
    obtain ⟨y, os2, e2⟩ := build_loop (chk := chk) F hr ds (acc ++ [F d]) (os ++ os1) (some d) (by rw [List.length_append, List.length_singleton]; omega) hc (fun d' h' => hb d' (List.mem_cons_of_mem _ h'))
    refine ⟨y, os2, ?_⟩
    have t1 : tgN i d (st0 ++ [.lst acc] ++ os) (ρ0.set i x) = some (ρ0.set i (some d)) := by rw [tgN_ap, List.set_set]
    have b1 : (sExpr (fLM gAppend (fVar r) (fCons fe fNil))) (ρ0.set i (some d)) (st0 ++ [.lst acc] ++ os) = .nx (ρ0.set i (some d)) (st0 ++ [.lst (acc ++ [F d])] ++ (os ++ os1)) := by
      have g := gAppend_loc (d := F d) (at_mid st0 (os ++ os1) (.lst acc)) (by omega)
      rw [set_mid] at g
      simp only [sExpr_ap, fLM_ap, fVar_ap, hr, Out.bind_ok, lstAt_lst (at_mid st0 os (.lst acc)), fCons_ap, e1, fNil_ap, g, ofO, Out.so_ok]
    unfold sLoop
    rw [if_pos (hc _ _), t1]
    simp only [b1]
    rw [e2, List.map_cons, List.append_assoc acc]
    rfl
end MP

set_option Elab.async false
set_option linter.all false
set_option maxRecDepth 100000
set_option maxHeartbeats 4000000
/-! MPL9: loops that leave the store as it is. -/
namespace MP
open PySem
theorem loop_keep {i : Nat} {body : FS} {ρ0 : En} {chk : S → Bool} {s0 : S} (hc : chk s0 = true) : ∀ (ds : List D) (x : Option D),
    (∀ d ∈ ds, body (ρ0.set i (some d)) s0 = .nx (ρ0.set i (some d)) s0) → ∃ y, sLoop chk (tgN i) body ds (ρ0.set i x) s0 = .nx (ρ0.set i y) s0
  | [], x, hb => ⟨x, by rw [sLoop_nil, if_pos hc]⟩
  | d :: ds, x, hb => by
    have e1 := hb d List.mem_cons_self
    obtain ⟨y, e2⟩ := loop_keep (i := i) (body := body) (ρ0 := ρ0) (chk := chk) hc ds (some d) (fun d' h' => hb d' (List.mem_cons_of_mem _ h'))
    refine ⟨y, ?_⟩
    have t1 : tgN i d s0 (ρ0.set i x) = some (ρ0.set i (some d)) := by rw [tgN_ap, List.set_set]
    unfold sLoop
    rw [if_pos hc, t1]
    simp only [e1]
    exact e2
/-! ### steps as terms -/
section
variable {ρ ρ1 : En} {st st1 st2 st3 : S} {d x y : D} {ds : List D} {a b e : FE} {r A : FA} {t u : FT} {f g : FS} {o : SO} {v w : Bool}
theorem v_ok {i : Nat} (h : ρ[i]? = some (some d)) : fVar i ρ st = .ok d st := by rw [fVar_ap, h]
theorem c_ok : fC d ρ st = .ok d st := rfl
theorem nil_ok : fNil ρ st = .ok [] st := rfl
theorem cons_ok (h1 : a ρ st = .ok d st1) (h2 : r ρ st1 = .ok ds st2) : fCons a r ρ st = .ok (d :: ds) st2 := by rw [fCons_ap, h1, Out.bind_ok, h2]; rfl
theorem call_ok {G : List D → S → Out D} (h1 : A ρ st = .ok ds st1) (h2 : G ds st1 = .ok d st2) : fCall G A ρ st = .ok d st2 := by rw [fCall_ap, h1]; exact h2
theorem args_ok {G : List D → S → Option (D × S)} (h1 : A ρ st = .ok ds st1) (h2 : G ds st1 = some (d, st2)) : fArgs G A ρ st = .ok d st2 := by rw [fArgs_ap, h1, Out.bind_ok, h2]; rfl
theorem bin_ok {G : D → D → S → Option (D × S)} (h1 : a ρ st = .ok x st1) (h2 : b ρ st1 = .ok y st2) (h3 : G x y st2 = some (d, st3)) : fBin G a b ρ st = .ok d st3 := by rw [fBin_ap, h1, Out.bind_ok, h2, Out.bind_ok, h3]; rfl
theorem un_ok {G : D → S → Option (D × S)} (h1 : a ρ st = .ok x st1) (h3 : G x st1 = some (d, st2)) : fUn G a ρ st = .ok d st2 := by rw [fUn_ap, h1, Out.bind_ok, h3]; rfl
theorem tup_ok (h : A ρ st = .ok ds st1) : fTup A ρ st = .ok (.tup ds) st1 := by rw [fTup_ap, h]; rfl
theorem lst_ok (h : A ρ st = .ok ds st1) : fLst A ρ st = .ok (.loc st1.length) (st1 ++ [.lst ds]) := by rw [fLst_ap, h]; rfl
theorem set_ok {i : Nat} (h : e ρ st = .ok d st1) : sSet i e ρ st = .nx (ρ.set i (some d)) st1 := by rw [sSet_ap, h]; rfl
theorem ret_ok (h : e ρ st = .ok d st1) : sRet e ρ st = .rt d st1 := by rw [sRet_ap, h]; rfl
theorem seq_nx (h1 : f ρ st = .nx ρ1 st1) (h2 : g ρ1 st1 = o) : sSeq f g ρ st = o := by rw [sSeq_ap, h1, then_nx, h2]
theorem if_t (h1 : t ρ st = .ok true st1) (h2 : f ρ st1 = o) : sIf t f g ρ st = o := by rw [sIf_ap, h1, Out.so_ok, if_pos rfl, h2]
theorem if_f (h1 : t ρ st = .ok false st1) (h2 : g ρ st1 = o) : sIf t f g ρ st = o := by rw [sIf_ap, h1, Out.so_ok, if_neg Bool.false_ne_true, h2]
theorem isb_ok (h : e ρ st = .ok (.bl v) st1) : fIsB e ρ st = .ok v st1 := by rw [fIsB_ap, h]; rfl
theorem tru_ok (h : e ρ st = .ok (.bl v) st1) : fTru e ρ st = .ok v st1 := by rw [fTru_ap, h]; rfl
theorem not_ok (h : t ρ st = .ok v st1) : fNot t ρ st = .ok (!v) st1 := by rw [fNot_ap, h]; rfl
theorem or_f (h1 : t ρ st = .ok false st1) (h2 : u ρ st1 = .ok v st2) : fOr t u ρ st = .ok v st2 := by rw [fOr_ap, h1, Out.bind_ok, if_neg Bool.false_ne_true, h2]
theorem or_t (h1 : t ρ st = .ok true st1) : fOr t u ρ st = .ok true st1 := by rw [fOr_ap, h1, Out.bind_ok, if_pos rfl]
theorem and_t (h1 : t ρ st = .ok true st1) (h2 : u ρ st1 = .ok v st2) : fAnd t u ρ st = .ok v st2 := by rw [fAnd_ap, h1, Out.bind_ok, if_pos rfl, h2]
theorem and_f (h1 : t ρ st = .ok false st1) : fAnd t u ρ st = .ok false st1 := by rw [fAnd_ap, h1, Out.bind_ok, if_neg Bool.false_ne_true]
/-- if not E: return False -/
theorem ifn_ok (h : e ρ st = .ok (.bl true) st1) : sIf (fNot (fTru e)) (sRet (fC (.bl false))) sSkip ρ st = .nx ρ st1 := if_f (not_ok (tru_ok h)) rfl
/-- if not E1 or not E2: return False -/
theorem ifn2_ok (h : a ρ st = .ok (.bl true) st1) (h2 : b ρ st1 = .ok (.bl true) st2) : sIf (fOr (fNot (fTru a)) (fNot (fTru b))) (sRet (fC (.bl false))) sSkip ρ st = .nx ρ st2 :=
  if_f (or_f (not_ok (tru_ok h)) (not_ok (tru_ok h2))) rfl
end
/-- a def's body has come to its end -/
theorem den_end {n k : Nat} {f : FS} {ds : List D} {st st' : S} {d : D} (hn : ds.length = n) (h : f (ds.map some ++ List.replicate (k - ds.length) none) st = .rt d st') : arN n (den k f) ds st = .ok d st' := by
  unfold arN
  rw [if_pos hn, den_ap, h]
  rfl
end MP

set_option Elab.async false
set_option linter.all false
set_option maxRecDepth 100000
set_option maxHeartbeats 4000000
/-! MPE3: zip and enumerate at the data level, over any mix of lists and tuples. -/
namespace MP
open PySem L2 MPE
def sqD (st : S) : D → Option (List D × (S → Bool))
  | .tup ds => some (ds, fun _ => true)
  | .loc n => (lstAt st n).map fun ds => (ds, fun s => decide (lstAt s n = some ds))
  | _ => none
def Lasts (t : Bool) (K : PySem.W.Frag) (m : Nat → Addr) (n : Nat) (H : Hp) (a : Addr) (p : List D × (S → Bool)) : Prop :=
  ∀ m' st' H', RS K m' st' H' → Mn K m n H m' st'.length H' → p.2 st' = true → ∃ ws, Sq t K H' a ws ∧ RVs K m' st'.length H' p.1 ws
theorem sq_ok {K : PySem.W.Frag} {m : Nat → Addr} {st : S} {H : Hp} {d : D} {v : V} {p : List D × (S → Bool)} (rv : RV K m st.length H d v) (e : sqD st d = some p) :
    (∃ t a, v = .ref a ∧ Lasts t K m st.length H a p) ∧ p.2 st = true := by
  cases d with
  | tup ds =>
    cases e
    obtain ⟨a, vs, rfl, q1, q2⟩ := id rv
    refine ⟨⟨true, a, rfl, fun m' st' H' rs mn _ => ?_⟩, rfl⟩
    obtain ⟨a', ws, ea, q3, q4⟩ := mn _ _ rv
    cases ea
    exact ⟨ws, q3, q4⟩
  | loc n =>
    obtain ⟨ds, e1, rfl⟩ := Option.map_eq_some_iff.mp e
    obtain ⟨hn, rfl⟩ := id rv
    refine ⟨⟨false, _, rfl, fun m' st' H' rs mn hc => ?_⟩, decide_eq_true e1⟩
    obtain ⟨_, ea⟩ := mn _ _ rv
    have ea' : m n = m' n := V.ref.inj ea
    obtain ⟨ws, q3, q4, _⟩ := lstAt_ok rs (of_decide_eq_true hc)
    rw [← ea'] at q3
    exact ⟨ws, q3, q4⟩
  | _ => cases e
def fEnum2 (fs : FA) : FI := fun ρ st => (fs ρ st).bind fun xs st1 => match xs with
  | [x] => (match sqD st1 x with
    | some p => .ok (enumD p.1, p.2) st1
    | none => .bad)
  | _ => .bad
def fZip2 (fs : FA) : FI := fun ρ st => (fs ρ st).bind fun xs st1 => match xs with
  | [x, y] => (match sqD st1 x with
    | some p => (match sqD st1 y with
      | some q => .ok (zipD p.1 q.1, fun s => p.2 s && q.2 s) st1
      | none => .bad)
    | none => .bad)
  | _ => .bad
theorem serves_enumK {t : Bool} {K : PySem.W.Frag} {m : Nat → Addr} {n : Nat} {H : Hp} {a : Addr} {p : List D × (S → Bool)} (h : Lasts t K m n H a p) : Serves K m n H (IteK t K a) (enumD p.1) p.2 := by
  intro m' st' H' rs mn hc
  obtain ⟨ws, q3, q4⟩ := h m' st' H' rs mn hc
  refine ⟨fun i d hi => ?_, ⟨ws, q3, by unfold enumD; rw [List.length_mapIdx, RVs.len q4]⟩⟩
  unfold enumD at hi
  rw [List.getElem?_mapIdx] at hi
  obtain ⟨d0, hi2, rfl⟩ := Option.map_eq_some_iff.mp hi
  obtain ⟨x, g1, g2⟩ := RVs.get q4 hi2
  refine ⟨⟨ws, x, q3, g1⟩, fun y H'' yl => ?_⟩
  obtain ⟨T, x', rfl, hT, rfl, yl⟩ := yl
  have := yl ws q3
  rw [g1] at this
  cases this
  obtain ⟨r2, mn2⟩ := rs.laid (o := .tup [.int (i : Nat), x]) hT
  exact ⟨r2, mn2, T, [.int (i : Nat), x], rfl, SqT.of upd_same, _, _, rfl, rfl, _, _, rfl, mn2 _ _ g2, rfl⟩
theorem serves_zipK {t1 t2 : Bool} {K : PySem.W.Frag} {m : Nat → Addr} {n : Nat} {H : Hp} {a b : Addr} {p q : List D × (S → Bool)} (h : Lasts t1 K m n H a p) (h2 : Lasts t2 K m n H b q) :
    Serves K m n H (ItzK t1 t2 K a b) (zipD p.1 q.1) (fun s => p.2 s && q.2 s) := by
  intro m' st' H' rs mn hc
  rw [Bool.and_eq_true] at hc
  obtain ⟨ws, q3, q4⟩ := h m' st' H' rs mn hc.1
  obtain ⟨us, p3, p4⟩ := h2 m' st' H' rs mn hc.2
  refine ⟨fun i d hi => ?_, ⟨ws, us, q3, p3, by rw [zipD_len, ← RVs.len q4]; omega, by rw [zipD_len, ← RVs.len p4]; omega, by rw [zipD_len, ← RVs.len q4, ← RVs.len p4]; omega⟩⟩
  obtain ⟨d1, d2, h1, h2, rfl⟩ := zipD_at hi
  obtain ⟨x, g1, g2⟩ := RVs.get q4 h1
  obtain ⟨z, g3, g4⟩ := RVs.get p4 h2
  refine ⟨⟨ws, us, x, z, q3, p3, g1, g3⟩, fun y H'' yl => ?_⟩
  obtain ⟨T, x', z', rfl, hT, rfl, y1, y2⟩ := yl
  have t1 := y1 ws q3
  have t2 := y2 us p3
  rw [g1] at t1
  rw [g3] at t2
  cases t1
  cases t2
  obtain ⟨r2, mn2⟩ := rs.laid (o := .tup [x, z]) hT
  exact ⟨r2, mn2, T, [x, z], rfl, SqT.of upd_same, _, _, rfl, mn2 _ _ g2, _, _, rfl, mn2 _ _ g4, rfl⟩
theorem lasts_sq {t : Bool} {K : PySem.W.Frag} {m : Nat → Addr} {st : S} {H : Hp} {a : Addr} {p : List D × (S → Bool)} (h : Lasts t K m st.length H a p) (rs : RS K m st H) (hc : p.2 st = true) : ∃ ws, Sq t K H a ws :=
  let ⟨ws, e, _⟩ := h m st H rs Mn.refl hc
  ⟨ws, e⟩
section
variable {X : Cx} {W : Wc} {fs : FA} {pos p : Pos}
theorem ji_enum2 {e : Expr} {tpos : Pos} {elts : List Expr} {kk : Nat} (hgl : Gl X "enumerate") (hm : X.mg "enumerate" = none) (ha : JA X W [e] fs) (hst : starEach [e] X.env = [(false, eval e X.env)] := by rfl) :
    JI X W (.Tuple elts kk tpos) (.Call (.Name "enumerate" p) [e] [] pos) (fEnum2 fs) := by
  refine pi_imp (pi_enumK hgl hm ha hst) fun σ H R h => ?_
  obtain ⟨m, st, ρ, rs, re, h⟩ := h
  refine ⟨m, st, ρ, rs, re, (Meet.bind h).imp fun ds st1 m1 H1 r1 mn h1 vs rv => ?_⟩
  by_cases hx : ∃ x, ds = [x]
  · obtain ⟨x, rfl⟩ := hx
    obtain ⟨v, rfl, rv1⟩ := rvs1 rv
    simp only at h1
    cases q : sqD st1 x with
    | none => simp only [q] at h1; exact h1.elim
    | some p =>
      simp only [q] at h1
      obtain ⟨⟨t, a, rfl, hl⟩, hc⟩ := sq_ok rv1 q
      obtain ⟨ws, hs⟩ := lasts_sq hl r1 hc
      exact ⟨t, a, ws, rfl, hs, h1 m1 H1 r1 Mn.refl _ (serves_enumK hl)⟩
  · exfalso
    revert h1
    split
    · exact fun _ => hx ⟨_, rfl⟩
    · exact fun h => h
theorem ji_zip2 {e e2 : Expr} {tpos : Pos} {elts : List Expr} {kk : Nat} (hgl : Gl X "zip") (hm : X.mg "zip" = none) (ha : JA X W [e, e2] fs)
    (hs : starEach [e, e2] X.env = (false, eval e X.env) :: starEach [e2] X.env := by rfl) (hpl : (backTo pos (starEach [e2] X.env)).any (·.1) = false := by rfl) :
    JI X W (.Tuple elts kk tpos) (.Call (.Name "zip" p) [e, e2] [] pos) (fZip2 fs) := by
  refine pi_imp (pi_zipK hgl hm ha hs hpl) fun σ H R h => ?_
  obtain ⟨m, st, ρ, rs, re, h⟩ := h
  refine ⟨m, st, ρ, rs, re, (Meet.bind h).imp fun ds st1 m1 H1 r1 mn h1 vs rv => ?_⟩
  by_cases hx : ∃ x y, ds = [x, y]
  · obtain ⟨x, y, rfl⟩ := hx
    obtain ⟨v, w, rfl, rv1, rv2⟩ := rvs2 rv
    simp only at h1
    cases q : sqD st1 x with
    | none => simp only [q] at h1; exact h1.elim
    | some p =>
      cases q2 : sqD st1 y with
      | none => simp only [q, q2] at h1; exact h1.elim
      | some p2 =>
        simp only [q, q2] at h1
        obtain ⟨⟨t, a, rfl, hl⟩, hc⟩ := sq_ok rv1 q
        obtain ⟨⟨t2, b, rfl, hl2⟩, hc2⟩ := sq_ok rv2 q2
        obtain ⟨ws, hs⟩ := lasts_sq hl r1 hc
        obtain ⟨us, hs2⟩ := lasts_sq hl2 r1 hc2
        exact ⟨t, t2, a, b, ws, us, rfl, hs, hs2, h1 m1 H1 r1 Mn.refl _ (serves_zipK hl hl2)⟩
  · exfalso
    revert h1
    split
    · exact fun _ => hx ⟨_, _, rfl⟩
    · exact fun h => h
end
end MP

set_option Elab.async false
set_option linter.all false
set_option maxRecDepth 100000
set_option maxHeartbeats 4000000
/-! MPE4: xs[::-1] of a tuple or a list. -/
namespace HT
open PySem PySem.Spec PyProof.Rows PyProof
section
variable {prog : Program} {w : World} {A : Around} {E : Value → Shared → Prop} {s : Shared}
theorem adjust_rev (n : Nat) : Builtin.Slice.sliceAdjust none none (-1) (n : Int) = ((n : Int) - 1, -1) := rfl
theorem places_rev (n : Nat) : Builtin.Slice.slicePlaces ((n : Int) - 1) (-1) (-1) = n := by
  unfold Builtin.Slice.slicePlaces
  have h1 : ¬ ((-1 : Int) > 0) := by omega
  simp only [h1, if_false]
  have h2 : (-(-1) : Int) = 1 := by omega
  rw [h2, Int.ediv_one]
  split <;> omega
theorem sliceApplied_rev {sl : Addr} {tk : Tok} {n : Nat} {Q : Int × Int × Nat → Shared → Prop} (hs : s.heap.IsSliceOf sl .none .none (.int (-1) tk))
    (h : Q ((n : Int) - 1, -1, n) s) : wpAny (model prog w) A (Builtin.Slice.sliceApplied (.ref sl) (pure (n : Int))) Q E s := by
  obtain ⟨os, hos, hcs, hds⟩ := id hs
  unfold Builtin.Slice.sliceApplied Builtin.Slice.sliceFields
  refine wpAny_bind (wpAny_bind (wpAny_field hos hds (x := .none) rfl (wpAny_bind (wpAny_field hos hds (x := .none) rfl (wpAny_bind (wpAny_field hos hds (x := .int (-1) tk) rfl (wpAny_pure ?_)))))))
  refine wpAny_bind (slicePart_int ?_)
  show wpAny _ _ (if ((-1 : Int) == 0) = true then _ else _) _ _ s
  rw [if_neg (by decide)]
  refine wpAny_bind (slicePart_none (wpAny_bind (slicePart_none (wpAny_bind (wpAny_pure ?_)))))
  show wpAny _ _ (match Builtin.Slice.sliceAdjust none none (-1) (n : Int) with | (lo, hi) => pure (lo, (-1 : Int), Builtin.Slice.slicePlaces lo hi (-1))) _ _ s
  rw [adjust_rev n]
  show wpAny _ _ (pure ((n : Int) - 1, (-1 : Int), Builtin.Slice.slicePlaces ((n : Int) - 1) (-1) (-1))) _ _ s
  rw [places_rev]
  exact wpAny_pure h
theorem fm_congr {α β : Type} {f g : α → Option β} : ∀ {l : List α}, (∀ x ∈ l, f x = g x) → l.filterMap f = l.filterMap g
  | [], _ => rfl
  | a :: l, h => by
    rw [List.filterMap_cons, List.filterMap_cons, h a (List.mem_cons_self ..), fm_congr fun x hx => h x (List.mem_cons_of_mem _ hx)]
theorem pick_rev (xs : Array Value) : ((List.range xs.size).filterMap fun (m : Nat) => xs[(((xs.size : Nat) : Int) - 1 + (m : Int) * (-1)).toNat]?).toArray = xs.toList.reverse.toArray := by
  congr 1
  have e : ∀ m ∈ List.range xs.size, xs[(((xs.size : Nat) : Int) - 1 + (m : Int) * (-1)).toNat]? = xs.toList.reverse[m]? := by
    intro m hm
    have hm' : m < xs.toList.length := by rw [Array.length_toList]; exact List.mem_range.mp hm
    have e1 : (((xs.size : Nat) : Int) - 1 + (m : Int) * (-1)).toNat = xs.size - 1 - m := by omega
    rw [e1, List.getElem?_reverse hm', Array.getElem?_toList, Array.length_toList]
  rw [fm_congr e]
  have := pick_run (xs.toList.reverse.toArray) 0 xs.size
  rw [List.filterMap_map] at this
  have e2 : ((fun x => xs.toList.reverse.toArray[x]?) ∘ fun x => 0 + x) = fun m => xs.toList.reverse[m]? := by funext m; simp
  rw [e2] at this
  rw [this]
  show (xs.toList.reverse).take xs.size = _
  exact List.take_of_length_le (by rw [List.length_reverse, Array.length_toList]; exact Nat.le_refl _)
theorem getItem_tuple_rev {t sl : Addr} {items : Array Value} {tk : Tok} {Q : Value → Shared → Prop} (ht : IsTup s.heap t items) (hs : s.heap.IsSliceOf sl .none .none (.int (-1) tk))
    (h : Q (.ref s.heap.objs.size) { s with heap := s.heap.push { cls := .type "tuple", data := .seq items.toList.reverse.toArray } })
    (hsz : items.size ≤ sizeLine) : wpAny (model prog w) A (getItem (.ref t) (.ref sl)) Q E s := by
  have htake : sizeOk (.seq items.toList.reverse.toArray) := by
    show items.toList.reverse.toArray.size ≤ sizeLine
    rw [List.size_toArray, List.length_reverse, Array.length_toList]
    exact hsz
  obtain ⟨os, hos, hcs, hds⟩ := id hs
  have hTs : s.TypeIs (.ref sl) "slice" := ⟨os, hos, hcs⟩
  unfold getItem
  try with_reducible refine wpAny_holding ?_
  first | refine wpAny_bind (wpAny_pure ?_) | skip
  refine wpAny_bind (wpAny_sequenceKey ht.typeIs (by decide) ?_)
  refine wpAny_bind (wpAny_callSpecial?_slot (name := Str.ofString "__getitem__") ht.typeIs PyProof.Rows.slot_tuple_getitem
    (wpAny_call_entry PyProof.Rows.slot_tuple_getitem ht.typeIs entry_tuple_getitem ?_ (args_tuple_getitem _ _)))
  show wpAny _ _ (Builtin.Tuple.tupleItemsOf (.ref t) >>= _) _ _ s
  refine wpAny_bind (tupleItemsOf_ ht ?_)
  refine wpAny_bind (wpAny_typeOf hTs ?_)
  rw [if_pos (by decide)]
  refine wpAny_bind (sliceApplied_rev hs ?_)
  have hno : ¬ ((((items.size : Nat) : Int) - 1 == 0 && (-1 : Int) == 1 && items.size == items.size) = true) := by
    intro q
    rw [Bool.and_eq_true, Bool.and_eq_true] at q
    exact absurd q.1.2 (by decide)
  show wpAny _ _ (if (((items.size : Nat) : Int) - 1 == 0 && (-1 : Int) == 1 && items.size == items.size) = true then _ else _) _ _ s
  rw [if_neg hno, pick_rev]
  first
    | exact wpAny_bind (m := Builtin.Tuple.tupleExact _) (wpAny_newObj_type (wpAny_pure ⟨_, rfl, wpAny_pure h⟩) htake)
    | exact wpAny_bind (m := Builtin.Tuple.tupleExact _) (wpAny_newObj_type (wpAny_bind (wpAny_pure (wpAny_pure ⟨_, rfl, wpAny_pure h⟩))) htake)
    | exact wpAny_bind (wpAny_bind (m := Builtin.Tuple.tupleExact _) (wpAny_newObj_type (wpAny_pure (wpAny_pure ⟨_, rfl, wpAny_pure h⟩)) htake))
    | exact wpAny_bind (wpAny_bind (m := Builtin.Tuple.tupleExact _) (wpAny_newObj_type (wpAny_pure ⟨_, rfl, wpAny_pure h⟩) htake))
end
end HT

namespace L2
open PySem PySem.Spec PyProof.Rows
def rRv (K : PySem.W.Frag) : V → Hp → VK → Prop := fun x H Q => ∃ a xs, x = .ref a ∧ SqT K H a xs ∧ ∀ p, H p = none → Q (.ref p) (upd H p (.tup xs.reverse))
def tRv (r : V → Hp → VK → Prop) (te t3 : TE) : TE := fun σ H Q => te σ H fun x H1 => t3 σ H1 fun k H2 => k = .int (-1) ∧ r x H2 Q
section
variable {X : Cx} {e e3 : Expr} {te t3 : TE} {pos p2 : Pos}
theorem pe_rev (he : PE X e te) (h3 : PE X e3 t3) : PE X (.Subscript e (.Slice none none (some e3) p2) pos) (tRv (rRv X.K) te t3) := by
  refine ⟨fun pins s σ H Q I h => ?_⟩
  refine Subscript_ (thn (he.run pins s σ H _ I h) fun v s1 ⟨x, H1, I1, r1, q1⟩ => ?_)
  refine wpAny_Slice ?_
  rw [evalPart_none]
  refine wpAny_pure (wpAny_pure ?_)
  rw [evalPart_some]
  refine thn (h3.run pins s1 σ H1 _ I1 q1) fun vk s3 ⟨k, H3, I3, rk, q3⟩ => ?_
  obtain ⟨rfl, a, xs, rfl, hx, q⟩ := q3
  obtain ⟨tk, rfl⟩ := rk
  cases r1
  have I4 : Inv X pins σ H3 { s3 with heap := s3.heap.push { cls := .type "slice", data := .fields #[.none, .none, .int (-1) tk] } } := I3.kept (t' := s3.toks) fun b ob q => Heap.get?_push_of_some _ q
  obtain ⟨its, r, ht, hz⟩ := I4.tuple hx
  show wpAny (model X.prog X.w) X.A (subscriptTail e (.Slice none none (some e3) p2) (.ref a) (.ref s3.heap.objs.size)) (EP X pins σ Q) X.xe { s3 with heap := s3.heap.push { cls := .type "slice", data := .fields #[.none, .none, .int (-1) tk] } }
  refine tail_any (T := "tuple") (ops := [.ref a, .ref s3.heap.objs.size]) ht.typeIs PyProof.Rows.slot_tuple_getitem.lookup ?_ (by rfl)
  refine HT.getItem_tuple_rev (s := { s3 with heap := s3.heap.push { cls := .type "slice", data := .fields #[.none, .none, .int (-1) tk] } }) ht (Heap.IsSliceOf.new ..) ?_ (by rw [List.size_toArray, ← r.length]; exact hz)
  refine ⟨.ref _, _, I4.laid (t' := s3.toks) (o := .tup xs.reverse) (fun b ob q => Heap.get?_push_of_some _ q) (Nat.le_refl _) ?_, rfl, q _ (I4.hok.fresh (Nat.le_refl _))⟩
  exact ⟨by rw [List.length_reverse]; exact hz, _, r.reverse, IsTup.new _ _⟩
end
end L2
namespace MP
open PySem L2
theorem RVs.reverse {K : PySem.W.Frag} {m : Nat → Addr} {n : Nat} {H : Hp} : ∀ {ds : List D} {vs : List V}, RVs K m n H ds vs → RVs K m n H ds.reverse vs.reverse
  | [], _, h => by cases h; exact rfl
  | d :: ds, _, h => by
    obtain ⟨v, r, rfl, h1, h2⟩ := h
    rw [List.reverse_cons, List.reverse_cons]
    exact RVs.app (RVs.reverse h2) ⟨v, [], rfl, h1, rfl⟩
def gRv (x k : D) (st : S) : Option (D × S) := match x, k with
  | .tup ds, .int (-1) => some (.tup ds.reverse, st)
  | _, _ => none
def fRv (a k : FE) : FE := fun ρ st => (a ρ st).bind fun x st1 => (k ρ st1).bind fun k st2 => ofO (gRv x k st2)
theorem gRv_some {x k : D} {st st' : S} {d : D} (h : gRv x k st = some (d, st')) : ∃ ds, x = .tup ds ∧ k = .int (-1) ∧ d = .tup ds.reverse ∧ st' = st := by
  unfold gRv at h
  split at h
  · cases h; exact ⟨_, rfl, rfl, rfl, rfl⟩
  · cases h
section
variable {X : Cx} {W : Wc} {e e3 : Expr} {fa f3 : FE} {pos p2 : Pos}
theorem je_rv (he : JE X W e fa) (h3 : JE X W e3 f3) : JE X W (.Subscript e (.Slice none none (some e3) p2) pos) (fRv fa f3) := by
  refine pe_imp (pe_rev he h3) fun σ H Q h => ?_
  obtain ⟨m, st, ρ, rs, re, h⟩ := h
  refine re_bind (k := fun x st1 ρ => (f3 ρ st1).bind fun k st2 => ofO (gRv x k st2)) rs re h fun x st1 m1 H1 v1 r1 re1 mn1 rv1 h1 => ?_
  refine re_bind (k := fun k st2 ρ => ofO (gRv x k st2)) r1 re1 h1 fun k st2 m2 H2 v2 r2 re2 mn2 rv2 h2 => ?_
  obtain ⟨d, st', e, fin⟩ := meet_fin h2
  obtain ⟨ds, rfl, rfl, rfl, rfl⟩ := gRv_some e
  obtain ⟨a, vs, rfl, q1, q2⟩ := mn2 _ _ rv1
  cases rv2
  exact ⟨rfl, a, vs, rfl, q1, fun p hp => fin.tup r2 (RVs.reverse q2) hp⟩
end
@[simp] theorem gRv_tup (ds : List D) (st : S) : gRv (.tup ds) (.int (-1)) st = some (.tup ds.reverse, st) := rfl
@[simp] theorem fRv_ap (a k : FE) (ρ : En) (st : S) : fRv a k ρ st = (a ρ st).bind fun x st1 => (k ρ st1).bind fun k st2 => ofO (gRv x k st2) := rfl
end MP

set_option Elab.async false
set_option linter.all false
set_option maxRecDepth 100000
set_option maxHeartbeats 4000000
/-! law_k04_multipliers_shown: the defs as denotations (printed by gen.py) -/
namespace K04
open PySem MP
noncomputable section

abbrev c_ZERO : D := .tup [.int 0, .int 1]
def tx_FitError : List (Str × Bool) := [(("BadNumber" : Str), true), (("BadFacts" : Str), true)]
def ti_BadFacts : List (Str × Bool) := [(("BadNumber" : Str), false), (("BadFacts" : Str), true)]
def ti_ValueError : List (Str × Bool) := [(("BadNumber" : Str), true), (("BadFacts" : Str), true)]
def ti_BadForm : List (Str × Bool) := [(("BadNumber" : Str), false), (("BadFacts" : Str), false)]
def ti_EmptyRegion : List (Str × Bool) := [(("BadNumber" : Str), false), (("BadFacts" : Str), false)]
def cs_index : List Str := [("BadFacts" : Str)]
/-- _law_open: 0 script, 1 cells, 2 fold, 3 cell -/
def m__law_open : FS :=
  sSeq (sSet 1 (fLst (fNil)))
  (sSeq (sSet 2 (fC (.int 12289)))
  (sSeq (sFor (fSl gSl (fVar 0) (fNo) (fPart (fC (.int 63)))) (tgN 3) (sSeq (sExpr (fLM gAppend (fVar 1) (fCons (fVar 3) (fNil))))
  (sSet 2 (fBin gMod (fArgs gInt (fCons (fBin gAdd (fBin gMul (fVar 2) (fC (.int 16807))) (fVar 3)) (fNil))) (fC (.int 2147483629))))))
  (sRet (fLst (fCons (fVar 1) (fCons (fC (.int 0)) (fCons (fC (.int 0)) (fCons (fVar 2) (fCons (fC (.int 0)) (fNil))))))))))
def g__law_open : List D → S → Out D := arN 1 (den 4 m__law_open)
/-- _law_mix: 0 cell, 1 turn, 2 first, 3 second -/
def m__law_mix : FS :=
  sSeq (sSet 2 (fBin gMod (fArgs gInt (fCons (fBin gAdd (fBin gAdd (fBin gMul (fVar 0) (fC (.int 48271))) (fBin gMul (fVar 1) (fC (.int 69621)))) (fC (.int 40503))) (fNil))) (fC (.int 2147483647))))
  (sSeq (sSet 3 (fBin gMod (fArgs gInt (fCons (fBin gAdd (fBin gAdd (fBin gAdd (fBin gMul (fVar 2) (fVar 2)) (fBin gMul (fVar 0) (fC (.int 16807)))) (fBin gMul (fVar 1) (fC (.int 40692)))) (fC (.int 7))) (fNil))) (fC (.int 2147483399))))
  (sRet (fBin gDiv (fVar 3) (fC (.int 8)))))
def g__law_mix : List D → S → Out D := arN 2 (den 4 m__law_mix)
/-- _law_take: 0 box, 1 many, 2 cell, 3 digit -/
def m__law_take : FS :=
  sSeq (sIf (fIsB (fBin gGt (fBin gIx (fVar 0) (fC (.int 2))) (fC (.int 0)))) (sSeq (sSet 3 (fBin gMod (fArgs gInt (fCons (fBin gIx (fVar 0) (fC (.int 2))) (fNil))) (fVar 1)))
  (sSeq (sStore (fVar 0) (fC (.int 2)) (fBin gDiv (fBin gIx (fVar 0) (fC (.int 2))) (fVar 1)))
  (sRet (fVar 3)))) (sSkip))
  (sSeq (sStore (fVar 0) (fC (.int 4)) (fBin gAdd (fBin gIx (fVar 0) (fC (.int 4))) (fC (.int 1))))
  (sSeq (sIf (fIsB (fBin gGe (fBin gIx (fVar 0) (fC (.int 1))) (fArgs gLen (fCons (fBin gIx (fVar 0) (fC (.int 0))) (fNil))))) (sRet (fBin gMod (fArgs gInt (fCons (fCall g__law_mix (fCons (fBin gIx (fVar 0) (fC (.int 3))) (fCons (fBin gIx (fVar 0) (fC (.int 4))) (fNil)))) (fNil))) (fVar 1))) (sSkip))
  (sSeq (sSet 2 (fBin gIx (fBin gIx (fVar 0) (fC (.int 0))) (fBin gIx (fVar 0) (fC (.int 1)))))
  (sSeq (sStore (fVar 0) (fC (.int 1)) (fBin gAdd (fBin gIx (fVar 0) (fC (.int 1))) (fC (.int 1))))
  (sSeq (sIf (fIsB (fBin gLt (fArgs gAbs (fCons (fVar 2) (fNil))) (fBin gPow (fC (.int 10)) (fC (.int 18))))) (sRet (fBin gMod (fArgs gInt (fCons (fCall g__law_mix (fCons (fVar 2) (fCons (fBin gIx (fVar 0) (fC (.int 4))) (fNil)))) (fNil))) (fVar 1))) (sSkip))
  (sSeq (sStore (fVar 0) (fC (.int 2)) (fBin gDiv (fArgs gAbs (fCons (fVar 2) (fNil))) (fVar 1)))
  (sRet (fBin gMod (fArgs gInt (fCons (fArgs gAbs (fCons (fVar 2) (fNil))) (fNil))) (fVar 1)))))))))
def g__law_take : List D → S → Out D := arN 2 (den 4 m__law_take)
/-- _law_gcd: 0 a, 1 b -/
def m__law_gcd : FS :=
  sSeq (sWhile (fIsB (fBin gNe (fVar 1) (fC (.int 0)))) (sPar 0 1 (fCons (fVar 1) (fCons (fBin gMod (fArgs gInt (fCons (fVar 0) (fNil))) (fVar 1)) (fNil)))))
  (sRet (fVar 0))
def g__law_gcd : List D → S → Out D := arN 2 (den 2 m__law_gcd)
/-- _law_num: 0 top, 1 bottom, 2 common -/
def m__law_num : FS :=
  sSeq (sSet 2 (fCall g__law_gcd (fCons (fArgs gAbs (fCons (fVar 0) (fNil))) (fCons (fArgs gAbs (fCons (fVar 1) (fNil))) (fNil)))))
  (sSeq (sIf (fIsB (fBin gLt (fVar 1) (fC (.int 0)))) (sSet 2 (fUn gNeg (fVar 2))) (sSkip))
  (sRet (fTup (fCons (fBin gDiv (fVar 0) (fVar 2)) (fCons (fBin gDiv (fVar 1) (fVar 2)) (fNil))))))
def g__law_num : List D → S → Out D := arN 2 (den 3 m__law_num)
/-- _law_add: 0 a, 1 b -/
def m__law_add : FS :=
  sRet (fCall g__law_num (fCons (fBin gAdd (fBin gMul (fBin gIx (fVar 0) (fC (.int 0))) (fBin gIx (fVar 1) (fC (.int 1)))) (fBin gMul (fBin gIx (fVar 1) (fC (.int 0))) (fBin gIx (fVar 0) (fC (.int 1))))) (fCons (fBin gMul (fBin gIx (fVar 0) (fC (.int 1))) (fBin gIx (fVar 1) (fC (.int 1)))) (fNil))))
def g__law_add : List D → S → Out D := arN 2 (den 2 m__law_add)
/-- _law_mul: 0 a, 1 b -/
def m__law_mul : FS :=
  sRet (fCall g__law_num (fCons (fBin gMul (fBin gIx (fVar 0) (fC (.int 0))) (fBin gIx (fVar 1) (fC (.int 0)))) (fCons (fBin gMul (fBin gIx (fVar 0) (fC (.int 1))) (fBin gIx (fVar 1) (fC (.int 1)))) (fNil))))
def g__law_mul : List D → S → Out D := arN 2 (den 2 m__law_mul)
/-- _law_neg: 0 a -/
def m__law_neg : FS :=
  sRet (fTup (fCons (fUn gNeg (fBin gIx (fVar 0) (fC (.int 0)))) (fCons (fBin gIx (fVar 0) (fC (.int 1))) (fNil))))
def g__law_neg : List D → S → Out D := arN 1 (den 1 m__law_neg)
/-- _law_balanced: 0 forms, 1 paper, 2 spot, 3 constant, 4 done, 5 k, 6 left, 7 j -/
def m__law_balanced : FS :=
  sSeq (sSet 4 (fLst (fNil)))
  (sSeq (sForR1 (fCons (fArgs gLen (fCons (fBin gIx (fVar 0) (fVar 2)) (fNil))) (fNil)) (tgN 5) (sSeq (sSet 6 (fTup (fCons (fC (.int 0)) (fCons (fC (.int 1)) (fNil)))))
  (sSeq (sIf (fIsB (fBin gEq (fVar 5) (fC (.int 0)))) (sSet 6 (fVar 3)) (sSkip))
  (sSeq (sForR1 (fCons (fArgs gLen (fCons (fVar 0) (fNil))) (fNil)) (tgN 7) (sIf (fIsB (fBin gNe (fVar 7) (fVar 2))) (sSet 6 (fCall g__law_add (fCons (fVar 6) (fCons (fCall g__law_neg (fCons (fCall g__law_mul (fCons (fBin gIx (fVar 1) (fVar 7)) (fCons (fBin gIx (fBin gIx (fVar 0) (fVar 7)) (fVar 5)) (fNil)))) (fNil))) (fNil))))) (sSkip)))
  (sExpr (fLM gAppend (fVar 4) (fCons (fCall g__law_num (fCons (fBin gMul (fBin gIx (fVar 6) (fC (.int 0))) (fBin gIx (fBin gIx (fVar 1) (fVar 2)) (fC (.int 1)))) (fCons (fBin gMul (fBin gIx (fVar 6) (fC (.int 1))) (fBin gIx (fBin gIx (fVar 1) (fVar 2)) (fC (.int 0)))) (fNil)))) (fNil))))))))
  (sRet (fBin gAdd (fBin gAdd (fSl gSl (fVar 0) (fNo) (fPart (fVar 2))) (fLst (fCons (fArgs gTuple (fCons (fVar 4) (fNil))) (fNil)))) (fSl gSl (fVar 0) (fPart (fBin gAdd (fVar 2) (fC (.int 1)))) (fNo)))))
def g__law_balanced : List D → S → Out D := arN 4 (den 8 m__law_balanced)
/-- _law_small: 0 box, 1 kind -/
def m__law_small : FS :=
  sSeq (sSet 1 (fCall g__law_take (fCons (fVar 0) (fCons (fC (.int 8)) (fNil)))))
  (sSeq (sIf (fIsB (fBin gEq (fVar 1) (fC (.int 0)))) (sRet (fTup (fCons (fC (.int 0)) (fCons (fC (.int 1)) (fNil))))) (sSkip))
  (sSeq (sIf (fIsB (fBin gEq (fVar 1) (fC (.int 7)))) (sRet (fCall g__law_num (fCons (fBin gSub (fCall g__law_take (fCons (fVar 0) (fCons (fC (.int 37)) (fNil)))) (fC (.int 18))) (fCons (fBin gAdd (fC (.int 1)) (fCall g__law_take (fCons (fVar 0) (fCons (fC (.int 4)) (fNil))))) (fNil))))) (sSkip))
  (sRet (fTup (fCons (fBin gSub (fCall g__law_take (fCons (fVar 0) (fCons (fC (.int 9)) (fNil)))) (fC (.int 4))) (fCons (fC (.int 1)) (fNil)))))))
def g__law_small : List D → S → Out D := arN 1 (den 2 m__law_small)
/-- _law_form: 0 box, 1 size, 2 far, 3 form, 4 great, 5 k -/
def m__law_form : FS :=
  sSeq (sSet 3 (fLc [5] (fRng1 (fCons (fBin gAdd (fVar 1) (fC (.int 1))) (fNil))) (tgN 5) (fYes) (fCall g__law_small (fCons (fVar 0) (fNil)))))
  (sSeq (sIf (fTru (fVar 2)) (sSeq (sSet 4 (fC (.int 0)))
  (sSeq (sForR1 (fCons (fC (.int 4)) (fNil)) (tgN 5) (sSet 4 (fBin gAdd (fBin gMul (fVar 4) (fBin gPow (fC (.int 10)) (fC (.int 7)))) (fCall g__law_take (fCons (fVar 0) (fCons (fBin gPow (fC (.int 10)) (fC (.int 7))) (fNil)))))))
  (sStore (fVar 3) (fC (.int 0)) (fTup (fCons (fBin gSub (fVar 4) (fBin gPow (fC (.int 10)) (fC (.int 27)))) (fCons (fC (.int 1)) (fNil))))))) (sSkip))
  (sRet (fArgs gTuple (fCons (fVar 3) (fNil)))))
def g__law_form : List D → S → Out D := arN 3 (den 6 m__law_form)
/-- _law_paper: 0 box, 1 count, 2 spot, 3 paper, 4 k, 5 kind -/
def m__law_paper : FS :=
  sSeq (sSet 3 (fLst (fNil)))
  (sSeq (sForR1 (fCons (fVar 1) (fNil)) (tgN 4) (sSeq (sSet 5 (fCall g__law_take (fCons (fVar 0) (fCons (fC (.int 16)) (fNil)))))
  (sIf (fAnd (fIsB (fBin gLt (fVar 5) (fC (.int 5)))) (fIsB (fBin gNe (fVar 4) (fVar 2)))) (sExpr (fLM gAppend (fVar 3) (fCons (fTup (fCons (fC (.int 0)) (fCons (fC (.int 1)) (fNil)))) (fNil)))) (sIf (fIsB (fBin gEq (fVar 5) (fC (.int 15)))) (sExpr (fLM gAppend (fVar 3) (fCons (fTup (fCons (fBin gAdd (fC (.int 1)) (fCall g__law_take (fCons (fVar 0) (fCons (fBin gPow (fC (.int 10)) (fC (.int 7))) (fNil))))) (fCons (fC (.int 1)) (fNil)))) (fNil)))) (sExpr (fLM gAppend (fVar 3) (fCons (fCall g__law_num (fCons (fBin gAdd (fC (.int 1)) (fCall g__law_take (fCons (fVar 0) (fCons (fC (.int 9)) (fNil))))) (fCons (fBin gAdd (fC (.int 1)) (fCall g__law_take (fCons (fVar 0) (fCons (fC (.int 4)) (fNil))))) (fNil)))) (fNil))))))))
  (sRet (fArgs gTuple (fCons (fVar 3) (fNil)))))
def g__law_paper : List D → S → Out D := arN 3 (den 6 m__law_paper)
/-- _law_put: 0 paper, 1 k, 2 thing -/
def m__law_put : FS :=
  sRet (fBin gAdd (fBin gAdd (fSl gSl (fVar 0) (fNo) (fPart (fVar 1))) (fTup (fCons (fVar 2) (fNil)))) (fSl gSl (fVar 0) (fPart (fBin gAdd (fVar 1) (fC (.int 1)))) (fNo)))
def g__law_put : List D → S → Out D := arN 3 (den 3 m__law_put)
/-- _law_scaled: 0 paper, 1 number, 2 one -/
def m__law_scaled : FS :=
  sRet (fArgs gTuple (fCons (fLc [2] (fSeq (fVar 0)) (tgN 2) (fYes) (fCall g__law_mul (fCons (fVar 2) (fCons (fVar 1) (fNil))))) (fNil)))
def g__law_scaled : List D → S → Out D := arN 2 (den 3 m__law_scaled)
/-- _law_bent: 0 box, 1 paper, 2 spot, 3 k, 4 one, 5 more, 6 unit, 7 papers, 8 thing, 9 place, 10 j -/
def m__law_bent : FS :=
  sSeq (sSet 3 (fCall g__law_take (fCons (fVar 0) (fCons (fArgs gLen (fCons (fVar 1) (fNil))) (fNil)))))
  (sSeq (sSet 4 (fBin gIx (fVar 1) (fVar 3)))
  (sSeq (sSet 5 (fBin gAdd (fC (.int 2)) (fCall g__law_take (fCons (fVar 0) (fCons (fC (.int 5)) (fNil))))))
  (sSeq (sSet 6 (fCall g__law_scaled (fCons (fVar 1) (fCons (fCall g__law_num (fCons (fBin gIx (fBin gIx (fVar 1) (fVar 2)) (fC (.int 1))) (fCons (fBin gIx (fBin gIx (fVar 1) (fVar 2)) (fC (.int 0))) (fNil)))) (fNil)))))
  (sSeq (sSet 7 (fLst (fCons (fVar 1) (fCons (fVar 6) (fCons (fCall g__law_scaled (fCons (fVar 1) (fCons (fCall g__law_num (fCons (fBin gAdd (fC (.int 1)) (fCall g__law_take (fCons (fVar 0) (fCons (fC (.int 9)) (fNil))))) (fCons (fBin gAdd (fC (.int 1)) (fCall g__law_take (fCons (fVar 0) (fCons (fC (.int 4)) (fNil))))) (fNil)))) (fNil)))) (fNil))))))
  (sSeq (sFor (fLst (fCons (fTup (fCons (fC (.bl true)) (fCons (fC (.int 1)) (fNil)))) (fCons (fTup (fCons (fC (.int 1)) (fCons (fC (.bl true)) (fNil)))) (fCons (fC (.int 1)) (fCons (fC (.bl true)) (fNil)))))) (tgN 8) (sExpr (fLM gAppend (fVar 7) (fCons (fCall g__law_put (fCons (fVar 6) (fCons (fVar 2) (fCons (fVar 8) (fNil))))) (fNil)))))
  (sSeq (sFor (fSl gSl (fLc [10] (fRng1 (fCons (fArgs gLen (fCons (fVar 1) (fNil))) (fNil))) (tgN 10) (fIsB (fBin gEq (fBin gIx (fBin gIx (fVar 1) (fVar 10)) (fC (.int 0))) (fC (.int 0)))) (fVar 10)) (fNo) (fPart (fC (.int 1)))) (tgN 9) (sFor (fLst (fCons (fTup (fCons (fC (.bl false)) (fCons (fC (.int 1)) (fNil)))) (fCons (fTup (fCons (fC (.int 0)) (fCons (fC (.int 2)) (fNil)))) (fCons (fTup (fCons (fC (.int 0)) (fCons (fUn gNeg (fC (.int 1))) (fNil)))) (fCons (fC (.int 0)) (fNil)))))) (tgN 8) (sExpr (fLM gAppend (fVar 7) (fCons (fCall g__law_put (fCons (fVar 1) (fCons (fVar 9) (fCons (fVar 8) (fNil))))) (fNil))))))
  (sSeq (sExpr (fLM gAppend (fVar 7) (fCons (fCall g__law_put (fCons (fVar 1) (fCons (fVar 3) (fCons (fTup (fCons (fBin gMul (fBin gIx (fVar 4) (fC (.int 0))) (fVar 5)) (fCons (fBin gMul (fBin gIx (fVar 4) (fC (.int 1))) (fVar 5)) (fNil)))) (fNil))))) (fNil))))
  (sSeq (sExpr (fLM gAppend (fVar 7) (fCons (fCall g__law_put (fCons (fVar 1) (fCons (fVar 3) (fCons (fTup (fCons (fUn gNeg (fBin gIx (fVar 4) (fC (.int 0)))) (fCons (fUn gNeg (fBin gIx (fVar 4) (fC (.int 1)))) (fNil)))) (fNil))))) (fNil))))
  (sSeq (sExpr (fLM gAppend (fVar 7) (fCons (fCall g__law_put (fCons (fVar 1) (fCons (fVar 3) (fCons (fLst (fCons (fBin gIx (fVar 4) (fC (.int 0))) (fCons (fBin gIx (fVar 4) (fC (.int 1))) (fNil)))) (fNil))))) (fNil))))
  (sSeq (sExpr (fLM gAppend (fVar 7) (fCons (fCall g__law_put (fCons (fVar 1) (fCons (fVar 3) (fCons (fTup (fCons (fBin gIx (fVar 4) (fC (.int 0))) (fCons (fBin gIx (fVar 4) (fC (.int 1))) (fCons (fC (.int 1)) (fNil))))) (fNil))))) (fNil))))
  (sSeq (sExpr (fLM gAppend (fVar 7) (fCons (fCall g__law_put (fCons (fVar 1) (fCons (fVar 3) (fCons (fBin gIx (fLst (fCons (fC .non) (fCons (fC (.str ("1" : Str))) (fCons (fTup (fNil)) (fCons (fTup (fCons (fVar 4) (fNil))) (fCons (fTup (fCons (fC (.int 1)) (fCons (fC (.int 0)) (fNil)))) (fCons (fTup (fCons (fC (.int 0)) (fCons (fC (.int 0)) (fNil)))) (fNil)))))))) (fCall g__law_take (fCons (fVar 0) (fCons (fC (.int 6)) (fNil))))) (fNil))))) (fNil))))
  (sSeq (sExpr (fLM gAppend (fVar 7) (fCons (fCall g__law_put (fCons (fVar 1) (fCons (fVar 3) (fCons (fCall g__law_add (fCons (fVar 4) (fCons (fTup (fCons (fC (.int 1)) (fCons (fC (.int 1)) (fNil)))) (fNil)))) (fNil))))) (fNil))))
  (sSeq (sExpr (fLM gAppend (fVar 7) (fCons (fCall g__law_put (fCons (fVar 1) (fCons (fVar 3) (fCons (fCall g__law_neg (fCons (fVar 4) (fNil))) (fNil))))) (fNil))))
  (sSeq (sExpr (fLM gAppend (fVar 7) (fCons (fCall g__law_put (fCons (fVar 1) (fCons (fVar 2) (fCons (fTup (fCons (fC (.int 0)) (fCons (fC (.int 1)) (fNil)))) (fNil))))) (fNil))))
  (sSeq (sExpr (fLM gAppend (fVar 7) (fCons (fCall g__law_scaled (fCons (fVar 1) (fCons (fTup (fCons (fUn gNeg (fC (.int 1))) (fCons (fC (.int 1)) (fNil)))) (fNil)))) (fNil))))
  (sSeq (sExpr (fLM gAppend (fVar 7) (fCons (fCall g__law_scaled (fCons (fVar 1) (fCons (fTup (fCons (fC (.int 0)) (fCons (fC (.int 1)) (fNil)))) (fNil)))) (fNil))))
  (sSeq (sExpr (fLM gAppend (fVar 7) (fCons (fArgs gList (fCons (fVar 1) (fNil))) (fNil))))
  (sSeq (sExpr (fLM gAppend (fVar 7) (fCons (fSl gSl (fVar 1) (fNo) (fPart (fUn gNeg (fC (.int 1))))) (fNil))))
  (sSeq (sExpr (fLM gAppend (fVar 7) (fCons (fBin gAdd (fVar 1) (fTup (fCons (fTup (fCons (fC (.int 0)) (fCons (fC (.int 1)) (fNil)))) (fNil)))) (fNil))))
  (sSeq (sExpr (fLM gAppend (fVar 7) (fCons (fRv (fVar 1) (fUn gNeg (fC (.int 1)))) (fNil))))
  (sSeq (sExpr (fLM gAppend (fVar 7) (fCons (fBin gIx (fLst (fCons (fC .non) (fCons (fC (.int 0)) (fCons (fTup (fNil)) (fCons (fLst (fNil)) (fCons (fC (.str ("ab" : Str))) (fCons (fC (.bl true)) (fCons (fTup (fCons (fTup (fCons (fC (.int 0)) (fCons (fC (.int 1)) (fNil)))) (fCons (fC (.int 0)) (fNil)))) (fCons (fTup (fCons (fVar 1) (fNil))) (fNil)))))))))) (fCall g__law_take (fCons (fVar 0) (fCons (fC (.int 8)) (fNil))))) (fNil))))
  (sRet (fVar 7)))))))))))))))))))))))
def g__law_bent : List D → S → Out D := arN 3 (den 11 m__law_bent)
/-- sign: 0 a -/
def m_sign : FS :=
  sSeq (sIf (fIsB (fBin gGt (fBin gIx (fVar 0) (fC (.int 0))) (fC (.int 0)))) (sRet (fC (.int 1))) (sSkip))
  (sSeq (sIf (fIsB (fBin gLt (fBin gIx (fVar 0) (fC (.int 0))) (fC (.int 0)))) (sRet (fUn gNeg (fC (.int 1)))) (sSkip))
  (sRet (fC (.int 0))))
def g_sign : List D → S → Out D := arN 1 (den 1 m_sign)
/-- ratio: 0 top, 1 bottom, 2 divisor -/
def m_ratio : FS :=
  sSeq (sIf (fIsB (fBin gEq (fVar 1) (fC (.int 0)))) (sRaise ("BadNumber" : Str) [("value" : Str)] (fCons (fVar 1) (fNil))) (sSkip))
  (sSeq (sIf (fIsB (fBin gLt (fVar 1) (fC (.int 0)))) (sPar 0 1 (fCons (fUn gNeg (fVar 0)) (fCons (fUn gNeg (fVar 1)) (fNil)))) (sSkip))
  (sSeq (sSet 2 (fArgs gGcd (fCons (fVar 0) (fCons (fVar 1) (fNil)))))
  (sRet (fTup (fCons (fBin gDiv (fVar 0) (fVar 2)) (fCons (fBin gDiv (fVar 1) (fVar 2)) (fNil)))))))
def g_ratio : List D → S → Out D := withD 2 [.int 1] (arN 2 (den 3 m_ratio))
/-- times: 0 a, 1 b -/
def m_times : FS :=
  sRet (fCall g_ratio (fCons (fBin gMul (fBin gIx (fVar 0) (fC (.int 0))) (fBin gIx (fVar 1) (fC (.int 0)))) (fCons (fBin gMul (fBin gIx (fVar 0) (fC (.int 1))) (fBin gIx (fVar 1) (fC (.int 1)))) (fNil))))
def g_times : List D → S → Out D := arN 2 (den 2 m_times)
/-- form_times: 0 form, 1 number, 2 coefficient -/
def m_form_times : FS :=
  sRet (fArgs gTuple (fCons (fLc [2] (fSeq (fVar 0)) (tgN 2) (fYes) (fCall g_times (fCons (fVar 2) (fCons (fVar 1) (fNil))))) (fNil)))
def g_form_times : List D → S → Out D := arN 2 (den 3 m_form_times)
/-- flat: 0 number, 1 size -/
def m_flat : FS :=
  sRet (fBin gAdd (fTup (fCons (fVar 0) (fNil))) (fBin gMulT (fTup (fCons (fC c_ZERO) (fNil))) (fVar 1)))
def g_flat : List D → S → Out D := arN 2 (den 2 m_flat)
/-- plus: 0 a, 1 b -/
def m_plus : FS :=
  sRet (fCall g_ratio (fCons (fBin gAdd (fBin gMul (fBin gIx (fVar 0) (fC (.int 0))) (fBin gIx (fVar 1) (fC (.int 1)))) (fBin gMul (fBin gIx (fVar 1) (fC (.int 0))) (fBin gIx (fVar 0) (fC (.int 1))))) (fCons (fBin gMul (fBin gIx (fVar 0) (fC (.int 1))) (fBin gIx (fVar 1) (fC (.int 1)))) (fNil))))
def g_plus : List D → S → Out D := arN 2 (den 2 m_plus)
/-- form_plus: 0 a, 1 b, 2 one, 3 other -/
def m_form_plus : FS :=
  sRet (fArgs gTuple (fCons (fLc [2, 3] (fZip2 (fCons (fVar 0) (fCons (fVar 1) (fNil)))) (tgTup [tgN 2, tgN 3]) (fYes) (fCall g_plus (fCons (fVar 2) (fCons (fVar 3) (fNil))))) (fNil)))
def g_form_plus : List D → S → Out D := arN 2 (den 4 m_form_plus)
/-- form_total: 0 forms, 1 size, 2 result, 3 form -/
def m_form_total : FS :=
  sSeq (sSet 2 (fCall g_flat (fCons (fC c_ZERO) (fCons (fVar 1) (fNil)))))
  (sSeq (sFor (fVar 0) (tgN 3) (sSet 2 (fCall g_form_plus (fCons (fVar 2) (fCons (fVar 3) (fNil))))))
  (sRet (fVar 2)))
def g_form_total : List D → S → Out D := arN 2 (den 4 m_form_total)
/-- _is_integer: 0 value -/
def m__is_integer : FS :=
  sRet (fAndV (fUn (gIsi "int") (fVar 0)) (fNotV (fUn (gIsi "bool") (fVar 0))))
def g__is_integer : List D → S → Out D := arN 1 (den 1 m__is_integer)
/-- is_number: 0 value, 1 top, 2 bottom -/
def m_is_number : FS :=
  sSeq (sIf (fOr (fNot (fTru (fUn (gIsi "tuple") (fVar 0)))) (fIsB (fBin gNe (fArgs gLen (fCons (fVar 0) (fNil))) (fC (.int 2))))) (sRet (fC (.bl false))) (sSkip))
  (sSeq (sAsg (tgTup [tgN 1, tgN 2]) (fVar 0))
  (sSeq (sIf (fOr (fNot (fTru (fCall g__is_integer (fCons (fVar 1) (fNil))))) (fNot (fTru (fCall g__is_integer (fCons (fVar 2) (fNil)))))) (sRet (fC (.bl false))) (sSkip))
  (sRet (fAndV (fBin gGe (fVar 2) (fC (.int 1))) (fBin gEq (fArgs gGcd (fCons (fVar 1) (fCons (fVar 2) (fNil)))) (fC (.int 1)))))))
def g_is_number : List D → S → Out D := arN 1 (den 3 m_is_number)
/-- is_form: 0 value, 1 size, 2 coefficient -/
def m_is_form : FS :=
  sSeq (sIf (fOr (fNot (fTru (fUn (gIsi "tuple") (fVar 0)))) (fIsB (fBin gNe (fArgs gLen (fCons (fVar 0) (fNil))) (fBin gAdd (fVar 1) (fC (.int 1)))))) (sRet (fC (.bl false))) (sSkip))
  (sRet (fArgs gAll (fCons (fLc [2] (fSeq (fVar 0)) (tgN 2) (fYes) (fCall g_is_number (fCons (fVar 2) (fNil)))) (fNil))))
def g_is_form : List D → S → Out D := arN 2 (den 3 m_is_form)
/-- is_fact: 0 value, 1 size -/
def m_is_fact : FS :=
  sSeq (sIf (fOr (fNot (fTru (fUn (gIsi "tuple") (fVar 0)))) (fIsB (fBin gNe (fArgs gLen (fCons (fVar 0) (fNil))) (fC (.int 2))))) (sRet (fC (.bl false))) (sSkip))
  (sRet (fAndV (fCall g_is_form (fCons (fBin gIx (fVar 0) (fC (.int 0))) (fCons (fVar 1) (fNil)))) (fUn (gIsi "bool") (fBin gIx (fVar 0) (fC (.int 1))))))
def g_is_fact : List D → S → Out D := arN 2 (den 2 m_is_fact)
/-- check_region: 0 facts, 1 size, 2 index, 3 entry -/
def m_check_region : FS :=
  sForI (fEnum2 (fCons (fVar 0) (fNil))) (tgTup [tgN 2, tgN 3]) (sIf (fNot (fTru (fCall g_is_fact (fCons (fVar 3) (fCons (fVar 1) (fNil)))))) (sRaise ("BadFacts" : Str) [("index" : Str)] (fCons (fVar 2) (fNil))) (sSkip))
def g_check_region : List D → S → Out D := arN 2 (den 4 m_check_region)
/-- are_multipliers: 0 value, 1 count, 2 entry -/
def m_are_multipliers : FS :=
  sSeq (sIf (fOr (fNot (fTru (fUn (gIsi "tuple") (fVar 0)))) (fIsB (fBin gNe (fArgs gLen (fCons (fVar 0) (fNil))) (fVar 1)))) (sRet (fC (.bl false))) (sSkip))
  (sRet (fArgs gAll (fCons (fLc [2] (fSeq (fVar 0)) (tgN 2) (fYes) (fAndV (fCall g_is_number (fCons (fVar 2) (fNil))) (fBin gGe (fCall g_sign (fCons (fVar 2) (fNil))) (fC (.int 0))))) (fNil))))
def g_are_multipliers : List D → S → Out D := arN 2 (den 3 m_are_multipliers)
/-- shows_empty: 0 facts, 1 size, 2 multipliers, 3 weighted, 4 whole, 5 strict, 6 side, 7 fact, 8 worth, 9 coefficient -/
def m_shows_empty : FS :=
  sSeq (sExpr (fCall g_check_region (fCons (fVar 0) (fCons (fVar 1) (fNil)))))
  (sSeq (sIf (fNot (fTru (fCall g_are_multipliers (fCons (fVar 2) (fCons (fArgs gLen (fCons (fVar 0) (fNil))) (fNil)))))) (sRet (fC (.bl false))) (sSkip))
  (sSeq (sSet 3 (fLc [7, 8] (fZip2 (fCons (fVar 0) (fCons (fVar 2) (fNil)))) (tgTup [tgN 7, tgN 8]) (fYes) (fCall g_form_times (fCons (fBin gIx (fVar 7) (fC (.int 0))) (fCons (fVar 8) (fNil))))))
  (sSeq (sSet 4 (fCall g_form_total (fCons (fVar 3) (fCons (fVar 1) (fNil)))))
  (sSeq (sIf (fTru (fArgs gAny (fCons (fLc [9] (fSeq (fSl gSl (fVar 4) (fPart (fC (.int 1))) (fNo))) (tgN 9) (fYes) (fBin gNe (fCall g_sign (fCons (fVar 9) (fNil))) (fC (.int 0)))) (fNil)))) (sRet (fC (.bl false))) (sSkip))
  (sSeq (sSet 5 (fArgs gAny (fCons (fLc [7, 8] (fZip2 (fCons (fVar 0) (fCons (fVar 2) (fNil)))) (tgTup [tgN 7, tgN 8]) (fYes) (fAndV (fBin gIx (fVar 7) (fC (.int 1))) (fBin gGt (fCall g_sign (fCons (fVar 8) (fNil))) (fC (.int 0))))) (fNil))))
  (sSeq (sSet 6 (fCall g_sign (fCons (fBin gIx (fVar 4) (fC (.int 0))) (fNil))))
  (sRet (fOrV (fBin gLt (fVar 6) (fC (.int 0))) (fAndV (fBin gEq (fVar 6) (fC (.int 0))) (fVar 5))))))))))
def g_shows_empty : List D → S → Out D := arN 3 (den 10 m_shows_empty)
/-- _law_is_int: 0 thing -/
def m__law_is_int : FS :=
  sRet (fAndV (fUn (gIsi "int") (fVar 0)) (fNotV (fUn (gIsi "bool") (fVar 0))))
def g__law_is_int : List D → S → Out D := arN 1 (den 1 m__law_is_int)
/-- _law_is_number: 0 thing -/
def m__law_is_number : FS :=
  sSeq (sIf (fOr (fNot (fTru (fUn (gIsi "tuple") (fVar 0)))) (fIsB (fBin gNe (fArgs gLen (fCons (fVar 0) (fNil))) (fC (.int 2))))) (sRet (fC (.bl false))) (sSkip))
  (sSeq (sIf (fOr (fNot (fTru (fCall g__law_is_int (fCons (fBin gIx (fVar 0) (fC (.int 0))) (fNil))))) (fNot (fTru (fCall g__law_is_int (fCons (fBin gIx (fVar 0) (fC (.int 1))) (fNil)))))) (sRet (fC (.bl false))) (sSkip))
  (sRet (fAndV (fBin gGe (fBin gIx (fVar 0) (fC (.int 1))) (fC (.int 1))) (fBin gEq (fCall g__law_gcd (fCons (fArgs gAbs (fCons (fBin gIx (fVar 0) (fC (.int 0))) (fNil))) (fCons (fBin gIx (fVar 0) (fC (.int 1))) (fNil)))) (fC (.int 1))))))
def g__law_is_number : List D → S → Out D := arN 1 (den 1 m__law_is_number)
/-- _law_weighted: 0 facts, 1 paper, 2 size, 3 sums, 4 k, 5 j, 6 one, 7 bottom -/
def m__law_weighted : FS :=
  sSeq (sSet 3 (fLc [4] (fRng1 (fCons (fBin gAdd (fVar 2) (fC (.int 1))) (fNil))) (tgN 4) (fYes) (fTup (fCons (fC (.int 0)) (fCons (fC (.int 1)) (fNil))))))
  (sSeq (sForR1 (fCons (fArgs gLen (fCons (fVar 0) (fNil))) (fNil)) (tgN 4) (sForR1 (fCons (fBin gAdd (fVar 2) (fC (.int 1))) (fNil)) (tgN 5) (sSeq (sSet 6 (fBin gIx (fBin gIx (fBin gIx (fVar 0) (fVar 4)) (fC (.int 0))) (fVar 5)))
  (sSeq (sSet 7 (fBin gMul (fBin gIx (fBin gIx (fVar 1) (fVar 4)) (fC (.int 1))) (fBin gIx (fVar 6) (fC (.int 1)))))
  (sStore (fVar 3) (fVar 5) (fTup (fCons (fBin gAdd (fBin gMul (fBin gIx (fBin gIx (fVar 3) (fVar 5)) (fC (.int 0))) (fVar 7)) (fBin gMul (fBin gMul (fBin gIx (fBin gIx (fVar 1) (fVar 4)) (fC (.int 0))) (fBin gIx (fVar 6) (fC (.int 0)))) (fBin gIx (fBin gIx (fVar 3) (fVar 5)) (fC (.int 1))))) (fCons (fBin gMul (fBin gIx (fBin gIx (fVar 3) (fVar 5)) (fC (.int 1))) (fVar 7)) (fNil)))))))))
  (sRet (fVar 3)))
def g__law_weighted : List D → S → Out D := arN 3 (den 8 m__law_weighted)
/-- _law_shows: 0 facts, 1 size, 2 paper, 3 one, 4 sums, 5 k -/
def m__law_shows : FS :=
  sSeq (sIf (fOr (fNot (fTru (fUn (gIsi "tuple") (fVar 2)))) (fIsB (fBin gNe (fArgs gLen (fCons (fVar 2) (fNil))) (fArgs gLen (fCons (fVar 0) (fNil)))))) (sRet (fC (.bl false))) (sSkip))
  (sSeq (sFor (fVar 2) (tgN 3) (sIf (fOr (fNot (fTru (fCall g__law_is_number (fCons (fVar 3) (fNil))))) (fIsB (fBin gLt (fBin gIx (fVar 3) (fC (.int 0))) (fC (.int 0))))) (sRet (fC (.bl false))) (sSkip)))
  (sSeq (sSet 4 (fCall g__law_weighted (fCons (fVar 0) (fCons (fVar 2) (fCons (fVar 1) (fNil))))))
  (sSeq (sFor (fSl gSl (fVar 4) (fPart (fC (.int 1))) (fNo)) (tgN 3) (sIf (fIsB (fBin gNe (fBin gIx (fVar 3) (fC (.int 0))) (fC (.int 0)))) (sRet (fC (.bl false))) (sSkip)))
  (sSeq (sIf (fIsB (fBin gNe (fBin gIx (fBin gIx (fVar 4) (fC (.int 0))) (fC (.int 0))) (fC (.int 0)))) (sRet (fBin gLt (fBin gIx (fBin gIx (fVar 4) (fC (.int 0))) (fC (.int 0))) (fC (.int 0)))) (sSkip))
  (sSeq (sForR1 (fCons (fArgs gLen (fCons (fVar 0) (fNil))) (fNil)) (tgN 5) (sIf (fAnd (fTru (fBin gIx (fBin gIx (fVar 0) (fVar 5)) (fC (.int 1)))) (fIsB (fBin gGt (fBin gIx (fBin gIx (fVar 2) (fVar 5)) (fC (.int 0))) (fC (.int 0))))) (sRet (fC (.bl true))) (sSkip)))
  (sRet (fC (.bl false))))))))
def g__law_shows : List D → S → Out D := arN 3 (den 6 m__law_shows)
/-- _law_answers: 0 box, 1 facts, 2 size, 3 paper, 4 given, 5 told -/
def m__law_answers : FS :=
  sSeq (sSet 4 (fArgs gList (fCons (fVar 1) (fNil))))
  (sSeq (sIf (fIsB (fBin gEq (fCall g__law_take (fCons (fVar 0) (fCons (fC (.int 2)) (fNil)))) (fC (.int 1)))) (sSet 5 (fCall g_shows_empty (fCons (fArgs gTuple (fCons (fVar 1) (fNil))) (fCons (fVar 2) (fCons (fVar 3) (fNil)))))) (sSet 5 (fCall g_shows_empty (fCons (fVar 4) (fCons (fVar 2) (fCons (fVar 3) (fNil)))))))
  (sSeq (sIf (fOr (fNot (fTru (fUn (gIsi "bool") (fVar 5)))) (fIsB (fBin gNe (fVar 4) (fVar 1)))) (sRet (fC (.bl false))) (sSkip))
  (sRet (fBin gEq (fVar 5) (fCall g__law_shows (fCons (fVar 1) (fCons (fVar 2) (fCons (fVar 3) (fNil)))))))))
def g__law_answers : List D → S → Out D := arN 4 (den 6 m__law_answers)
/-- _law_with: 0 forms, 1 flags, 2 k -/
def m__law_with : FS :=
  sRet (fLc [2] (fRng1 (fCons (fArgs gLen (fCons (fVar 0) (fNil))) (fNil))) (tgN 2) (fYes) (fTup (fCons (fBin gIx (fVar 0) (fVar 2)) (fCons (fBin gIx (fVar 1) (fVar 2)) (fNil)))))
def g__law_with : List D → S → Out D := arN 2 (den 3 m__law_with)
/-- _law_facts: 0 box, 1 forms, 2 paper, 3 spot, 4 drop, 5 count, 6 below, 7 level, 8 above, 9 every, 10 never, 11 idle, 12 lit, 13 row, 14 j, 15 place, 16 step, 17 moved, 18 turned, 19 k, 20 one -/
def m__law_facts : FS :=
  sSeq (sSet 5 (fArgs gLen (fCons (fVar 1) (fNil))))
  (sSeq (sSet 6 (fCall g__law_balanced (fCons (fVar 1) (fCons (fVar 2) (fCons (fVar 3) (fCons (fVar 4) (fNil)))))))
  (sSeq (sSet 7 (fCall g__law_balanced (fCons (fVar 1) (fCons (fVar 2) (fCons (fVar 3) (fCons (fTup (fCons (fC (.int 0)) (fCons (fC (.int 1)) (fNil)))) (fNil)))))))
  (sSeq (sSet 8 (fCall g__law_balanced (fCons (fVar 1) (fCons (fVar 2) (fCons (fVar 3) (fCons (fCall g__law_neg (fCons (fVar 4) (fNil))) (fNil)))))))
  (sSeq (sSet 9 (fLc [19] (fRng1 (fCons (fVar 5) (fNil))) (tgN 19) (fYes) (fC (.bl true))))
  (sSeq (sSet 10 (fLc [19] (fRng1 (fCons (fVar 5) (fNil))) (tgN 19) (fYes) (fC (.bl false))))
  (sSeq (sSet 11 (fLc [19] (fRng1 (fCons (fVar 5) (fNil))) (tgN 19) (fYes) (fBin gEq (fBin gIx (fBin gIx (fVar 2) (fVar 19)) (fC (.int 0))) (fC (.int 0)))))
  (sSeq (sSet 12 (fCall g__law_take (fCons (fVar 0) (fCons (fVar 5) (fNil)))))
  (sSeq (sSet 13 (fLst (fCons (fLst (fCons (fVar 6) (fCons (fVar 10) (fCons (fVar 2) (fNil))))) (fCons (fLst (fCons (fVar 6) (fCons (fVar 9) (fCons (fVar 2) (fNil))))) (fCons (fLst (fCons (fVar 7) (fCons (fVar 9) (fCons (fVar 2) (fNil))))) (fCons (fLst (fCons (fVar 7) (fCons (fVar 10) (fCons (fVar 2) (fNil))))) (fNil)))))))
  (sSeq (sExpr (fLM gAppend (fVar 13) (fCons (fLst (fCons (fVar 7) (fCons (fVar 11) (fCons (fVar 2) (fNil))))) (fNil))))
  (sSeq (sExpr (fLM gAppend (fVar 13) (fCons (fLst (fCons (fVar 7) (fCons (fLc [19] (fRng1 (fCons (fVar 5) (fNil))) (tgN 19) (fYes) (fBin gEq (fVar 19) (fVar 12))) (fCons (fVar 2) (fNil))))) (fNil))))
  (sSeq (sExpr (fLM gAppend (fVar 13) (fCons (fLst (fCons (fVar 7) (fCons (fLc [19] (fRng1 (fCons (fVar 5) (fNil))) (tgN 19) (fYes) (fBin gEq (fVar 19) (fVar 3))) (fCons (fVar 2) (fNil))))) (fNil))))
  (sSeq (sExpr (fLM gAppend (fVar 13) (fCons (fLst (fCons (fVar 8) (fCons (fVar 9) (fCons (fVar 2) (fNil))))) (fNil))))
  (sSeq (sExpr (fLM gAppend (fVar 13) (fCons (fLst (fCons (fVar 8) (fCons (fVar 10) (fCons (fVar 2) (fNil))))) (fNil))))
  (sSeq (sFor (fLst (fCons (fVar 3) (fCons (fVar 12) (fNil)))) (tgN 14) (sSeq (sSet 15 (fBin gAdd (fC (.int 1)) (fCall g__law_take (fCons (fVar 0) (fCons (fBin gSub (fArgs gLen (fCons (fBin gIx (fVar 1) (fC (.int 0))) (fNil))) (fC (.int 1))) (fNil))))))
  (sSeq (sSet 16 (fCall g__law_num (fCons (fBin gAdd (fC (.int 1)) (fCall g__law_take (fCons (fVar 0) (fCons (fC (.int 5)) (fNil))))) (fCons (fBin gAdd (fC (.int 1)) (fCall g__law_take (fCons (fVar 0) (fCons (fC (.int 2)) (fNil))))) (fNil)))))
  (sSeq (sSet 17 (fCall g__law_put (fCons (fBin gIx (fVar 6) (fVar 14)) (fCons (fVar 15) (fCons (fCall g__law_add (fCons (fBin gIx (fBin gIx (fVar 6) (fVar 14)) (fVar 15)) (fCons (fVar 16) (fNil)))) (fNil))))))
  (sSeq (sExpr (fLM gAppend (fVar 13) (fCons (fLst (fCons (fBin gAdd (fBin gAdd (fSl gSl (fVar 6) (fNo) (fPart (fVar 14))) (fLst (fCons (fVar 17) (fNil)))) (fSl gSl (fVar 6) (fPart (fBin gAdd (fVar 14) (fC (.int 1)))) (fNo))) (fCons (fVar 10) (fCons (fVar 2) (fNil))))) (fNil))))
  (sSeq (sSet 18 (fArgs gTuple (fCons (fLc [20] (fSeq (fBin gIx (fVar 6) (fVar 14))) (tgN 20) (fYes) (fCall g__law_neg (fCons (fVar 20) (fNil)))) (fNil))))
  (sSeq (sExpr (fLM gAppend (fVar 13) (fCons (fLst (fCons (fBin gAdd (fBin gAdd (fSl gSl (fVar 6) (fNo) (fPart (fVar 14))) (fLst (fCons (fVar 18) (fNil)))) (fSl gSl (fVar 6) (fPart (fBin gAdd (fVar 14) (fC (.int 1)))) (fNo))) (fCons (fVar 10) (fCons (fCall g__law_put (fCons (fVar 2) (fCons (fVar 14) (fCons (fCall g__law_neg (fCons (fBin gIx (fVar 2) (fVar 14)) (fNil))) (fNil))))) (fNil))))) (fNil))))
  (sExpr (fLM gAppend (fVar 13) (fCons (fLst (fCons (fBin gAdd (fBin gAdd (fSl gSl (fVar 6) (fNo) (fPart (fVar 14))) (fLst (fCons (fVar 18) (fNil)))) (fSl gSl (fVar 6) (fPart (fBin gAdd (fVar 14) (fC (.int 1)))) (fNo))) (fCons (fVar 10) (fCons (fVar 2) (fNil))))) (fNil)))))))))))
  (sSeq (sExpr (fLM gAppend (fVar 13) (fCons (fLst (fCons (fBin gAdd (fVar 6) (fLst (fCons (fBin gIx (fVar 1) (fVar 12)) (fNil)))) (fCons (fBin gAdd (fVar 10) (fLst (fCons (fC (.bl true)) (fNil)))) (fCons (fBin gAdd (fVar 2) (fTup (fCons (fTup (fCons (fC (.int 0)) (fCons (fC (.int 1)) (fNil)))) (fNil)))) (fNil))))) (fNil))))
  (sSeq (sExpr (fLM gAppend (fVar 13) (fCons (fLst (fCons (fBin gAdd (fVar 6) (fLst (fCons (fBin gIx (fVar 1) (fVar 12)) (fNil)))) (fCons (fBin gAdd (fVar 10) (fLst (fCons (fC (.bl true)) (fNil)))) (fCons (fVar 2) (fNil))))) (fNil))))
  (sSeq (sExpr (fLM gAppend (fVar 13) (fCons (fLst (fCons (fBin gAdd (fVar 7) (fLst (fCons (fBin gIx (fVar 1) (fVar 12)) (fNil)))) (fCons (fBin gAdd (fVar 10) (fLst (fCons (fC (.bl true)) (fNil)))) (fCons (fBin gAdd (fVar 2) (fTup (fCons (fTup (fCons (fC (.int 0)) (fCons (fC (.int 1)) (fNil)))) (fNil)))) (fNil))))) (fNil))))
  (sRet (fVar 13)))))))))))))))))))
def g__law_facts : List D → S → Out D := arN 5 (den 21 m__law_facts)
/-- opposite: 0 fact, 1 form, 2 strict -/
def m_opposite : FS :=
  sSeq (sAsg (tgTup [tgN 1, tgN 2]) (fVar 0))
  (sRet (fTup (fCons (fCall g_form_times (fCons (fVar 1) (fCons (fTup (fCons (fUn gNeg (fC (.int 1))) (fCons (fC (.int 1)) (fNil)))) (fNil)))) (fCons (fNotV (fVar 2)) (fNil)))))
def g_opposite : List D → S → Out D := arN 1 (den 3 m_opposite)
/-- _law_opposite: 0 box, 1 fact, 2 size, 3 told, 4 due, 5 ones, 6 one -/
def m__law_opposite : FS :=
  sSeq (sSet 3 (fCall g_opposite (fCons (fVar 1) (fNil))))
  (sSeq (sSet 4 (fTup (fCons (fArgs gTuple (fCons (fLc [6] (fSeq (fBin gIx (fVar 1) (fC (.int 0)))) (tgN 6) (fYes) (fCall g__law_neg (fCons (fVar 6) (fNil)))) (fNil))) (fCons (fNotV (fBin gIx (fVar 1) (fC (.int 1)))) (fNil)))))
  (sSeq (sIf (fOr (fNot (fTru (fUn (gIsi "tuple") (fVar 3)))) (fIsB (fBin gNe (fArgs gLen (fCons (fVar 3) (fNil))) (fC (.int 2))))) (sRet (fC (.bl false))) (sSkip))
  (sSeq (sIf (fOr (fNot (fTru (fUn (gIsi "tuple") (fBin gIx (fVar 3) (fC (.int 0)))))) (fNot (fTru (fUn (gIsi "bool") (fBin gIx (fVar 3) (fC (.int 1))))))) (sRet (fC (.bl false))) (sSkip))
  (sSeq (sIf (fOr (fNot (fTru (fArgs gAll (fCons (fLc [6] (fSeq (fBin gIx (fVar 3) (fC (.int 0)))) (tgN 6) (fYes) (fCall g__law_is_number (fCons (fVar 6) (fNil)))) (fNil))))) (fIsB (fBin gNe (fVar 3) (fVar 4)))) (sRet (fC (.bl false))) (sSkip))
  (sSeq (sSet 5 (fTup (fCons (fTup (fCons (fC (.int 1)) (fCons (fC (.int 1)) (fNil)))) (fCons (fTup (fCons (fC (.int 1)) (fCons (fC (.int 1)) (fNil)))) (fNil)))))
  (sSeq (sIf (fOr (fNot (fTru (fCall g__law_answers (fCons (fVar 0) (fCons (fLst (fCons (fVar 1) (fCons (fVar 4) (fNil)))) (fCons (fVar 2) (fCons (fVar 5) (fNil)))))))) (fNot (fTru (fCall g__law_answers (fCons (fVar 0) (fCons (fLst (fCons (fVar 4) (fCons (fVar 1) (fNil)))) (fCons (fVar 2) (fCons (fVar 5) (fNil))))))))) (sRet (fC (.bl false))) (sSkip))
  (sRet (fAndV (fCall g__law_answers (fCons (fVar 0) (fCons (fLst (fCons (fVar 1) (fCons (fVar 1) (fNil)))) (fCons (fVar 2) (fCons (fVar 5) (fNil)))))) (fCall g__law_answers (fCons (fVar 0) (fCons (fLst (fNil)) (fCons (fVar 2) (fCons (fTup (fNil)) (fNil))))))))))))))
def g__law_opposite : List D → S → Out D := arN 3 (den 7 m__law_opposite)
/-- _law_spoilt: 0 box, 1 fact, 2 form, 3 k, 4 strict, 5 way, 6 odd -/
def m__law_spoilt : FS :=
  sSeq (sSet 2 (fBin gIx (fVar 1) (fC (.int 0))))
  (sSeq (sSet 3 (fCall g__law_take (fCons (fVar 0) (fCons (fArgs gLen (fCons (fVar 2) (fNil))) (fNil)))))
  (sSeq (sSet 4 (fBin gIx (fVar 1) (fC (.int 1))))
  (sSeq (sSet 5 (fCall g__law_take (fCons (fVar 0) (fCons (fC (.int 13)) (fNil)))))
  (sSeq (sIf (fIsB (fBin gEq (fVar 5) (fC (.int 0)))) (sRet (fC .non)) (sSkip))
  (sSeq (sIf (fIsB (fBin gEq (fVar 5) (fC (.int 1)))) (sRet (fTup (fCons (fVar 2) (fNil)))) (sSkip))
  (sSeq (sIf (fIsB (fBin gEq (fVar 5) (fC (.int 2)))) (sRet (fTup (fCons (fSl gSl (fVar 2) (fNo) (fPart (fUn gNeg (fC (.int 1))))) (fCons (fVar 4) (fNil))))) (sSkip))
  (sSeq (sIf (fIsB (fBin gEq (fVar 5) (fC (.int 3)))) (sRet (fTup (fCons (fBin gAdd (fVar 2) (fTup (fCons (fTup (fCons (fC (.int 0)) (fCons (fC (.int 1)) (fNil)))) (fNil)))) (fCons (fVar 4) (fNil))))) (sSkip))
  (sSeq (sIf (fIsB (fBin gEq (fVar 5) (fC (.int 4)))) (sRet (fTup (fCons (fVar 2) (fCons (fC .non) (fNil))))) (sSkip))
  (sSeq (sIf (fIsB (fBin gEq (fVar 5) (fC (.int 5)))) (sRet (fTup (fCons (fVar 2) (fCons (fVar 4) (fCons (fVar 4) (fNil)))))) (sSkip))
  (sSeq (sIf (fIsB (fBin gEq (fVar 5) (fC (.int 6)))) (sRet (fTup (fCons (fC .non) (fCons (fVar 4) (fNil))))) (sSkip))
  (sSeq (sIf (fIsB (fBin gEq (fVar 5) (fC (.int 7)))) (sRet (fC (.int 7))) (sSkip))
  (sSeq (sSet 6 (fBin gIx (fLst (fCons (fTup (fCons (fC (.int 2)) (fCons (fC (.int 2)) (fNil)))) (fCons (fTup (fCons (fC (.int 1)) (fCons (fC (.int 0)) (fNil)))) (fCons (fTup (fCons (fC (.int 1)) (fCons (fUn gNeg (fC (.int 1))) (fNil)))) (fCons (fC (.int 3)) (fCons (fTup (fCons (fC (.bl true)) (fCons (fC (.int 1)) (fNil)))) (fNil))))))) (fBin gSub (fVar 5) (fC (.int 8)))))
  (sRet (fTup (fCons (fBin gAdd (fBin gAdd (fSl gSl (fVar 2) (fNo) (fPart (fVar 3))) (fTup (fCons (fVar 6) (fNil)))) (fSl gSl (fVar 2) (fPart (fBin gAdd (fVar 3) (fC (.int 1)))) (fNo))) (fCons (fVar 4) (fNil)))))))))))))))))
def g__law_spoilt : List D → S → Out D := arN 2 (den 7 m__law_spoilt)
/-- _law_refused: 0 box, 1 facts, 2 size, 3 paper, 4 first, 5 second, 6 bad, 7 k, 8 thing, 9 kept, 10 e -/
def m__law_refused : FS :=
  sSeq (sSet 4 (fCall g__law_take (fCons (fVar 0) (fCons (fArgs gLen (fCons (fVar 1) (fNil))) (fNil)))))
  (sSeq (sSet 5 (fBin gAdd (fVar 4) (fCall g__law_take (fCons (fVar 0) (fCons (fBin gSub (fArgs gLen (fCons (fVar 1) (fNil))) (fVar 4)) (fNil))))))
  (sSeq (sSet 6 (fArgs gList (fCons (fVar 1) (fNil))))
  (sSeq (sFor (fLst (fCons (fVar 4) (fCons (fVar 5) (fNil)))) (tgN 7) (sStore (fVar 6) (fVar 7) (fCall g__law_spoilt (fCons (fVar 0) (fCons (fBin gIx (fVar 1) (fVar 7)) (fNil))))))
  (sSeq (sSet 8 (fBin gIx (fLst (fCons (fVar 3) (fCons (fC .non) (fCons (fTup (fNil)) (fCons (fArgs gList (fCons (fVar 3) (fNil))) (fNil)))))) (fCall g__law_take (fCons (fVar 0) (fCons (fC (.int 4)) (fNil))))))
  (sSeq (sSet 9 (fArgs gList (fCons (fVar 6) (fNil))))
  (sSeq (sTryAs 10 tx_FitError (sExpr (fCall g_shows_empty (fCons (fVar 6) (fCons (fVar 2) (fCons (fVar 8) (fNil)))))) (fun e k => sSeq (sIf (fOr (fNot (fTru (fIsX k e ti_BadFacts (fVar 10)))) (fNot (fTru (fIsX k e ti_ValueError (fVar 10))))) (sRet (fC (.bl false))) (sSkip))
  (sSeq (sIf (fOr (fTru (fIsX k e ti_BadForm (fVar 10))) (fTru (fIsX k e ti_EmptyRegion (fVar 10)))) (sRet (fC (.bl false))) (sSkip))
  (sRet (fAndV (fCall g__law_is_int (fCons (fXf k e cs_index ("index" : Str) (fVar 10)) (fNil))) (fAndV (fBin gEq (fXf k e cs_index ("index" : Str) (fVar 10)) (fVar 4)) (fBin gEq (fVar 6) (fVar 9))))))))
  (sRet (fC (.bl false)))))))))
def g__law_refused : List D → S → Out D := arN 4 (den 11 m__law_refused)
/-- law: 0 script, 1 box, 2 size, 3 count, 4 spot, 5 far, 6 paper, 7 forms, 8 drop, 9 one, 10 constant, 11 flags, 12 facts, 13 bent, 14 fact, 15 k -/
def m_law : FS :=
  sSeq (sSet 1 (fCall g__law_open (fCons (fVar 0) (fNil))))
  (sSeq (sSet 2 (fBin gAdd (fC (.int 1)) (fCall g__law_take (fCons (fVar 1) (fCons (fC (.int 4)) (fNil))))))
  (sSeq (sSet 3 (fBin gAdd (fC (.int 1)) (fCall g__law_take (fCons (fVar 1) (fCons (fC (.int 11)) (fNil))))))
  (sSeq (sSet 4 (fCall g__law_take (fCons (fVar 1) (fCons (fVar 3) (fNil)))))
  (sSeq (sSet 5 (fBin gEq (fCall g__law_take (fCons (fVar 1) (fCons (fC (.int 8)) (fNil)))) (fC (.int 1))))
  (sSeq (sSet 6 (fCall g__law_paper (fCons (fVar 1) (fCons (fVar 3) (fCons (fVar 4) (fNil))))))
  (sSeq (sSet 7 (fLc [15] (fRng1 (fCons (fVar 3) (fNil))) (tgN 15) (fYes) (fCall g__law_form (fCons (fVar 1) (fCons (fVar 2) (fCons (fVar 5) (fNil)))))))
  (sSeq (sSet 8 (fCall g__law_num (fCons (fBin gSub (fUn gNeg (fC (.int 1))) (fCall g__law_take (fCons (fVar 1) (fCons (fC (.int 9)) (fNil))))) (fCons (fBin gAdd (fC (.int 1)) (fCall g__law_take (fCons (fVar 1) (fCons (fC (.int 3)) (fNil))))) (fNil)))))
  (sSeq (sFor (fCall g__law_facts (fCons (fVar 1) (fCons (fVar 7) (fCons (fVar 6) (fCons (fVar 4) (fCons (fVar 8) (fNil))))))) (tgN 9) (sIf (fNot (fTru (fCall g__law_answers (fCons (fVar 1) (fCons (fCall g__law_with (fCons (fBin gIx (fVar 9) (fC (.int 0))) (fCons (fBin gIx (fVar 9) (fC (.int 1))) (fNil)))) (fCons (fVar 2) (fCons (fBin gIx (fVar 9) (fC (.int 2))) (fNil)))))))) (sRet (fC (.bl false))) (sSkip)))
  (sSeq (sSet 10 (fBin gIx (fLst (fCons (fVar 8) (fCons (fTup (fCons (fC (.int 0)) (fCons (fC (.int 1)) (fNil)))) (fNil)))) (fCall g__law_take (fCons (fVar 1) (fCons (fC (.int 2)) (fNil))))))
  (sSeq (sSet 11 (fLc [15] (fRng1 (fCons (fVar 3) (fNil))) (tgN 15) (fYes) (fOrV (fBin gEq (fVar 15) (fVar 4)) (fBin gEq (fCall g__law_take (fCons (fVar 1) (fCons (fC (.int 3)) (fNil)))) (fC (.int 1))))))
  (sSeq (sSet 12 (fCall g__law_with (fCons (fCall g__law_balanced (fCons (fVar 7) (fCons (fVar 6) (fCons (fVar 4) (fCons (fVar 10) (fNil)))))) (fCons (fVar 11) (fNil)))))
  (sSeq (sFor (fCall g__law_bent (fCons (fVar 1) (fCons (fVar 6) (fCons (fVar 4) (fNil))))) (tgN 13) (sIf (fNot (fTru (fCall g__law_answers (fCons (fVar 1) (fCons (fVar 12) (fCons (fVar 2) (fCons (fVar 13) (fNil)))))))) (sRet (fC (.bl false))) (sSkip)))
  (sSeq (sFor (fSl gSl (fVar 12) (fNo) (fPart (fC (.int 2)))) (tgN 14) (sIf (fNot (fTru (fCall g__law_opposite (fCons (fVar 1) (fCons (fVar 14) (fCons (fVar 2) (fNil))))))) (sRet (fC (.bl false))) (sSkip)))
  (sRet (fCall g__law_refused (fCons (fVar 1) (fCons (fVar 12) (fCons (fVar 2) (fCons (fVar 6) (fNil))))))))))))))))))))
def g_law : List D → S → Out D := arN 1 (den 16 m_law)
end
end K04

set_option Elab.async false
set_option linter.all false
set_option maxRecDepth 100000
set_option maxHeartbeats 0
/-! law_k04_multipliers_shown: each def does as its denotation says (printed by gen.py) -/
namespace K04
open PySem PySem.Spec PyProof.Rows L2 MP
def top (i : Nat) : Stmt := PySem.Challenge.pw_pagefit_k04_multipliers_shown.main.body.getD i (.Pass ⟨0, 0, 0, 0⟩)
abbrev st__law_open : Stmt := top 30
abbrev st__law_mix : Stmt := top 29
abbrev st__law_take : Stmt := top 31
abbrev st__law_gcd : Stmt := top 32
abbrev st__law_num : Stmt := top 33
abbrev st__law_add : Stmt := top 34
abbrev st__law_mul : Stmt := top 35
abbrev st__law_neg : Stmt := top 36
abbrev st__law_balanced : Stmt := top 42
abbrev st__law_small : Stmt := top 41
abbrev st__law_form : Stmt := top 44
abbrev st__law_paper : Stmt := top 45
abbrev st__law_put : Stmt := top 46
abbrev st__law_scaled : Stmt := top 47
abbrev st__law_bent : Stmt := top 48
abbrev st_sign : Stmt := top 14
abbrev st_ratio : Stmt := top 9
abbrev st_times : Stmt := top 13
abbrev st_form_times : Stmt := top 19
abbrev st_flat : Stmt := top 16
abbrev st_plus : Stmt := top 12
abbrev st_form_plus : Stmt := top 18
abbrev st_form_total : Stmt := top 20
abbrev st__is_integer : Stmt := top 11
abbrev st_is_number : Stmt := top 10
abbrev st_is_form : Stmt := top 17
abbrev st_is_fact : Stmt := top 22
abbrev st_check_region : Stmt := top 23
abbrev st_are_multipliers : Stmt := top 26
abbrev st_shows_empty : Stmt := top 27
abbrev st__law_is_int : Stmt := top 37
abbrev st__law_is_number : Stmt := top 38
abbrev st__law_weighted : Stmt := top 39
abbrev st__law_shows : Stmt := top 40
abbrev st__law_answers : Stmt := top 49
abbrev st__law_with : Stmt := top 50
abbrev st__law_facts : Stmt := top 51
abbrev st_opposite : Stmt := top 24
abbrev st__law_opposite : Stmt := top 52
abbrev st__law_spoilt : Stmt := top 43
abbrev st__law_refused : Stmt := top 53
abbrev st_law : Stmt := top 54
theorem sc__law_open : FnScope [("script" : Str), ("cells" : Str), ("fold" : Str), ("cell" : Str)] [("script" : Str)] (defScope st__law_open) := ⟨rfl, rfl, rfl, by decide +kernel, rfl, by decide +kernel, by decide +kernel⟩
theorem sc__law_mix : FnScope [("cell" : Str), ("turn" : Str), ("first" : Str), ("second" : Str)] [("cell" : Str), ("turn" : Str)] (defScope st__law_mix) := ⟨rfl, rfl, rfl, by decide +kernel, rfl, by decide +kernel, by decide +kernel⟩
theorem sc__law_take : FnScope [("box" : Str), ("many" : Str), ("cell" : Str), ("digit" : Str)] [("box" : Str), ("many" : Str)] (defScope st__law_take) := ⟨rfl, rfl, rfl, by decide +kernel, rfl, by decide +kernel, by decide +kernel⟩
theorem sc__law_gcd : FnScope [("a" : Str), ("b" : Str)] [("a" : Str), ("b" : Str)] (defScope st__law_gcd) := ⟨rfl, rfl, rfl, by decide +kernel, rfl, by decide +kernel, by decide +kernel⟩
theorem sc__law_num : FnScope [("top" : Str), ("bottom" : Str), ("common" : Str)] [("top" : Str), ("bottom" : Str)] (defScope st__law_num) := ⟨rfl, rfl, rfl, by decide +kernel, rfl, by decide +kernel, by decide +kernel⟩
theorem sc__law_add : FnScope [("a" : Str), ("b" : Str)] [("a" : Str), ("b" : Str)] (defScope st__law_add) := ⟨rfl, rfl, rfl, by decide +kernel, rfl, by decide +kernel, by decide +kernel⟩
theorem sc__law_mul : FnScope [("a" : Str), ("b" : Str)] [("a" : Str), ("b" : Str)] (defScope st__law_mul) := ⟨rfl, rfl, rfl, by decide +kernel, rfl, by decide +kernel, by decide +kernel⟩
theorem sc__law_neg : FnScope [("a" : Str)] [("a" : Str)] (defScope st__law_neg) := ⟨rfl, rfl, rfl, by decide +kernel, rfl, by decide +kernel, by decide +kernel⟩
theorem sc__law_balanced : FnScope [("forms" : Str), ("paper" : Str), ("spot" : Str), ("constant" : Str), ("done" : Str), ("k" : Str), ("left" : Str), ("j" : Str)] [("forms" : Str), ("paper" : Str), ("spot" : Str), ("constant" : Str)] (defScope st__law_balanced) := ⟨rfl, rfl, rfl, by decide +kernel, rfl, by decide +kernel, by decide +kernel⟩
theorem sc__law_small : FnScope [("box" : Str), ("kind" : Str)] [("box" : Str)] (defScope st__law_small) := ⟨rfl, rfl, rfl, by decide +kernel, rfl, by decide +kernel, by decide +kernel⟩
theorem sc__law_form : FnScope [("box" : Str), ("size" : Str), ("far" : Str), ("form" : Str), ("great" : Str), ("k" : Str)] [("box" : Str), ("size" : Str), ("far" : Str)] (defScope st__law_form) := ⟨rfl, rfl, rfl, by decide +kernel, rfl, by decide +kernel, by decide +kernel⟩
theorem sc__law_paper : FnScope [("box" : Str), ("count" : Str), ("spot" : Str), ("paper" : Str), ("k" : Str), ("kind" : Str)] [("box" : Str), ("count" : Str), ("spot" : Str)] (defScope st__law_paper) := ⟨rfl, rfl, rfl, by decide +kernel, rfl, by decide +kernel, by decide +kernel⟩
theorem sc__law_put : FnScope [("paper" : Str), ("k" : Str), ("thing" : Str)] [("paper" : Str), ("k" : Str), ("thing" : Str)] (defScope st__law_put) := ⟨rfl, rfl, rfl, by decide +kernel, rfl, by decide +kernel, by decide +kernel⟩
theorem sc__law_scaled : FnScope [("paper" : Str), ("number" : Str), ("one" : Str)] [("paper" : Str), ("number" : Str)] (defScope st__law_scaled) := ⟨rfl, rfl, rfl, by decide +kernel, rfl, by decide +kernel, by decide +kernel⟩
theorem sc__law_bent : FnScope [("box" : Str), ("paper" : Str), ("spot" : Str), ("k" : Str), ("one" : Str), ("more" : Str), ("unit" : Str), ("papers" : Str), ("thing" : Str), ("place" : Str), ("j" : Str)] [("box" : Str), ("paper" : Str), ("spot" : Str)] (defScope st__law_bent) := ⟨rfl, rfl, rfl, by decide +kernel, rfl, by decide +kernel, by decide +kernel⟩
theorem sc_sign : FnScope [("a" : Str)] [("a" : Str)] (defScope st_sign) := ⟨rfl, rfl, rfl, by decide +kernel, rfl, by decide +kernel, by decide +kernel⟩
theorem sc_ratio : FnScope [("top" : Str), ("bottom" : Str), ("divisor" : Str)] [("top" : Str), ("bottom" : Str)] (defScope st_ratio) := ⟨rfl, rfl, rfl, by decide +kernel, rfl, by decide +kernel, by decide +kernel⟩
theorem sc_times : FnScope [("a" : Str), ("b" : Str)] [("a" : Str), ("b" : Str)] (defScope st_times) := ⟨rfl, rfl, rfl, by decide +kernel, rfl, by decide +kernel, by decide +kernel⟩
theorem sc_form_times : FnScope [("form" : Str), ("number" : Str), ("coefficient" : Str)] [("form" : Str), ("number" : Str)] (defScope st_form_times) := ⟨rfl, rfl, rfl, by decide +kernel, rfl, by decide +kernel, by decide +kernel⟩
theorem sc_flat : FnScope [("number" : Str), ("size" : Str)] [("number" : Str), ("size" : Str)] (defScope st_flat) := ⟨rfl, rfl, rfl, by decide +kernel, rfl, by decide +kernel, by decide +kernel⟩
theorem sc_plus : FnScope [("a" : Str), ("b" : Str)] [("a" : Str), ("b" : Str)] (defScope st_plus) := ⟨rfl, rfl, rfl, by decide +kernel, rfl, by decide +kernel, by decide +kernel⟩
theorem sc_form_plus : FnScope [("a" : Str), ("b" : Str), ("one" : Str), ("other" : Str)] [("a" : Str), ("b" : Str)] (defScope st_form_plus) := ⟨rfl, rfl, rfl, by decide +kernel, rfl, by decide +kernel, by decide +kernel⟩
theorem sc_form_total : FnScope [("forms" : Str), ("size" : Str), ("result" : Str), ("form" : Str)] [("forms" : Str), ("size" : Str)] (defScope st_form_total) := ⟨rfl, rfl, rfl, by decide +kernel, rfl, by decide +kernel, by decide +kernel⟩
theorem sc__is_integer : FnScope [("value" : Str)] [("value" : Str)] (defScope st__is_integer) := ⟨rfl, rfl, rfl, by decide +kernel, rfl, by decide +kernel, by decide +kernel⟩
theorem sc_is_number : FnScope [("value" : Str), ("top" : Str), ("bottom" : Str)] [("value" : Str)] (defScope st_is_number) := ⟨rfl, rfl, rfl, by decide +kernel, rfl, by decide +kernel, by decide +kernel⟩
theorem sc_is_form : FnScope [("value" : Str), ("size" : Str), ("coefficient" : Str)] [("value" : Str), ("size" : Str)] (defScope st_is_form) := ⟨rfl, rfl, rfl, by decide +kernel, rfl, by decide +kernel, by decide +kernel⟩
theorem sc_is_fact : FnScope [("value" : Str), ("size" : Str)] [("value" : Str), ("size" : Str)] (defScope st_is_fact) := ⟨rfl, rfl, rfl, by decide +kernel, rfl, by decide +kernel, by decide +kernel⟩
theorem sc_check_region : FnScope [("facts" : Str), ("size" : Str), ("index" : Str), ("entry" : Str)] [("facts" : Str), ("size" : Str)] (defScope st_check_region) := ⟨rfl, rfl, rfl, by decide +kernel, rfl, by decide +kernel, by decide +kernel⟩
theorem sc_are_multipliers : FnScope [("value" : Str), ("count" : Str), ("entry" : Str)] [("value" : Str), ("count" : Str)] (defScope st_are_multipliers) := ⟨rfl, rfl, rfl, by decide +kernel, rfl, by decide +kernel, by decide +kernel⟩
theorem sc_shows_empty : FnScope [("facts" : Str), ("size" : Str), ("multipliers" : Str), ("weighted" : Str), ("whole" : Str), ("strict" : Str), ("side" : Str), ("fact" : Str), ("worth" : Str), ("coefficient" : Str)] [("facts" : Str), ("size" : Str), ("multipliers" : Str)] (defScope st_shows_empty) := ⟨rfl, rfl, rfl, by decide +kernel, rfl, by decide +kernel, by decide +kernel⟩
theorem sc__law_is_int : FnScope [("thing" : Str)] [("thing" : Str)] (defScope st__law_is_int) := ⟨rfl, rfl, rfl, by decide +kernel, rfl, by decide +kernel, by decide +kernel⟩
theorem sc__law_is_number : FnScope [("thing" : Str)] [("thing" : Str)] (defScope st__law_is_number) := ⟨rfl, rfl, rfl, by decide +kernel, rfl, by decide +kernel, by decide +kernel⟩
theorem sc__law_weighted : FnScope [("facts" : Str), ("paper" : Str), ("size" : Str), ("sums" : Str), ("k" : Str), ("j" : Str), ("one" : Str), ("bottom" : Str)] [("facts" : Str), ("paper" : Str), ("size" : Str)] (defScope st__law_weighted) := ⟨rfl, rfl, rfl, by decide +kernel, rfl, by decide +kernel, by decide +kernel⟩
theorem sc__law_shows : FnScope [("facts" : Str), ("size" : Str), ("paper" : Str), ("one" : Str), ("sums" : Str), ("k" : Str)] [("facts" : Str), ("size" : Str), ("paper" : Str)] (defScope st__law_shows) := ⟨rfl, rfl, rfl, by decide +kernel, rfl, by decide +kernel, by decide +kernel⟩
theorem sc__law_answers : FnScope [("box" : Str), ("facts" : Str), ("size" : Str), ("paper" : Str), ("given" : Str), ("told" : Str)] [("box" : Str), ("facts" : Str), ("size" : Str), ("paper" : Str)] (defScope st__law_answers) := ⟨rfl, rfl, rfl, by decide +kernel, rfl, by decide +kernel, by decide +kernel⟩
theorem sc__law_with : FnScope [("forms" : Str), ("flags" : Str), ("k" : Str)] [("forms" : Str), ("flags" : Str)] (defScope st__law_with) := ⟨rfl, rfl, rfl, by decide +kernel, rfl, by decide +kernel, by decide +kernel⟩
theorem sc__law_facts : FnScope [("box" : Str), ("forms" : Str), ("paper" : Str), ("spot" : Str), ("drop" : Str), ("count" : Str), ("below" : Str), ("level" : Str), ("above" : Str), ("every" : Str), ("never" : Str), ("idle" : Str), ("lit" : Str), ("row" : Str), ("j" : Str), ("place" : Str), ("step" : Str), ("moved" : Str), ("turned" : Str), ("k" : Str), ("one" : Str)] [("box" : Str), ("forms" : Str), ("paper" : Str), ("spot" : Str), ("drop" : Str)] (defScope st__law_facts) := ⟨rfl, rfl, rfl, by decide +kernel, rfl, by decide +kernel, by decide +kernel⟩
theorem sc_opposite : FnScope [("fact" : Str), ("form" : Str), ("strict" : Str)] [("fact" : Str)] (defScope st_opposite) := ⟨rfl, rfl, rfl, by decide +kernel, rfl, by decide +kernel, by decide +kernel⟩
theorem sc__law_opposite : FnScope [("box" : Str), ("fact" : Str), ("size" : Str), ("told" : Str), ("due" : Str), ("ones" : Str), ("one" : Str)] [("box" : Str), ("fact" : Str), ("size" : Str)] (defScope st__law_opposite) := ⟨rfl, rfl, rfl, by decide +kernel, rfl, by decide +kernel, by decide +kernel⟩
theorem sc__law_spoilt : FnScope [("box" : Str), ("fact" : Str), ("form" : Str), ("k" : Str), ("strict" : Str), ("way" : Str), ("odd" : Str)] [("box" : Str), ("fact" : Str)] (defScope st__law_spoilt) := ⟨rfl, rfl, rfl, by decide +kernel, rfl, by decide +kernel, by decide +kernel⟩
theorem sc__law_refused : FnScope [("box" : Str), ("facts" : Str), ("size" : Str), ("paper" : Str), ("first" : Str), ("second" : Str), ("bad" : Str), ("k" : Str), ("thing" : Str), ("kept" : Str), ("e" : Str)] [("box" : Str), ("facts" : Str), ("size" : Str), ("paper" : Str)] (defScope st__law_refused) := ⟨rfl, rfl, rfl, by decide +kernel, rfl, by decide +kernel, by decide +kernel⟩
theorem sc_law : FnScope [("script" : Str), ("box" : Str), ("size" : Str), ("count" : Str), ("spot" : Str), ("far" : Str), ("paper" : Str), ("forms" : Str), ("drop" : Str), ("one" : Str), ("constant" : Str), ("flags" : Str), ("facts" : Str), ("bent" : Str), ("fact" : Str), ("k" : Str)] [("script" : Str)] (defScope st_law) := ⟨rfl, rfl, rfl, by decide +kernel, rfl, by decide +kernel, by decide +kernel⟩
theorem fn_BadFacts : FN [("index" : Str)] := ⟨by decide, by decide +kernel, by decide +kernel, fields1 (by unfold Bound1; intros; first | rfl | with_unfolding_all rfl), by decide⟩
theorem fn_BadNumber : FN [("value" : Str)] := ⟨by decide, by decide +kernel, by decide +kernel, fields1 (by unfold Bound1; intros; first | rfl | with_unfolding_all rfl), by decide⟩
structure Gs (P : Program) (K : PySem.W.Frag) (mg : Str → Option Value) : Prop where
  free_ValueError : mg ("ValueError" : Str) = none
  free_abs : mg ("abs" : Str) = none
  free_all : mg ("all" : Str) = none
  free_any : mg ("any" : Str) = none
  free_bool : mg ("bool" : Str) = none
  free_enumerate : mg ("enumerate" : Str) = none
  free_int : mg ("int" : Str) = none
  free_isinstance : mg ("isinstance" : Str) = none
  free_len : mg ("len" : Str) = none
  free_list : mg ("list" : Str) = none
  free_range : mg ("range" : Str) = none
  free_tuple : mg ("tuple" : Str) = none
  free_zip : mg ("zip" : Str) = none
  blt_gcd : mg ("gcd" : Str) = some (.builtin "math.gcd")
  glo_BadFacts : mg ("BadFacts" : Str) = some (.ref (He.ga K ("BadFacts" : Str)))
  glo_BadForm : mg ("BadForm" : Str) = some (.ref (He.ga K ("BadForm" : Str)))
  glo_BadNumber : mg ("BadNumber" : Str) = some (.ref (He.ga K ("BadNumber" : Str)))
  glo_EmptyRegion : mg ("EmptyRegion" : Str) = some (.ref (He.ga K ("EmptyRegion" : Str)))
  glo_FitError : mg ("FitError" : Str) = some (.ref (He.ga K ("FitError" : Str)))
  const_ZERO : ∃ u, mg ("ZERO" : Str) = some u ∧ KD K c_ZERO u
  exc_BadFacts : ExcOk P K mg ("BadFacts" : Str) [("index" : Str)]
  exc_BadNumber : ExcOk P K mg ("BadNumber" : Str) [("value" : Str)]
  tx_FitError : Tab K mg (.ref (He.ga K ("FitError" : Str))) tx_FitError
  ti_BadFacts : TabI K mg (.ref (He.ga K ("BadFacts" : Str))) ti_BadFacts
  ti_ValueError : TabI K mg (.type "ValueError") ti_ValueError
  ti_BadForm : TabI K mg (.ref (He.ga K ("BadForm" : Str))) ti_BadForm
  ti_EmptyRegion : TabI K mg (.ref (He.ga K ("EmptyRegion" : Str))) ti_EmptyRegion
  fld_index : FldOk K mg cs_index ("index" : Str)
section
variable {P : Program} {w : World} {K : PySem.W.Frag} {mg : Str → Option Value} {base : Heap}
theorem jb__law_open (G : Gs P K mg)  {f : Addr} {cdv : Value} {A : Around} {outer : List PySem.Env} {s : Shared} {H : Hp} {E : XK} (hr : Room 0 (A.deeper (envOfC ("_law_open" : Str) (defScope st__law_open) s.heap.objs.size f cdv))) :
    JB (cxOf (L2N.CX P w) P w K mg base [("script" : Str), ("cells" : Str), ("fold" : Str), ("cell" : Str)] ("_law_open" : Str) (defScope st__law_open) f cdv A outer s H E) (wcE E) (defBody st__law_open) m__law_open :=
  (jb_cons (js_set (i := 1) sc__law_open.nd rfl (Or.inl rfl) (je_lst ja_nil flen_nil))
  (jb_cons (js_set (i := 2) sc__law_open.nd rfl (Or.inl rfl) je_int)
  (jb_cons (js_for (L2.passes_of rfl) rfl (je_sl sld (je_var 0) jo_no (jo_part je_int)) (jg_name (i := 3) sc__law_open.nd rfl (Or.inl rfl)) (jb_cons (js_expr (je_lm PySem.F.slot_list_append PySem.F.type_list_append mtd_append (je_var 1) (ja_cons (je_var 3) ja_nil)))
  (jb_one (js_set (i := 2) sc__law_open.nd rfl (Or.inl rfl) (je_op opd_mod (je_callTy cad_int rfl G.free_int bt_int (ja_cons (je_op opd_add (je_op opd_mul (je_var 2) je_int) (je_var 3)) ja_nil)) je_int)))))
  (jb_one (js_ret (je_lst (ja_cons (je_var 1) (ja_cons je_int (ja_cons je_int (ja_cons (je_var 2) (ja_cons je_int ja_nil))))) (flen_cons (flen_cons (flen_cons (flen_cons (flen_cons flen_nil)))))))))))
theorem d__law_open (G : Gs P K mg)  (gm : mg ("_law_open" : Str) = some (.ref (He.fAd K (("_law_open" : Str), none)))) {fd : FuncData} (F : FunD K ("_law_open" : Str) ("_law_open" : Str) (defArgs st__law_open) (defBody st__law_open) (defScope st__law_open) [] [] (He.fAd K (("_law_open" : Str), none)) fd) : DefOk false P w K mg base ("_law_open" : Str) [] 1 g__law_open :=
  ⟨_, gm, F.kp, rn_pos (hot := false) (def_ok F sc__law_open fun cdv A outer s H E hr => jb__law_open G  hr) rfl (F.bindsN fun _ _ _ _ _ _ us hl => match us, hl with | [_], _ => rfl)⟩
theorem jb__law_mix (G : Gs P K mg)  {f : Addr} {cdv : Value} {A : Around} {outer : List PySem.Env} {s : Shared} {H : Hp} {E : XK} (hr : Room 0 (A.deeper (envOfC ("_law_mix" : Str) (defScope st__law_mix) s.heap.objs.size f cdv))) :
    JB (cxOf (L2N.CX P w) P w K mg base [("cell" : Str), ("turn" : Str), ("first" : Str), ("second" : Str)] ("_law_mix" : Str) (defScope st__law_mix) f cdv A outer s H E) (wcE E) (defBody st__law_mix) m__law_mix :=
  (jb_cons (js_set (i := 2) sc__law_mix.nd rfl (Or.inl rfl) (je_op opd_mod (je_callTy cad_int rfl G.free_int bt_int (ja_cons (je_op opd_add (je_op opd_add (je_op opd_mul (je_var 0) je_int) (je_op opd_mul (je_var 1) je_int)) je_int) ja_nil)) je_int))
  (jb_cons (js_set (i := 3) sc__law_mix.nd rfl (Or.inl rfl) (je_op opd_mod (je_callTy cad_int rfl G.free_int bt_int (ja_cons (je_op opd_add (je_op opd_add (je_op opd_add (je_op opd_mul (je_var 2) (je_var 2)) (je_op opd_mul (je_var 0) je_int)) (je_op opd_mul (je_var 1) je_int)) je_int) ja_nil)) je_int))
  (jb_one (js_ret (je_op opd_div (je_var 3) je_int)))))
theorem d__law_mix (G : Gs P K mg)  (gm : mg ("_law_mix" : Str) = some (.ref (He.fAd K (("_law_mix" : Str), none)))) {fd : FuncData} (F : FunD K ("_law_mix" : Str) ("_law_mix" : Str) (defArgs st__law_mix) (defBody st__law_mix) (defScope st__law_mix) [] [] (He.fAd K (("_law_mix" : Str), none)) fd) : DefOk false P w K mg base ("_law_mix" : Str) [] 1 g__law_mix :=
  ⟨_, gm, F.kp, rn_pos (hot := false) (def_ok F sc__law_mix fun cdv A outer s H E hr => jb__law_mix G  hr) rfl (F.bindsN fun _ _ _ _ _ _ us hl => match us, hl with | [_, _], _ => rfl)⟩
theorem jb__law_take (G : Gs P K mg) (d__law_mix : DefOk false P w K mg base ("_law_mix" : Str) [] 1 g__law_mix) {f : Addr} {cdv : Value} {A : Around} {outer : List PySem.Env} {s : Shared} {H : Hp} {E : XK} (hr : Room 1 (A.deeper (envOfC ("_law_take" : Str) (defScope st__law_take) s.heap.objs.size f cdv))) :
    JB (cxOf (L2N.CX P w) P w K mg base [("box" : Str), ("many" : Str), ("cell" : Str), ("digit" : Str)] ("_law_take" : Str) (defScope st__law_take) f cdv A outer s H E) (wcE E) (defBody st__law_take) m__law_take :=
  (jb_cons (js_if (jt_cmp opd_gt (je_ix ixd (je_var 0) je_int) je_int rfl) (jb_cons (js_set (i := 3) sc__law_take.nd rfl (Or.inl rfl) (je_op opd_mod (je_callTy cad_int rfl G.free_int bt_int (ja_cons (je_ix ixd (je_var 0) je_int) ja_nil)) (je_var 1)))
  (jb_cons (js_store (je_var 0) je_int (je_op opd_div (je_ix ixd (je_var 0) je_int) (je_var 1)) (fun _ => rfl))
  (jb_one (js_ret (je_var 3))))) jb_nil)
  (jb_cons (js_store (je_var 0) je_int (je_op opd_add (je_ix ixd (je_var 0) je_int) je_int) (fun _ => rfl))
  (jb_cons (js_if (jt_cmp opd_ge (je_ix ixd (je_var 0) je_int) (je_callB cad_len rfl G.free_len bt_len (ja_cons (je_ix ixd (je_var 0) je_int) ja_nil)) rfl) (jb_one (js_ret (je_op opd_mod (je_callTy cad_int rfl G.free_int bt_int (ja_cons (je_call d__law_mix (hr.mono (by decide)) (L2N.takes_of rfl rfl rfl rfl) rfl (ja_cons (je_ix ixd (je_var 0) je_int) (ja_cons (je_ix ixd (je_var 0) je_int) ja_nil))) ja_nil)) (je_var 1)))) jb_nil)
  (jb_cons (js_set (i := 2) sc__law_take.nd rfl (Or.inl rfl) (je_ix ixd (je_ix ixd (je_var 0) je_int) (je_ix ixd (je_var 0) je_int)))
  (jb_cons (js_store (je_var 0) je_int (je_op opd_add (je_ix ixd (je_var 0) je_int) je_int) (fun _ => rfl))
  (jb_cons (js_if (jt_cmp opd_lt (je_callB cad_abs rfl G.free_abs bt_abs (ja_cons (je_var 2) ja_nil)) (je_op opd_pow je_int je_int) rfl) (jb_one (js_ret (je_op opd_mod (je_callTy cad_int rfl G.free_int bt_int (ja_cons (je_call d__law_mix (hr.mono (by decide)) (L2N.takes_of rfl rfl rfl rfl) rfl (ja_cons (je_var 2) (ja_cons (je_ix ixd (je_var 0) je_int) ja_nil))) ja_nil)) (je_var 1)))) jb_nil)
  (jb_cons (js_store (je_var 0) je_int (je_op opd_div (je_callB cad_abs rfl G.free_abs bt_abs (ja_cons (je_var 2) ja_nil)) (je_var 1)) (fun _ => rfl))
  (jb_one (js_ret (je_op opd_mod (je_callTy cad_int rfl G.free_int bt_int (ja_cons (je_callB cad_abs rfl G.free_abs bt_abs (ja_cons (je_var 2) ja_nil)) ja_nil)) (je_var 1)))))))))))
theorem d__law_take (G : Gs P K mg) (d__law_mix : DefOk false P w K mg base ("_law_mix" : Str) [] 1 g__law_mix) (gm : mg ("_law_take" : Str) = some (.ref (He.fAd K (("_law_take" : Str), none)))) {fd : FuncData} (F : FunD K ("_law_take" : Str) ("_law_take" : Str) (defArgs st__law_take) (defBody st__law_take) (defScope st__law_take) [] [] (He.fAd K (("_law_take" : Str), none)) fd) : DefOk false P w K mg base ("_law_take" : Str) [] 2 g__law_take :=
  ⟨_, gm, F.kp, rn_pos (hot := false) (def_ok F sc__law_take fun cdv A outer s H E hr => jb__law_take G d__law_mix hr) rfl (F.bindsN fun _ _ _ _ _ _ us hl => match us, hl with | [_, _], _ => rfl)⟩
theorem jb__law_gcd (G : Gs P K mg)  {f : Addr} {cdv : Value} {A : Around} {outer : List PySem.Env} {s : Shared} {H : Hp} {E : XK} (hr : Room 0 (A.deeper (envOfC ("_law_gcd" : Str) (defScope st__law_gcd) s.heap.objs.size f cdv))) :
    JB (cxOf (L2N.CX P w) P w K mg base [("a" : Str), ("b" : Str)] ("_law_gcd" : Str) (defScope st__law_gcd) f cdv A outer s H E) (wcE E) (defBody st__law_gcd) m__law_gcd :=
  (jb_cons (js_while (L2.passes_of rfl) (jt_cmp (opd_ne (huR hr)) (je_var 1) je_int rfl) (jb_one (js_par (i := 0) (j := 1) rfl sc__law_gcd.nd rfl rfl (by decide) rfl rfl (ja_cons (je_var 1) (ja_cons (je_op opd_mod (je_callTy cad_int rfl G.free_int bt_int (ja_cons (je_var 0) ja_nil)) (je_var 1)) ja_nil)) rfl)))
  (jb_one (js_ret (je_var 0))))
theorem d__law_gcd (G : Gs P K mg)  (gm : mg ("_law_gcd" : Str) = some (.ref (He.fAd K (("_law_gcd" : Str), none)))) {fd : FuncData} (F : FunD K ("_law_gcd" : Str) ("_law_gcd" : Str) (defArgs st__law_gcd) (defBody st__law_gcd) (defScope st__law_gcd) [] [] (He.fAd K (("_law_gcd" : Str), none)) fd) : DefOk false P w K mg base ("_law_gcd" : Str) [] 1 g__law_gcd :=
  ⟨_, gm, F.kp, rn_pos (hot := false) (def_ok F sc__law_gcd fun cdv A outer s H E hr => jb__law_gcd G  hr) rfl (F.bindsN fun _ _ _ _ _ _ us hl => match us, hl with | [_, _], _ => rfl)⟩
theorem jb__law_num (G : Gs P K mg) (d__law_gcd : DefOk false P w K mg base ("_law_gcd" : Str) [] 1 g__law_gcd) {f : Addr} {cdv : Value} {A : Around} {outer : List PySem.Env} {s : Shared} {H : Hp} {E : XK} (hr : Room 1 (A.deeper (envOfC ("_law_num" : Str) (defScope st__law_num) s.heap.objs.size f cdv))) :
    JB (cxOf (L2N.CX P w) P w K mg base [("top" : Str), ("bottom" : Str), ("common" : Str)] ("_law_num" : Str) (defScope st__law_num) f cdv A outer s H E) (wcE E) (defBody st__law_num) m__law_num :=
  (jb_cons (js_set (i := 2) sc__law_num.nd rfl (Or.inl rfl) (je_call d__law_gcd (hr.mono (by decide)) (L2N.takes_of rfl rfl rfl rfl) rfl (ja_cons (je_callB cad_abs rfl G.free_abs bt_abs (ja_cons (je_var 0) ja_nil)) (ja_cons (je_callB cad_abs rfl G.free_abs bt_abs (ja_cons (je_var 1) ja_nil)) ja_nil))))
  (jb_cons (js_if (jt_cmp opd_lt (je_var 1) je_int rfl) (jb_one (js_set (i := 2) sc__law_num.nd rfl (Or.inl rfl) (je_un und_neg (je_var 2)))) jb_nil)
  (jb_one (js_ret (je_tup (ja_cons (je_op opd_div (je_var 0) (je_var 2)) (ja_cons (je_op opd_div (je_var 1) (je_var 2)) ja_nil)) (flen_cons (flen_cons flen_nil)))))))
theorem d__law_num (G : Gs P K mg) (d__law_gcd : DefOk false P w K mg base ("_law_gcd" : Str) [] 1 g__law_gcd) (gm : mg ("_law_num" : Str) = some (.ref (He.fAd K (("_law_num" : Str), none)))) {fd : FuncData} (F : FunD K ("_law_num" : Str) ("_law_num" : Str) (defArgs st__law_num) (defBody st__law_num) (defScope st__law_num) [] [] (He.fAd K (("_law_num" : Str), none)) fd) : DefOk false P w K mg base ("_law_num" : Str) [] 2 g__law_num :=
  ⟨_, gm, F.kp, rn_pos (hot := false) (def_ok F sc__law_num fun cdv A outer s H E hr => jb__law_num G d__law_gcd hr) rfl (F.bindsN fun _ _ _ _ _ _ us hl => match us, hl with | [_, _], _ => rfl)⟩
theorem jb__law_add (G : Gs P K mg) (d__law_num : DefOk false P w K mg base ("_law_num" : Str) [] 2 g__law_num) {f : Addr} {cdv : Value} {A : Around} {outer : List PySem.Env} {s : Shared} {H : Hp} {E : XK} (hr : Room 2 (A.deeper (envOfC ("_law_add" : Str) (defScope st__law_add) s.heap.objs.size f cdv))) :
    JB (cxOf (L2N.CX P w) P w K mg base [("a" : Str), ("b" : Str)] ("_law_add" : Str) (defScope st__law_add) f cdv A outer s H E) (wcE E) (defBody st__law_add) m__law_add :=
  (jb_one (js_ret (je_call d__law_num (hr.mono (by decide)) (L2N.takes_of rfl rfl rfl rfl) rfl (ja_cons (je_op opd_add (je_op opd_mul (je_ix ixd (je_var 0) je_int) (je_ix ixd (je_var 1) je_int)) (je_op opd_mul (je_ix ixd (je_var 1) je_int) (je_ix ixd (je_var 0) je_int))) (ja_cons (je_op opd_mul (je_ix ixd (je_var 0) je_int) (je_ix ixd (je_var 1) je_int)) ja_nil)))))
theorem d__law_add (G : Gs P K mg) (d__law_num : DefOk false P w K mg base ("_law_num" : Str) [] 2 g__law_num) (gm : mg ("_law_add" : Str) = some (.ref (He.fAd K (("_law_add" : Str), none)))) {fd : FuncData} (F : FunD K ("_law_add" : Str) ("_law_add" : Str) (defArgs st__law_add) (defBody st__law_add) (defScope st__law_add) [] [] (He.fAd K (("_law_add" : Str), none)) fd) : DefOk false P w K mg base ("_law_add" : Str) [] 3 g__law_add :=
  ⟨_, gm, F.kp, rn_pos (hot := false) (def_ok F sc__law_add fun cdv A outer s H E hr => jb__law_add G d__law_num hr) rfl (F.bindsN fun _ _ _ _ _ _ us hl => match us, hl with | [_, _], _ => rfl)⟩
theorem jb__law_mul (G : Gs P K mg) (d__law_num : DefOk false P w K mg base ("_law_num" : Str) [] 2 g__law_num) {f : Addr} {cdv : Value} {A : Around} {outer : List PySem.Env} {s : Shared} {H : Hp} {E : XK} (hr : Room 2 (A.deeper (envOfC ("_law_mul" : Str) (defScope st__law_mul) s.heap.objs.size f cdv))) :
    JB (cxOf (L2N.CX P w) P w K mg base [("a" : Str), ("b" : Str)] ("_law_mul" : Str) (defScope st__law_mul) f cdv A outer s H E) (wcE E) (defBody st__law_mul) m__law_mul :=
  (jb_one (js_ret (je_call d__law_num (hr.mono (by decide)) (L2N.takes_of rfl rfl rfl rfl) rfl (ja_cons (je_op opd_mul (je_ix ixd (je_var 0) je_int) (je_ix ixd (je_var 1) je_int)) (ja_cons (je_op opd_mul (je_ix ixd (je_var 0) je_int) (je_ix ixd (je_var 1) je_int)) ja_nil)))))
theorem d__law_mul (G : Gs P K mg) (d__law_num : DefOk false P w K mg base ("_law_num" : Str) [] 2 g__law_num) (gm : mg ("_law_mul" : Str) = some (.ref (He.fAd K (("_law_mul" : Str), none)))) {fd : FuncData} (F : FunD K ("_law_mul" : Str) ("_law_mul" : Str) (defArgs st__law_mul) (defBody st__law_mul) (defScope st__law_mul) [] [] (He.fAd K (("_law_mul" : Str), none)) fd) : DefOk false P w K mg base ("_law_mul" : Str) [] 3 g__law_mul :=
  ⟨_, gm, F.kp, rn_pos (hot := false) (def_ok F sc__law_mul fun cdv A outer s H E hr => jb__law_mul G d__law_num hr) rfl (F.bindsN fun _ _ _ _ _ _ us hl => match us, hl with | [_, _], _ => rfl)⟩
theorem jb__law_neg (G : Gs P K mg)  {f : Addr} {cdv : Value} {A : Around} {outer : List PySem.Env} {s : Shared} {H : Hp} {E : XK} (hr : Room 0 (A.deeper (envOfC ("_law_neg" : Str) (defScope st__law_neg) s.heap.objs.size f cdv))) :
    JB (cxOf (L2N.CX P w) P w K mg base [("a" : Str)] ("_law_neg" : Str) (defScope st__law_neg) f cdv A outer s H E) (wcE E) (defBody st__law_neg) m__law_neg :=
  (jb_one (js_ret (je_tup (ja_cons (je_un und_neg (je_ix ixd (je_var 0) je_int)) (ja_cons (je_ix ixd (je_var 0) je_int) ja_nil)) (flen_cons (flen_cons flen_nil)))))
theorem d__law_neg (G : Gs P K mg)  (gm : mg ("_law_neg" : Str) = some (.ref (He.fAd K (("_law_neg" : Str), none)))) {fd : FuncData} (F : FunD K ("_law_neg" : Str) ("_law_neg" : Str) (defArgs st__law_neg) (defBody st__law_neg) (defScope st__law_neg) [] [] (He.fAd K (("_law_neg" : Str), none)) fd) : DefOk false P w K mg base ("_law_neg" : Str) [] 1 g__law_neg :=
  ⟨_, gm, F.kp, rn_pos (hot := false) (def_ok F sc__law_neg fun cdv A outer s H E hr => jb__law_neg G  hr) rfl (F.bindsN fun _ _ _ _ _ _ us hl => match us, hl with | [_], _ => rfl)⟩
theorem jb__law_balanced (G : Gs P K mg) (d__law_num : DefOk false P w K mg base ("_law_num" : Str) [] 2 g__law_num) (d__law_add : DefOk false P w K mg base ("_law_add" : Str) [] 3 g__law_add) (d__law_mul : DefOk false P w K mg base ("_law_mul" : Str) [] 3 g__law_mul) (d__law_neg : DefOk false P w K mg base ("_law_neg" : Str) [] 1 g__law_neg) {f : Addr} {cdv : Value} {A : Around} {outer : List PySem.Env} {s : Shared} {H : Hp} {E : XK} (hr : Room 3 (A.deeper (envOfC ("_law_balanced" : Str) (defScope st__law_balanced) s.heap.objs.size f cdv))) :
    JB (cxOf (L2N.CX P w) P w K mg base [("forms" : Str), ("paper" : Str), ("spot" : Str), ("constant" : Str), ("done" : Str), ("k" : Str), ("left" : Str), ("j" : Str)] ("_law_balanced" : Str) (defScope st__law_balanced) f cdv A outer s H E) (wcE E) (defBody st__law_balanced) m__law_balanced :=
  (jb_cons (js_set (i := 4) sc__law_balanced.nd rfl (Or.inl rfl) (je_lst ja_nil flen_nil))
  (jb_cons (js_forR1 (L2.passes_of rfl) rfl rfl G.free_range (ja_cons (je_callB cad_len rfl G.free_len bt_len (ja_cons (je_ix ixd (je_var 0) (je_var 2)) ja_nil)) ja_nil) (jg_name (i := 5) sc__law_balanced.nd rfl (Or.inl rfl)) (jb_cons (js_set (i := 6) sc__law_balanced.nd rfl (Or.inl rfl) (je_tup (ja_cons je_int (ja_cons je_int ja_nil)) (flen_cons (flen_cons flen_nil))))
  (jb_cons (js_if (jt_cmp (opd_eq (huR hr)) (je_var 5) je_int rfl) (jb_one (js_set (i := 6) sc__law_balanced.nd rfl (Or.inl rfl) (je_var 3))) jb_nil)
  (jb_cons (js_forR1 (L2.passes_of rfl) rfl rfl G.free_range (ja_cons (je_callB cad_len rfl G.free_len bt_len (ja_cons (je_var 0) ja_nil)) ja_nil) (jg_name (i := 7) sc__law_balanced.nd rfl (Or.inl rfl)) (jb_one (js_if (jt_cmp (opd_ne (huR hr)) (je_var 7) (je_var 2) rfl) (jb_one (js_set (i := 6) sc__law_balanced.nd rfl (Or.inl rfl) (je_call d__law_add (hr.mono (by decide)) (L2N.takes_of rfl rfl rfl rfl) rfl (ja_cons (je_var 6) (ja_cons (je_call d__law_neg (hr.mono (by decide)) (L2N.takes_of rfl rfl rfl rfl) rfl (ja_cons (je_call d__law_mul (hr.mono (by decide)) (L2N.takes_of rfl rfl rfl rfl) rfl (ja_cons (je_ix ixd (je_var 1) (je_var 7)) (ja_cons (je_ix ixd (je_ix ixd (je_var 0) (je_var 7)) (je_var 5)) ja_nil))) ja_nil)) ja_nil))))) jb_nil)))
  (jb_one (js_expr (je_lm PySem.F.slot_list_append PySem.F.type_list_append mtd_append (je_var 4) (ja_cons (je_call d__law_num (hr.mono (by decide)) (L2N.takes_of rfl rfl rfl rfl) rfl (ja_cons (je_op opd_mul (je_ix ixd (je_var 6) je_int) (je_ix ixd (je_ix ixd (je_var 1) (je_var 2)) je_int)) (ja_cons (je_op opd_mul (je_ix ixd (je_var 6) je_int) (je_ix ixd (je_ix ixd (je_var 1) (je_var 2)) je_int)) ja_nil))) ja_nil))))))))
  (jb_one (js_ret (je_op opd_add (je_op opd_add (je_sl sld (je_var 0) jo_no (jo_part (je_var 2))) (je_lst (ja_cons (je_callTy cad_tuple rfl G.free_tuple bt_tuple (ja_cons (je_var 4) ja_nil)) ja_nil) (flen_cons flen_nil))) (je_sl sld (je_var 0) (jo_part (je_op opd_add (je_var 2) je_int)) jo_no))))))
theorem d__law_balanced (G : Gs P K mg) (d__law_num : DefOk false P w K mg base ("_law_num" : Str) [] 2 g__law_num) (d__law_add : DefOk false P w K mg base ("_law_add" : Str) [] 3 g__law_add) (d__law_mul : DefOk false P w K mg base ("_law_mul" : Str) [] 3 g__law_mul) (d__law_neg : DefOk false P w K mg base ("_law_neg" : Str) [] 1 g__law_neg) (gm : mg ("_law_balanced" : Str) = some (.ref (He.fAd K (("_law_balanced" : Str), none)))) {fd : FuncData} (F : FunD K ("_law_balanced" : Str) ("_law_balanced" : Str) (defArgs st__law_balanced) (defBody st__law_balanced) (defScope st__law_balanced) [] [] (He.fAd K (("_law_balanced" : Str), none)) fd) : DefOk false P w K mg base ("_law_balanced" : Str) [] 4 g__law_balanced :=
  ⟨_, gm, F.kp, rn_pos (hot := false) (def_ok F sc__law_balanced fun cdv A outer s H E hr => jb__law_balanced G d__law_num d__law_add d__law_mul d__law_neg hr) rfl (F.bindsN fun _ _ _ _ _ _ us hl => match us, hl with | [_, _, _, _], _ => rfl)⟩
theorem jb__law_small (G : Gs P K mg) (d__law_take : DefOk false P w K mg base ("_law_take" : Str) [] 2 g__law_take) (d__law_num : DefOk false P w K mg base ("_law_num" : Str) [] 2 g__law_num) {f : Addr} {cdv : Value} {A : Around} {outer : List PySem.Env} {s : Shared} {H : Hp} {E : XK} (hr : Room 2 (A.deeper (envOfC ("_law_small" : Str) (defScope st__law_small) s.heap.objs.size f cdv))) :
    JB (cxOf (L2N.CX P w) P w K mg base [("box" : Str), ("kind" : Str)] ("_law_small" : Str) (defScope st__law_small) f cdv A outer s H E) (wcE E) (defBody st__law_small) m__law_small :=
  (jb_cons (js_set (i := 1) sc__law_small.nd rfl (Or.inl rfl) (je_call d__law_take (hr.mono (by decide)) (L2N.takes_of rfl rfl rfl rfl) rfl (ja_cons (je_var 0) (ja_cons je_int ja_nil))))
  (jb_cons (js_if (jt_cmp (opd_eq (huR hr)) (je_var 1) je_int rfl) (jb_one (js_ret (je_tup (ja_cons je_int (ja_cons je_int ja_nil)) (flen_cons (flen_cons flen_nil))))) jb_nil)
  (jb_cons (js_if (jt_cmp (opd_eq (huR hr)) (je_var 1) je_int rfl) (jb_one (js_ret (je_call d__law_num (hr.mono (by decide)) (L2N.takes_of rfl rfl rfl rfl) rfl (ja_cons (je_op opd_sub (je_call d__law_take (hr.mono (by decide)) (L2N.takes_of rfl rfl rfl rfl) rfl (ja_cons (je_var 0) (ja_cons je_int ja_nil))) je_int) (ja_cons (je_op opd_add je_int (je_call d__law_take (hr.mono (by decide)) (L2N.takes_of rfl rfl rfl rfl) rfl (ja_cons (je_var 0) (ja_cons je_int ja_nil)))) ja_nil))))) jb_nil)
  (jb_one (js_ret (je_tup (ja_cons (je_op opd_sub (je_call d__law_take (hr.mono (by decide)) (L2N.takes_of rfl rfl rfl rfl) rfl (ja_cons (je_var 0) (ja_cons je_int ja_nil))) je_int) (ja_cons je_int ja_nil)) (flen_cons (flen_cons flen_nil))))))))
theorem d__law_small (G : Gs P K mg) (d__law_take : DefOk false P w K mg base ("_law_take" : Str) [] 2 g__law_take) (d__law_num : DefOk false P w K mg base ("_law_num" : Str) [] 2 g__law_num) (gm : mg ("_law_small" : Str) = some (.ref (He.fAd K (("_law_small" : Str), none)))) {fd : FuncData} (F : FunD K ("_law_small" : Str) ("_law_small" : Str) (defArgs st__law_small) (defBody st__law_small) (defScope st__law_small) [] [] (He.fAd K (("_law_small" : Str), none)) fd) : DefOk false P w K mg base ("_law_small" : Str) [] 3 g__law_small :=
  ⟨_, gm, F.kp, rn_pos (hot := false) (def_ok F sc__law_small fun cdv A outer s H E hr => jb__law_small G d__law_take d__law_num hr) rfl (F.bindsN fun _ _ _ _ _ _ us hl => match us, hl with | [_], _ => rfl)⟩
theorem jb__law_form (G : Gs P K mg) (d__law_take : DefOk false P w K mg base ("_law_take" : Str) [] 2 g__law_take) (d__law_small : DefOk false P w K mg base ("_law_small" : Str) [] 3 g__law_small) {f : Addr} {cdv : Value} {A : Around} {outer : List PySem.Env} {s : Shared} {H : Hp} {E : XK} (hr : Room 3 (A.deeper (envOfC ("_law_form" : Str) (defScope st__law_form) s.heap.objs.size f cdv))) :
    JB (cxOf (L2N.CX P w) P w K mg base [("box" : Str), ("size" : Str), ("far" : Str), ("form" : Str), ("great" : Str), ("k" : Str)] ("_law_form" : Str) (defScope st__law_form) f cdv A outer s H E) (wcE E) (defBody st__law_form) m__law_form :=
  (jb_cons (js_setLc (i := 3) [(("k" : Str), 5)] rfl rfl sc__law_form.nd rfl rfl (sw_true rfl rfl rfl (by decide +kernel)) (ji_rng1 rfl G.free_range (ja_cons (je_op opd_add (je_var 1) je_int) ja_nil)) (blkOk_by (N := [("box" : Str), ("size" : Str), ("far" : Str), ("form" : Str), ("great" : Str), ("k" : Str)]) (sc := defScope st__law_form) (own := [(("k" : Str), 5)]) (by decide +kernel)) (fun _ _ _ _ _ => (jgw_name (i := 5) sc__law_form.nd rfl (by decide))) (fun _ _ _ _ _ => jts_nil) (fun _ _ _ _ _ => (je_call d__law_small (hr.mono (by decide)) takes_no rfl (ja_cons (je_var 0) ja_nil))))
  (jb_cons (js_if (jt_tru (je_var 2)) (jb_cons (js_set (i := 4) sc__law_form.nd rfl (Or.inl rfl) je_int)
  (jb_cons (js_forR1 (L2.passes_of rfl) rfl rfl G.free_range (ja_cons je_int ja_nil) (jg_name (i := 5) sc__law_form.nd rfl (Or.inl rfl)) (jb_one (js_set (i := 4) sc__law_form.nd rfl (Or.inl rfl) (je_op opd_add (je_op opd_mul (je_var 4) (je_op opd_pow je_int je_int)) (je_call d__law_take (hr.mono (by decide)) (L2N.takes_of rfl rfl rfl rfl) rfl (ja_cons (je_var 0) (ja_cons (je_op opd_pow je_int je_int) ja_nil)))))))
  (jb_one (js_store (je_var 3) je_int (je_tup (ja_cons (je_op opd_sub (je_var 4) (je_op opd_pow je_int je_int)) (ja_cons je_int ja_nil)) (flen_cons (flen_cons flen_nil))) (fun _ => rfl))))) jb_nil)
  (jb_one (js_ret (je_callTy cad_tuple rfl G.free_tuple bt_tuple (ja_cons (je_var 3) ja_nil))))))
theorem d__law_form (G : Gs P K mg) (d__law_take : DefOk false P w K mg base ("_law_take" : Str) [] 2 g__law_take) (d__law_small : DefOk false P w K mg base ("_law_small" : Str) [] 3 g__law_small) (gm : mg ("_law_form" : Str) = some (.ref (He.fAd K (("_law_form" : Str), none)))) {fd : FuncData} (F : FunD K ("_law_form" : Str) ("_law_form" : Str) (defArgs st__law_form) (defBody st__law_form) (defScope st__law_form) [] [] (He.fAd K (("_law_form" : Str), none)) fd) : DefOk false P w K mg base ("_law_form" : Str) [] 4 g__law_form :=
  ⟨_, gm, F.kp, rn_pos (hot := false) (def_ok F sc__law_form fun cdv A outer s H E hr => jb__law_form G d__law_take d__law_small hr) rfl (F.bindsN fun _ _ _ _ _ _ us hl => match us, hl with | [_, _, _], _ => rfl)⟩
theorem jb__law_paper (G : Gs P K mg) (d__law_take : DefOk false P w K mg base ("_law_take" : Str) [] 2 g__law_take) (d__law_num : DefOk false P w K mg base ("_law_num" : Str) [] 2 g__law_num) {f : Addr} {cdv : Value} {A : Around} {outer : List PySem.Env} {s : Shared} {H : Hp} {E : XK} (hr : Room 2 (A.deeper (envOfC ("_law_paper" : Str) (defScope st__law_paper) s.heap.objs.size f cdv))) :
    JB (cxOf (L2N.CX P w) P w K mg base [("box" : Str), ("count" : Str), ("spot" : Str), ("paper" : Str), ("k" : Str), ("kind" : Str)] ("_law_paper" : Str) (defScope st__law_paper) f cdv A outer s H E) (wcE E) (defBody st__law_paper) m__law_paper :=
  (jb_cons (js_set (i := 3) sc__law_paper.nd rfl (Or.inl rfl) (je_lst ja_nil flen_nil))
  (jb_cons (js_forR1 (L2.passes_of rfl) rfl rfl G.free_range (ja_cons (je_var 1) ja_nil) (jg_name (i := 4) sc__law_paper.nd rfl (Or.inl rfl)) (jb_cons (js_set (i := 5) sc__law_paper.nd rfl (Or.inl rfl) (je_call d__law_take (hr.mono (by decide)) (L2N.takes_of rfl rfl rfl rfl) rfl (ja_cons (je_var 0) (ja_cons je_int ja_nil))))
  (jb_one (js_if (PW.pt (jw_and (jt_cmp opd_lt (je_var 5) je_int rfl) (jw_and1 (jt_cmp (opd_ne (huR hr)) (je_var 4) (je_var 2) rfl)))) (jb_one (js_expr (je_lm PySem.F.slot_list_append PySem.F.type_list_append mtd_append (je_var 3) (ja_cons (je_tup (ja_cons je_int (ja_cons je_int ja_nil)) (flen_cons (flen_cons flen_nil))) ja_nil)))) (jb_one (js_if (jt_cmp (opd_eq (huR hr)) (je_var 5) je_int rfl) (jb_one (js_expr (je_lm PySem.F.slot_list_append PySem.F.type_list_append mtd_append (je_var 3) (ja_cons (je_tup (ja_cons (je_op opd_add je_int (je_call d__law_take (hr.mono (by decide)) (L2N.takes_of rfl rfl rfl rfl) rfl (ja_cons (je_var 0) (ja_cons (je_op opd_pow je_int je_int) ja_nil)))) (ja_cons je_int ja_nil)) (flen_cons (flen_cons flen_nil))) ja_nil)))) (jb_one (js_expr (je_lm PySem.F.slot_list_append PySem.F.type_list_append mtd_append (je_var 3) (ja_cons (je_call d__law_num (hr.mono (by decide)) (L2N.takes_of rfl rfl rfl rfl) rfl (ja_cons (je_op opd_add je_int (je_call d__law_take (hr.mono (by decide)) (L2N.takes_of rfl rfl rfl rfl) rfl (ja_cons (je_var 0) (ja_cons je_int ja_nil)))) (ja_cons (je_op opd_add je_int (je_call d__law_take (hr.mono (by decide)) (L2N.takes_of rfl rfl rfl rfl) rfl (ja_cons (je_var 0) (ja_cons je_int ja_nil)))) ja_nil))) ja_nil))))))))))
  (jb_one (js_ret (je_callTy cad_tuple rfl G.free_tuple bt_tuple (ja_cons (je_var 3) ja_nil))))))
theorem d__law_paper (G : Gs P K mg) (d__law_take : DefOk false P w K mg base ("_law_take" : Str) [] 2 g__law_take) (d__law_num : DefOk false P w K mg base ("_law_num" : Str) [] 2 g__law_num) (gm : mg ("_law_paper" : Str) = some (.ref (He.fAd K (("_law_paper" : Str), none)))) {fd : FuncData} (F : FunD K ("_law_paper" : Str) ("_law_paper" : Str) (defArgs st__law_paper) (defBody st__law_paper) (defScope st__law_paper) [] [] (He.fAd K (("_law_paper" : Str), none)) fd) : DefOk false P w K mg base ("_law_paper" : Str) [] 3 g__law_paper :=
  ⟨_, gm, F.kp, rn_pos (hot := false) (def_ok F sc__law_paper fun cdv A outer s H E hr => jb__law_paper G d__law_take d__law_num hr) rfl (F.bindsN fun _ _ _ _ _ _ us hl => match us, hl with | [_, _, _], _ => rfl)⟩
theorem jb__law_put (G : Gs P K mg)  {f : Addr} {cdv : Value} {A : Around} {outer : List PySem.Env} {s : Shared} {H : Hp} {E : XK} (hr : Room 0 (A.deeper (envOfC ("_law_put" : Str) (defScope st__law_put) s.heap.objs.size f cdv))) :
    JB (cxOf (L2N.CX P w) P w K mg base [("paper" : Str), ("k" : Str), ("thing" : Str)] ("_law_put" : Str) (defScope st__law_put) f cdv A outer s H E) (wcE E) (defBody st__law_put) m__law_put :=
  (jb_one (js_ret (je_op opd_add (je_op opd_add (je_sl sld (je_var 0) jo_no (jo_part (je_var 1))) (je_tup (ja_cons (je_var 2) ja_nil) (flen_cons flen_nil))) (je_sl sld (je_var 0) (jo_part (je_op opd_add (je_var 1) je_int)) jo_no))))
theorem d__law_put (G : Gs P K mg)  (gm : mg ("_law_put" : Str) = some (.ref (He.fAd K (("_law_put" : Str), none)))) {fd : FuncData} (F : FunD K ("_law_put" : Str) ("_law_put" : Str) (defArgs st__law_put) (defBody st__law_put) (defScope st__law_put) [] [] (He.fAd K (("_law_put" : Str), none)) fd) : DefOk false P w K mg base ("_law_put" : Str) [] 1 g__law_put :=
  ⟨_, gm, F.kp, rn_pos (hot := false) (def_ok F sc__law_put fun cdv A outer s H E hr => jb__law_put G  hr) rfl (F.bindsN fun _ _ _ _ _ _ us hl => match us, hl with | [_, _, _], _ => rfl)⟩
theorem jb__law_scaled (G : Gs P K mg) (d__law_mul : DefOk false P w K mg base ("_law_mul" : Str) [] 3 g__law_mul) {f : Addr} {cdv : Value} {A : Around} {outer : List PySem.Env} {s : Shared} {H : Hp} {E : XK} (hr : Room 3 (A.deeper (envOfC ("_law_scaled" : Str) (defScope st__law_scaled) s.heap.objs.size f cdv))) :
    JB (cxOf (L2N.CX P w) P w K mg base [("paper" : Str), ("number" : Str), ("one" : Str)] ("_law_scaled" : Str) (defScope st__law_scaled) f cdv A outer s H E) (wcE E) (defBody st__law_scaled) m__law_scaled :=
  (jb_one (js_ret (je_callTy cad_tuple rfl G.free_tuple bt_tuple (ja_cons (je_lc [(("one" : Str), 2)] rfl rfl sc__law_scaled.nd (ji_seq (je_var 0)) (blkOk_by (N := [("paper" : Str), ("number" : Str), ("one" : Str)]) (sc := defScope st__law_scaled) (own := [(("one" : Str), 2)]) (by decide +kernel)) (fun _ _ _ _ _ => (jgw_name (i := 2) sc__law_scaled.nd rfl (by decide))) (fun _ _ _ _ _ => jts_nil) (fun _ _ _ _ _ => (je_call d__law_mul (hr.mono (by decide)) takes_no rfl (ja_cons (je_var 2) (ja_cons (je_var 1) ja_nil))))) ja_nil))))
theorem d__law_scaled (G : Gs P K mg) (d__law_mul : DefOk false P w K mg base ("_law_mul" : Str) [] 3 g__law_mul) (gm : mg ("_law_scaled" : Str) = some (.ref (He.fAd K (("_law_scaled" : Str), none)))) {fd : FuncData} (F : FunD K ("_law_scaled" : Str) ("_law_scaled" : Str) (defArgs st__law_scaled) (defBody st__law_scaled) (defScope st__law_scaled) [] [] (He.fAd K (("_law_scaled" : Str), none)) fd) : DefOk false P w K mg base ("_law_scaled" : Str) [] 4 g__law_scaled :=
  ⟨_, gm, F.kp, rn_pos (hot := false) (def_ok F sc__law_scaled fun cdv A outer s H E hr => jb__law_scaled G d__law_mul hr) rfl (F.bindsN fun _ _ _ _ _ _ us hl => match us, hl with | [_, _], _ => rfl)⟩
theorem jb__law_bent (G : Gs P K mg) (d__law_take : DefOk false P w K mg base ("_law_take" : Str) [] 2 g__law_take) (d__law_num : DefOk false P w K mg base ("_law_num" : Str) [] 2 g__law_num) (d__law_add : DefOk false P w K mg base ("_law_add" : Str) [] 3 g__law_add) (d__law_neg : DefOk false P w K mg base ("_law_neg" : Str) [] 1 g__law_neg) (d__law_put : DefOk false P w K mg base ("_law_put" : Str) [] 1 g__law_put) (d__law_scaled : DefOk false P w K mg base ("_law_scaled" : Str) [] 4 g__law_scaled) {f : Addr} {cdv : Value} {A : Around} {outer : List PySem.Env} {s : Shared} {H : Hp} {E : XK} (hr : Room 4 (A.deeper (envOfC ("_law_bent" : Str) (defScope st__law_bent) s.heap.objs.size f cdv))) :
    JB (cxOf (L2N.CX P w) P w K mg base [("box" : Str), ("paper" : Str), ("spot" : Str), ("k" : Str), ("one" : Str), ("more" : Str), ("unit" : Str), ("papers" : Str), ("thing" : Str), ("place" : Str), ("j" : Str)] ("_law_bent" : Str) (defScope st__law_bent) f cdv A outer s H E) (wcE E) (defBody st__law_bent) m__law_bent :=
  (jb_cons (js_set (i := 3) sc__law_bent.nd rfl (Or.inl rfl) (je_call d__law_take (hr.mono (by decide)) (L2N.takes_of rfl rfl rfl rfl) rfl (ja_cons (je_var 0) (ja_cons (je_callB cad_len rfl G.free_len bt_len (ja_cons (je_var 1) ja_nil)) ja_nil))))
  (jb_cons (js_set (i := 4) sc__law_bent.nd rfl (Or.inl rfl) (je_ix ixd (je_var 1) (je_var 3)))
  (jb_cons (js_set (i := 5) sc__law_bent.nd rfl (Or.inl rfl) (je_op opd_add je_int (je_call d__law_take (hr.mono (by decide)) (L2N.takes_of rfl rfl rfl rfl) rfl (ja_cons (je_var 0) (ja_cons je_int ja_nil)))))
  (jb_cons (js_set (i := 6) sc__law_bent.nd rfl (Or.inl rfl) (je_call d__law_scaled (hr.mono (by decide)) (L2N.takes_of rfl rfl rfl rfl) rfl (ja_cons (je_var 1) (ja_cons (je_call d__law_num (hr.mono (by decide)) (L2N.takes_of rfl rfl rfl rfl) rfl (ja_cons (je_ix ixd (je_ix ixd (je_var 1) (je_var 2)) je_int) (ja_cons (je_ix ixd (je_ix ixd (je_var 1) (je_var 2)) je_int) ja_nil))) ja_nil))))
  (jb_cons (js_set (i := 7) sc__law_bent.nd rfl (Or.inl rfl) (je_lst (ja_cons (je_var 1) (ja_cons (je_var 6) (ja_cons (je_call d__law_scaled (hr.mono (by decide)) (L2N.takes_of rfl rfl rfl rfl) rfl (ja_cons (je_var 1) (ja_cons (je_call d__law_num (hr.mono (by decide)) (L2N.takes_of rfl rfl rfl rfl) rfl (ja_cons (je_op opd_add je_int (je_call d__law_take (hr.mono (by decide)) (L2N.takes_of rfl rfl rfl rfl) rfl (ja_cons (je_var 0) (ja_cons je_int ja_nil)))) (ja_cons (je_op opd_add je_int (je_call d__law_take (hr.mono (by decide)) (L2N.takes_of rfl rfl rfl rfl) rfl (ja_cons (je_var 0) (ja_cons je_int ja_nil)))) ja_nil))) ja_nil))) ja_nil))) (flen_cons (flen_cons (flen_cons flen_nil)))))
  (jb_cons (js_for (L2.passes_of rfl) rfl (je_lst (ja_cons (je_tup (ja_cons je_bl (ja_cons je_int ja_nil)) (flen_cons (flen_cons flen_nil))) (ja_cons (je_tup (ja_cons je_int (ja_cons je_bl ja_nil)) (flen_cons (flen_cons flen_nil))) (ja_cons je_int (ja_cons je_bl ja_nil)))) (flen_cons (flen_cons (flen_cons (flen_cons flen_nil))))) (jg_name (i := 8) sc__law_bent.nd rfl (Or.inl rfl)) (jb_one (js_expr (je_lm PySem.F.slot_list_append PySem.F.type_list_append mtd_append (je_var 7) (ja_cons (je_call d__law_put (hr.mono (by decide)) (L2N.takes_of rfl rfl rfl rfl) rfl (ja_cons (je_var 6) (ja_cons (je_var 2) (ja_cons (je_var 8) ja_nil)))) ja_nil)))))
  (jb_cons (js_for (L2.passes_of rfl) rfl (je_sl sld (je_lc [(("j" : Str), 10)] rfl rfl sc__law_bent.nd (ji_rng1 rfl G.free_range (ja_cons (je_callB cad_len rfl G.free_len bt_len (ja_cons (je_var 1) ja_nil)) ja_nil)) (blkOk_by (N := [("box" : Str), ("paper" : Str), ("spot" : Str), ("k" : Str), ("one" : Str), ("more" : Str), ("unit" : Str), ("papers" : Str), ("thing" : Str), ("place" : Str), ("j" : Str)]) (sc := defScope st__law_bent) (own := [(("j" : Str), 10)]) (by decide +kernel)) (fun _ _ _ _ _ => (jgw_name (i := 10) sc__law_bent.nd rfl (by decide))) (fun _ _ _ _ _ => (jts_one (jt_cmp (opd_eq (huR hr)) (je_ix ixd (je_ix ixd (je_var 1) (je_var 10)) je_int) je_int rfl))) (fun _ _ _ _ _ => (je_var 10))) jo_no (jo_part je_int)) (jg_name (i := 9) sc__law_bent.nd rfl (Or.inl rfl)) (jb_one (js_for (L2.passes_of rfl) rfl (je_lst (ja_cons (je_tup (ja_cons je_bl (ja_cons je_int ja_nil)) (flen_cons (flen_cons flen_nil))) (ja_cons (je_tup (ja_cons je_int (ja_cons je_int ja_nil)) (flen_cons (flen_cons flen_nil))) (ja_cons (je_tup (ja_cons je_int (ja_cons (je_un und_neg je_int) ja_nil)) (flen_cons (flen_cons flen_nil))) (ja_cons je_int ja_nil)))) (flen_cons (flen_cons (flen_cons (flen_cons flen_nil))))) (jg_name (i := 8) sc__law_bent.nd rfl (Or.inl rfl)) (jb_one (js_expr (je_lm PySem.F.slot_list_append PySem.F.type_list_append mtd_append (je_var 7) (ja_cons (je_call d__law_put (hr.mono (by decide)) (L2N.takes_of rfl rfl rfl rfl) rfl (ja_cons (je_var 1) (ja_cons (je_var 9) (ja_cons (je_var 8) ja_nil)))) ja_nil)))))))
  (jb_cons (js_expr (je_lm PySem.F.slot_list_append PySem.F.type_list_append mtd_append (je_var 7) (ja_cons (je_call d__law_put (hr.mono (by decide)) (L2N.takes_of rfl rfl rfl rfl) rfl (ja_cons (je_var 1) (ja_cons (je_var 3) (ja_cons (je_tup (ja_cons (je_op opd_mul (je_ix ixd (je_var 4) je_int) (je_var 5)) (ja_cons (je_op opd_mul (je_ix ixd (je_var 4) je_int) (je_var 5)) ja_nil)) (flen_cons (flen_cons flen_nil))) ja_nil)))) ja_nil)))
  (jb_cons (js_expr (je_lm PySem.F.slot_list_append PySem.F.type_list_append mtd_append (je_var 7) (ja_cons (je_call d__law_put (hr.mono (by decide)) (L2N.takes_of rfl rfl rfl rfl) rfl (ja_cons (je_var 1) (ja_cons (je_var 3) (ja_cons (je_tup (ja_cons (je_un und_neg (je_ix ixd (je_var 4) je_int)) (ja_cons (je_un und_neg (je_ix ixd (je_var 4) je_int)) ja_nil)) (flen_cons (flen_cons flen_nil))) ja_nil)))) ja_nil)))
  (jb_cons (js_expr (je_lm PySem.F.slot_list_append PySem.F.type_list_append mtd_append (je_var 7) (ja_cons (je_call d__law_put (hr.mono (by decide)) (L2N.takes_of rfl rfl rfl rfl) rfl (ja_cons (je_var 1) (ja_cons (je_var 3) (ja_cons (je_lst (ja_cons (je_ix ixd (je_var 4) je_int) (ja_cons (je_ix ixd (je_var 4) je_int) ja_nil)) (flen_cons (flen_cons flen_nil))) ja_nil)))) ja_nil)))
  (jb_cons (js_expr (je_lm PySem.F.slot_list_append PySem.F.type_list_append mtd_append (je_var 7) (ja_cons (je_call d__law_put (hr.mono (by decide)) (L2N.takes_of rfl rfl rfl rfl) rfl (ja_cons (je_var 1) (ja_cons (je_var 3) (ja_cons (je_tup (ja_cons (je_ix ixd (je_var 4) je_int) (ja_cons (je_ix ixd (je_var 4) je_int) (ja_cons je_int ja_nil))) (flen_cons (flen_cons (flen_cons flen_nil)))) ja_nil)))) ja_nil)))
  (jb_cons (js_expr (je_lm PySem.F.slot_list_append PySem.F.type_list_append mtd_append (je_var 7) (ja_cons (je_call d__law_put (hr.mono (by decide)) (L2N.takes_of rfl rfl rfl rfl) rfl (ja_cons (je_var 1) (ja_cons (je_var 3) (ja_cons (je_ix ixd (je_lst (ja_cons je_non (ja_cons je_str (ja_cons (je_tup ja_nil flen_nil) (ja_cons (je_tup (ja_cons (je_var 4) ja_nil) (flen_cons flen_nil)) (ja_cons (je_tup (ja_cons je_int (ja_cons je_int ja_nil)) (flen_cons (flen_cons flen_nil))) (ja_cons (je_tup (ja_cons je_int (ja_cons je_int ja_nil)) (flen_cons (flen_cons flen_nil))) ja_nil)))))) (flen_cons (flen_cons (flen_cons (flen_cons (flen_cons (flen_cons flen_nil))))))) (je_call d__law_take (hr.mono (by decide)) (L2N.takes_of rfl rfl rfl rfl) rfl (ja_cons (je_var 0) (ja_cons je_int ja_nil)))) ja_nil)))) ja_nil)))
  (jb_cons (js_expr (je_lm PySem.F.slot_list_append PySem.F.type_list_append mtd_append (je_var 7) (ja_cons (je_call d__law_put (hr.mono (by decide)) (L2N.takes_of rfl rfl rfl rfl) rfl (ja_cons (je_var 1) (ja_cons (je_var 3) (ja_cons (je_call d__law_add (hr.mono (by decide)) (L2N.takes_of rfl rfl rfl rfl) rfl (ja_cons (je_var 4) (ja_cons (je_tup (ja_cons je_int (ja_cons je_int ja_nil)) (flen_cons (flen_cons flen_nil))) ja_nil))) ja_nil)))) ja_nil)))
  (jb_cons (js_expr (je_lm PySem.F.slot_list_append PySem.F.type_list_append mtd_append (je_var 7) (ja_cons (je_call d__law_put (hr.mono (by decide)) (L2N.takes_of rfl rfl rfl rfl) rfl (ja_cons (je_var 1) (ja_cons (je_var 3) (ja_cons (je_call d__law_neg (hr.mono (by decide)) (L2N.takes_of rfl rfl rfl rfl) rfl (ja_cons (je_var 4) ja_nil)) ja_nil)))) ja_nil)))
  (jb_cons (js_expr (je_lm PySem.F.slot_list_append PySem.F.type_list_append mtd_append (je_var 7) (ja_cons (je_call d__law_put (hr.mono (by decide)) (L2N.takes_of rfl rfl rfl rfl) rfl (ja_cons (je_var 1) (ja_cons (je_var 2) (ja_cons (je_tup (ja_cons je_int (ja_cons je_int ja_nil)) (flen_cons (flen_cons flen_nil))) ja_nil)))) ja_nil)))
  (jb_cons (js_expr (je_lm PySem.F.slot_list_append PySem.F.type_list_append mtd_append (je_var 7) (ja_cons (je_call d__law_scaled (hr.mono (by decide)) (L2N.takes_of rfl rfl rfl rfl) rfl (ja_cons (je_var 1) (ja_cons (je_tup (ja_cons (je_un und_neg je_int) (ja_cons je_int ja_nil)) (flen_cons (flen_cons flen_nil))) ja_nil))) ja_nil)))
  (jb_cons (js_expr (je_lm PySem.F.slot_list_append PySem.F.type_list_append mtd_append (je_var 7) (ja_cons (je_call d__law_scaled (hr.mono (by decide)) (L2N.takes_of rfl rfl rfl rfl) rfl (ja_cons (je_var 1) (ja_cons (je_tup (ja_cons je_int (ja_cons je_int ja_nil)) (flen_cons (flen_cons flen_nil))) ja_nil))) ja_nil)))
  (jb_cons (js_expr (je_lm PySem.F.slot_list_append PySem.F.type_list_append mtd_append (je_var 7) (ja_cons (je_callTy cad_list rfl G.free_list bt_list (ja_cons (je_var 1) ja_nil)) ja_nil)))
  (jb_cons (js_expr (je_lm PySem.F.slot_list_append PySem.F.type_list_append mtd_append (je_var 7) (ja_cons (je_sl sld (je_var 1) jo_no (jo_part (je_un und_neg je_int))) ja_nil)))
  (jb_cons (js_expr (je_lm PySem.F.slot_list_append PySem.F.type_list_append mtd_append (je_var 7) (ja_cons (je_op opd_add (je_var 1) (je_tup (ja_cons (je_tup (ja_cons je_int (ja_cons je_int ja_nil)) (flen_cons (flen_cons flen_nil))) ja_nil) (flen_cons flen_nil))) ja_nil)))
  (jb_cons (js_expr (je_lm PySem.F.slot_list_append PySem.F.type_list_append mtd_append (je_var 7) (ja_cons (je_rv (je_var 1) (je_un und_neg je_int)) ja_nil)))
  (jb_cons (js_expr (je_lm PySem.F.slot_list_append PySem.F.type_list_append mtd_append (je_var 7) (ja_cons (je_ix ixd (je_lst (ja_cons je_non (ja_cons je_int (ja_cons (je_tup ja_nil flen_nil) (ja_cons (je_lst ja_nil flen_nil) (ja_cons je_str (ja_cons je_bl (ja_cons (je_tup (ja_cons (je_tup (ja_cons je_int (ja_cons je_int ja_nil)) (flen_cons (flen_cons flen_nil))) (ja_cons je_int ja_nil)) (flen_cons (flen_cons flen_nil))) (ja_cons (je_tup (ja_cons (je_var 1) ja_nil) (flen_cons flen_nil)) ja_nil)))))))) (flen_cons (flen_cons (flen_cons (flen_cons (flen_cons (flen_cons (flen_cons (flen_cons flen_nil))))))))) (je_call d__law_take (hr.mono (by decide)) (L2N.takes_of rfl rfl rfl rfl) rfl (ja_cons (je_var 0) (ja_cons je_int ja_nil)))) ja_nil)))
  (jb_one (js_ret (je_var 7)))))))))))))))))))))))))
theorem d__law_bent (G : Gs P K mg) (d__law_take : DefOk false P w K mg base ("_law_take" : Str) [] 2 g__law_take) (d__law_num : DefOk false P w K mg base ("_law_num" : Str) [] 2 g__law_num) (d__law_add : DefOk false P w K mg base ("_law_add" : Str) [] 3 g__law_add) (d__law_neg : DefOk false P w K mg base ("_law_neg" : Str) [] 1 g__law_neg) (d__law_put : DefOk false P w K mg base ("_law_put" : Str) [] 1 g__law_put) (d__law_scaled : DefOk false P w K mg base ("_law_scaled" : Str) [] 4 g__law_scaled) (gm : mg ("_law_bent" : Str) = some (.ref (He.fAd K (("_law_bent" : Str), none)))) {fd : FuncData} (F : FunD K ("_law_bent" : Str) ("_law_bent" : Str) (defArgs st__law_bent) (defBody st__law_bent) (defScope st__law_bent) [] [] (He.fAd K (("_law_bent" : Str), none)) fd) : DefOk false P w K mg base ("_law_bent" : Str) [] 5 g__law_bent :=
  ⟨_, gm, F.kp, rn_pos (hot := false) (def_ok F sc__law_bent fun cdv A outer s H E hr => jb__law_bent G d__law_take d__law_num d__law_add d__law_neg d__law_put d__law_scaled hr) rfl (F.bindsN fun _ _ _ _ _ _ us hl => match us, hl with | [_, _, _], _ => rfl)⟩
theorem jb_sign (G : Gs P K mg)  {f : Addr} {cdv : Value} {A : Around} {outer : List PySem.Env} {s : Shared} {H : Hp} {E : XK} (hr : Room 0 (A.deeper (envOfC ("sign" : Str) (defScope st_sign) s.heap.objs.size f cdv))) :
    JB (cxOf (L2N.CX P w) P w K mg base [("a" : Str)] ("sign" : Str) (defScope st_sign) f cdv A outer s H E) (wcE E) (defBody st_sign) m_sign :=
  (jb_cons (js_if (jt_cmp opd_gt (je_ix ixd (je_var 0) je_int) je_int rfl) (jb_one (js_ret je_int)) jb_nil)
  (jb_cons (js_if (jt_cmp opd_lt (je_ix ixd (je_var 0) je_int) je_int rfl) (jb_one (js_ret (je_un und_neg je_int))) jb_nil)
  (jb_one (js_ret je_int))))
theorem d_sign (G : Gs P K mg)  (gm : mg ("sign" : Str) = some (.ref (He.fAd K (("sign" : Str), none)))) {fd : FuncData} (F : FunD K ("sign" : Str) ("sign" : Str) (defArgs st_sign) (defBody st_sign) (defScope st_sign) [] [] (He.fAd K (("sign" : Str), none)) fd) : DefOk false P w K mg base ("sign" : Str) [] 1 g_sign :=
  ⟨_, gm, F.kp, rn_pos (hot := false) (def_ok F sc_sign fun cdv A outer s H E hr => jb_sign G  hr) rfl (F.bindsN fun _ _ _ _ _ _ us hl => match us, hl with | [_], _ => rfl)⟩
theorem jb_ratio (G : Gs P K mg)  {f : Addr} {cdv : Value} {A : Around} {outer : List PySem.Env} {s : Shared} {H : Hp} {E : XK} (hr : Room 0 (A.deeper (envOfC ("ratio" : Str) (defScope st_ratio) s.heap.objs.size f cdv))) :
    JB (cxOf (L2N.CX P w) P w K mg base [("top" : Str), ("bottom" : Str), ("divisor" : Str)] ("ratio" : Str) (defScope st_ratio) f cdv A outer s H E) (wcE E) (defBody st_ratio) m_ratio :=
  (jb_cons (js_if (jt_cmp (opd_eq (huR hr)) (je_var 1) je_int rfl) (jb_one (js_raise rfl G.exc_BadNumber fn_BadNumber hr (L2N.takes_of rfl rfl rfl rfl) (ja_cons (je_var 1) ja_nil) rfl)) jb_nil)
  (jb_cons (js_if (jt_cmp opd_lt (je_var 1) je_int rfl) (jb_one (js_par (i := 0) (j := 1) rfl sc_ratio.nd rfl rfl (by decide) rfl rfl (ja_cons (je_un und_neg (je_var 0)) (ja_cons (je_un und_neg (je_var 1)) ja_nil)) rfl)) jb_nil)
  (jb_cons (js_set (i := 2) sc_ratio.nd rfl (Or.inl rfl) (je_callBfun cad_gcd rfl G.blt_gcd (ja_cons (je_var 0) (ja_cons (je_var 1) ja_nil))))
  (jb_one (js_ret (je_tup (ja_cons (je_op opd_div (je_var 0) (je_var 2)) (ja_cons (je_op opd_div (je_var 1) (je_var 2)) ja_nil)) (flen_cons (flen_cons flen_nil))))))))
theorem d_ratio (G : Gs P K mg)  (gm : mg ("ratio" : Str) = some (.ref (He.fAd K (("ratio" : Str), none)))) {fd : FuncData} (F : FunD K ("ratio" : Str) ("ratio" : Str) (defArgs st_ratio) (defBody st_ratio) (defScope st_ratio) [.int 1] [] (He.fAd K (("ratio" : Str), none)) fd) : DefOk false P w K mg base ("ratio" : Str) [] 1 g_ratio :=
  ⟨_, gm, F.kp, rn_dfl (hot := false) (def_ok F sc_ratio fun cdv A outer s H E hr => jb_ratio G  hr) rfl (by decide) (fun _ _ _ => ⟨_, _, rfl, rfl, rfl⟩) (fun j hj => match j, hj with
    | 0, _ => F.binds1 1 0 (by simp) rfl (fun _ _ _ _ _ _ _ us its hl hi => match us, its, hl, hi with | [_], [_], _, _ => ⟨_, rfl, rfl⟩)
    | 1, _ => F.binds1 2 1 (by simp) rfl (fun _ _ _ _ _ _ _ us its hl hi => match us, its, hl, hi with | [_, _], [_], _, _ => ⟨_, rfl, rfl⟩)
    | j + 2, h => absurd h (by simp))⟩
theorem jb_times (G : Gs P K mg) (d_ratio : DefOk false P w K mg base ("ratio" : Str) [] 1 g_ratio) {f : Addr} {cdv : Value} {A : Around} {outer : List PySem.Env} {s : Shared} {H : Hp} {E : XK} (hr : Room 1 (A.deeper (envOfC ("times" : Str) (defScope st_times) s.heap.objs.size f cdv))) :
    JB (cxOf (L2N.CX P w) P w K mg base [("a" : Str), ("b" : Str)] ("times" : Str) (defScope st_times) f cdv A outer s H E) (wcE E) (defBody st_times) m_times :=
  (jb_one (js_ret (je_call d_ratio (hr.mono (by decide)) (L2N.takes_of rfl rfl rfl rfl) rfl (ja_cons (je_op opd_mul (je_ix ixd (je_var 0) je_int) (je_ix ixd (je_var 1) je_int)) (ja_cons (je_op opd_mul (je_ix ixd (je_var 0) je_int) (je_ix ixd (je_var 1) je_int)) ja_nil)))))
theorem d_times (G : Gs P K mg) (d_ratio : DefOk false P w K mg base ("ratio" : Str) [] 1 g_ratio) (gm : mg ("times" : Str) = some (.ref (He.fAd K (("times" : Str), none)))) {fd : FuncData} (F : FunD K ("times" : Str) ("times" : Str) (defArgs st_times) (defBody st_times) (defScope st_times) [] [] (He.fAd K (("times" : Str), none)) fd) : DefOk false P w K mg base ("times" : Str) [] 2 g_times :=
  ⟨_, gm, F.kp, rn_pos (hot := false) (def_ok F sc_times fun cdv A outer s H E hr => jb_times G d_ratio hr) rfl (F.bindsN fun _ _ _ _ _ _ us hl => match us, hl with | [_, _], _ => rfl)⟩
theorem jb_form_times (G : Gs P K mg) (d_times : DefOk false P w K mg base ("times" : Str) [] 2 g_times) {f : Addr} {cdv : Value} {A : Around} {outer : List PySem.Env} {s : Shared} {H : Hp} {E : XK} (hr : Room 2 (A.deeper (envOfC ("form_times" : Str) (defScope st_form_times) s.heap.objs.size f cdv))) :
    JB (cxOf (L2N.CX P w) P w K mg base [("form" : Str), ("number" : Str), ("coefficient" : Str)] ("form_times" : Str) (defScope st_form_times) f cdv A outer s H E) (wcE E) (defBody st_form_times) m_form_times :=
  (jb_one (js_ret (je_callTy cad_tuple rfl G.free_tuple bt_tuple (ja_cons (je_lc [(("coefficient" : Str), 2)] rfl rfl sc_form_times.nd (ji_seq (je_var 0)) (blkOk_by (N := [("form" : Str), ("number" : Str), ("coefficient" : Str)]) (sc := defScope st_form_times) (own := [(("coefficient" : Str), 2)]) (by decide +kernel)) (fun _ _ _ _ _ => (jgw_name (i := 2) sc_form_times.nd rfl (by decide))) (fun _ _ _ _ _ => jts_nil) (fun _ _ _ _ _ => (je_call d_times (hr.mono (by decide)) takes_no rfl (ja_cons (je_var 2) (ja_cons (je_var 1) ja_nil))))) ja_nil))))
theorem d_form_times (G : Gs P K mg) (d_times : DefOk false P w K mg base ("times" : Str) [] 2 g_times) (gm : mg ("form_times" : Str) = some (.ref (He.fAd K (("form_times" : Str), none)))) {fd : FuncData} (F : FunD K ("form_times" : Str) ("form_times" : Str) (defArgs st_form_times) (defBody st_form_times) (defScope st_form_times) [] [] (He.fAd K (("form_times" : Str), none)) fd) : DefOk false P w K mg base ("form_times" : Str) [] 3 g_form_times :=
  ⟨_, gm, F.kp, rn_pos (hot := false) (def_ok F sc_form_times fun cdv A outer s H E hr => jb_form_times G d_times hr) rfl (F.bindsN fun _ _ _ _ _ _ us hl => match us, hl with | [_, _], _ => rfl)⟩
theorem jb_flat (G : Gs P K mg)  {f : Addr} {cdv : Value} {A : Around} {outer : List PySem.Env} {s : Shared} {H : Hp} {E : XK} (hr : Room 0 (A.deeper (envOfC ("flat" : Str) (defScope st_flat) s.heap.objs.size f cdv))) :
    JB (cxOf (L2N.CX P w) P w K mg base [("number" : Str), ("size" : Str)] ("flat" : Str) (defScope st_flat) f cdv A outer s H E) (wcE E) (defBody st_flat) m_flat :=
  (jb_one (js_ret (je_op opd_add (je_tup (ja_cons (je_var 0) ja_nil) (flen_cons flen_nil)) (je_op opd_mulT (je_tup (ja_cons (je_kd G.const_ZERO rfl) ja_nil) (flen_cons flen_nil)) (je_var 1)))))
theorem d_flat (G : Gs P K mg)  (gm : mg ("flat" : Str) = some (.ref (He.fAd K (("flat" : Str), none)))) {fd : FuncData} (F : FunD K ("flat" : Str) ("flat" : Str) (defArgs st_flat) (defBody st_flat) (defScope st_flat) [] [] (He.fAd K (("flat" : Str), none)) fd) : DefOk false P w K mg base ("flat" : Str) [] 1 g_flat :=
  ⟨_, gm, F.kp, rn_pos (hot := false) (def_ok F sc_flat fun cdv A outer s H E hr => jb_flat G  hr) rfl (F.bindsN fun _ _ _ _ _ _ us hl => match us, hl with | [_, _], _ => rfl)⟩
theorem jb_plus (G : Gs P K mg) (d_ratio : DefOk false P w K mg base ("ratio" : Str) [] 1 g_ratio) {f : Addr} {cdv : Value} {A : Around} {outer : List PySem.Env} {s : Shared} {H : Hp} {E : XK} (hr : Room 1 (A.deeper (envOfC ("plus" : Str) (defScope st_plus) s.heap.objs.size f cdv))) :
    JB (cxOf (L2N.CX P w) P w K mg base [("a" : Str), ("b" : Str)] ("plus" : Str) (defScope st_plus) f cdv A outer s H E) (wcE E) (defBody st_plus) m_plus :=
  (jb_one (js_ret (je_call d_ratio (hr.mono (by decide)) (L2N.takes_of rfl rfl rfl rfl) rfl (ja_cons (je_op opd_add (je_op opd_mul (je_ix ixd (je_var 0) je_int) (je_ix ixd (je_var 1) je_int)) (je_op opd_mul (je_ix ixd (je_var 1) je_int) (je_ix ixd (je_var 0) je_int))) (ja_cons (je_op opd_mul (je_ix ixd (je_var 0) je_int) (je_ix ixd (je_var 1) je_int)) ja_nil)))))
theorem d_plus (G : Gs P K mg) (d_ratio : DefOk false P w K mg base ("ratio" : Str) [] 1 g_ratio) (gm : mg ("plus" : Str) = some (.ref (He.fAd K (("plus" : Str), none)))) {fd : FuncData} (F : FunD K ("plus" : Str) ("plus" : Str) (defArgs st_plus) (defBody st_plus) (defScope st_plus) [] [] (He.fAd K (("plus" : Str), none)) fd) : DefOk false P w K mg base ("plus" : Str) [] 2 g_plus :=
  ⟨_, gm, F.kp, rn_pos (hot := false) (def_ok F sc_plus fun cdv A outer s H E hr => jb_plus G d_ratio hr) rfl (F.bindsN fun _ _ _ _ _ _ us hl => match us, hl with | [_, _], _ => rfl)⟩
theorem jb_form_plus (G : Gs P K mg) (d_plus : DefOk false P w K mg base ("plus" : Str) [] 2 g_plus) {f : Addr} {cdv : Value} {A : Around} {outer : List PySem.Env} {s : Shared} {H : Hp} {E : XK} (hr : Room 2 (A.deeper (envOfC ("form_plus" : Str) (defScope st_form_plus) s.heap.objs.size f cdv))) :
    JB (cxOf (L2N.CX P w) P w K mg base [("a" : Str), ("b" : Str), ("one" : Str), ("other" : Str)] ("form_plus" : Str) (defScope st_form_plus) f cdv A outer s H E) (wcE E) (defBody st_form_plus) m_form_plus :=
  (jb_one (js_ret (je_callTy cad_tuple rfl G.free_tuple bt_tuple (ja_cons (je_lc [(("one" : Str), 2), (("other" : Str), 3)] rfl rfl sc_form_plus.nd (ji_zip2 rfl G.free_zip (ja_cons (je_var 0) (ja_cons (je_var 1) ja_nil))) (blkOk_by (N := [("a" : Str), ("b" : Str), ("one" : Str), ("other" : Str)]) (sc := defScope st_form_plus) (own := [(("one" : Str), 2), (("other" : Str), 3)]) (by decide +kernel)) (fun _ _ _ _ _ => (jgw_tup rfl (jgws_cons (jgw_name (i := 2) sc_form_plus.nd rfl (by decide)) (jgws_cons (jgw_name (i := 3) sc_form_plus.nd rfl (by decide)) jgws_nil)))) (fun _ _ _ _ _ => jts_nil) (fun _ _ _ _ _ => (je_call d_plus (hr.mono (by decide)) takes_no rfl (ja_cons (je_var 2) (ja_cons (je_var 3) ja_nil))))) ja_nil))))
theorem d_form_plus (G : Gs P K mg) (d_plus : DefOk false P w K mg base ("plus" : Str) [] 2 g_plus) (gm : mg ("form_plus" : Str) = some (.ref (He.fAd K (("form_plus" : Str), none)))) {fd : FuncData} (F : FunD K ("form_plus" : Str) ("form_plus" : Str) (defArgs st_form_plus) (defBody st_form_plus) (defScope st_form_plus) [] [] (He.fAd K (("form_plus" : Str), none)) fd) : DefOk false P w K mg base ("form_plus" : Str) [] 3 g_form_plus :=
  ⟨_, gm, F.kp, rn_pos (hot := false) (def_ok F sc_form_plus fun cdv A outer s H E hr => jb_form_plus G d_plus hr) rfl (F.bindsN fun _ _ _ _ _ _ us hl => match us, hl with | [_, _], _ => rfl)⟩
theorem jb_form_total (G : Gs P K mg) (d_flat : DefOk false P w K mg base ("flat" : Str) [] 1 g_flat) (d_form_plus : DefOk false P w K mg base ("form_plus" : Str) [] 3 g_form_plus) {f : Addr} {cdv : Value} {A : Around} {outer : List PySem.Env} {s : Shared} {H : Hp} {E : XK} (hr : Room 3 (A.deeper (envOfC ("form_total" : Str) (defScope st_form_total) s.heap.objs.size f cdv))) :
    JB (cxOf (L2N.CX P w) P w K mg base [("forms" : Str), ("size" : Str), ("result" : Str), ("form" : Str)] ("form_total" : Str) (defScope st_form_total) f cdv A outer s H E) (wcE E) (defBody st_form_total) m_form_total :=
  (jb_cons (js_set (i := 2) sc_form_total.nd rfl (Or.inl rfl) (je_call d_flat (hr.mono (by decide)) (L2N.takes_of rfl rfl rfl rfl) rfl (ja_cons (je_kd G.const_ZERO rfl) (ja_cons (je_var 1) ja_nil))))
  (jb_cons (js_for (L2.passes_of rfl) rfl (je_var 0) (jg_name (i := 3) sc_form_total.nd rfl (Or.inl rfl)) (jb_one (js_set (i := 2) sc_form_total.nd rfl (Or.inl rfl) (je_call d_form_plus (hr.mono (by decide)) (L2N.takes_of rfl rfl rfl rfl) rfl (ja_cons (je_var 2) (ja_cons (je_var 3) ja_nil))))))
  (jb_one (js_ret (je_var 2)))))
theorem d_form_total (G : Gs P K mg) (d_flat : DefOk false P w K mg base ("flat" : Str) [] 1 g_flat) (d_form_plus : DefOk false P w K mg base ("form_plus" : Str) [] 3 g_form_plus) (gm : mg ("form_total" : Str) = some (.ref (He.fAd K (("form_total" : Str), none)))) {fd : FuncData} (F : FunD K ("form_total" : Str) ("form_total" : Str) (defArgs st_form_total) (defBody st_form_total) (defScope st_form_total) [] [] (He.fAd K (("form_total" : Str), none)) fd) : DefOk false P w K mg base ("form_total" : Str) [] 4 g_form_total :=
  ⟨_, gm, F.kp, rn_pos (hot := false) (def_ok F sc_form_total fun cdv A outer s H E hr => jb_form_total G d_flat d_form_plus hr) rfl (F.bindsN fun _ _ _ _ _ _ us hl => match us, hl with | [_, _], _ => rfl)⟩
theorem jb__is_integer (G : Gs P K mg)  {f : Addr} {cdv : Value} {A : Around} {outer : List PySem.Env} {s : Shared} {H : Hp} {E : XK} (hr : Room 0 (A.deeper (envOfC ("_is_integer" : Str) (defScope st__is_integer) s.heap.objs.size f cdv))) :
    JB (cxOf (L2N.CX P w) P w K mg base [("value" : Str)] ("_is_integer" : Str) (defScope st__is_integer) f cdv A outer s H E) (wcE E) (defBody st__is_integer) m__is_integer :=
  (jb_one (js_ret (je_and (je_isi rfl G.free_isinstance rfl G.free_int bt_int (by decide) (je_var 0)) (je_one (je_not (je_isi rfl G.free_isinstance rfl G.free_bool bt_bool (by decide) (je_var 0)))))))
theorem d__is_integer (G : Gs P K mg)  (gm : mg ("_is_integer" : Str) = some (.ref (He.fAd K (("_is_integer" : Str), none)))) {fd : FuncData} (F : FunD K ("_is_integer" : Str) ("_is_integer" : Str) (defArgs st__is_integer) (defBody st__is_integer) (defScope st__is_integer) [] [] (He.fAd K (("_is_integer" : Str), none)) fd) : DefOk false P w K mg base ("_is_integer" : Str) [] 1 g__is_integer :=
  ⟨_, gm, F.kp, rn_pos (hot := false) (def_ok F sc__is_integer fun cdv A outer s H E hr => jb__is_integer G  hr) rfl (F.bindsN fun _ _ _ _ _ _ us hl => match us, hl with | [_], _ => rfl)⟩
theorem jb_is_number (G : Gs P K mg) (d__is_integer : DefOk false P w K mg base ("_is_integer" : Str) [] 1 g__is_integer) {f : Addr} {cdv : Value} {A : Around} {outer : List PySem.Env} {s : Shared} {H : Hp} {E : XK} (hr : Room 1 (A.deeper (envOfC ("is_number" : Str) (defScope st_is_number) s.heap.objs.size f cdv))) :
    JB (cxOf (L2N.CX P w) P w K mg base [("value" : Str), ("top" : Str), ("bottom" : Str)] ("is_number" : Str) (defScope st_is_number) f cdv A outer s H E) (wcE E) (defBody st_is_number) m_is_number :=
  (jb_cons (js_if (PW.pt (jw_or (jt_not (jt_tru (je_isi rfl G.free_isinstance rfl G.free_tuple bt_tuple (by decide) (je_var 0)))) (jw_or1 (jt_cmp (opd_ne (huR hr)) (je_callB cad_len rfl G.free_len bt_len (ja_cons (je_var 0) ja_nil)) je_int rfl)))) (jb_one (js_ret je_bl)) jb_nil)
  (jb_cons (js_asg (je_var 0) (jg_tup rfl (jgs_cons (jg_name (i := 1) sc_is_number.nd rfl (Or.inl rfl)) (jgs_cons (jg_name (i := 2) sc_is_number.nd rfl (Or.inl rfl)) jgs_nil))))
  (jb_cons (js_if (PW.pt (jw_or (jt_not (jt_tru (je_call d__is_integer (hr.mono (by decide)) (L2N.takes_of rfl rfl rfl rfl) rfl (ja_cons (je_var 1) ja_nil)))) (jw_or1 (jt_not (jt_tru (je_call d__is_integer (hr.mono (by decide)) (L2N.takes_of rfl rfl rfl rfl) rfl (ja_cons (je_var 2) ja_nil))))))) (jb_one (js_ret je_bl)) jb_nil)
  (jb_one (js_ret (je_and (je_cmp opd_ge (je_var 2) je_int rfl) (je_one (je_cmp (opd_eq (huR hr)) (je_callBfun cad_gcd rfl G.blt_gcd (ja_cons (je_var 1) (ja_cons (je_var 2) ja_nil))) je_int rfl))))))))
theorem d_is_number (G : Gs P K mg) (d__is_integer : DefOk false P w K mg base ("_is_integer" : Str) [] 1 g__is_integer) (gm : mg ("is_number" : Str) = some (.ref (He.fAd K (("is_number" : Str), none)))) {fd : FuncData} (F : FunD K ("is_number" : Str) ("is_number" : Str) (defArgs st_is_number) (defBody st_is_number) (defScope st_is_number) [] [] (He.fAd K (("is_number" : Str), none)) fd) : DefOk false P w K mg base ("is_number" : Str) [] 2 g_is_number :=
  ⟨_, gm, F.kp, rn_pos (hot := false) (def_ok F sc_is_number fun cdv A outer s H E hr => jb_is_number G d__is_integer hr) rfl (F.bindsN fun _ _ _ _ _ _ us hl => match us, hl with | [_], _ => rfl)⟩
theorem jb_is_form (G : Gs P K mg) (d_is_number : DefOk false P w K mg base ("is_number" : Str) [] 2 g_is_number) {f : Addr} {cdv : Value} {A : Around} {outer : List PySem.Env} {s : Shared} {H : Hp} {E : XK} (hr : Room 2 (A.deeper (envOfC ("is_form" : Str) (defScope st_is_form) s.heap.objs.size f cdv))) :
    JB (cxOf (L2N.CX P w) P w K mg base [("value" : Str), ("size" : Str), ("coefficient" : Str)] ("is_form" : Str) (defScope st_is_form) f cdv A outer s H E) (wcE E) (defBody st_is_form) m_is_form :=
  (jb_cons (js_if (PW.pt (jw_or (jt_not (jt_tru (je_isi rfl G.free_isinstance rfl G.free_tuple bt_tuple (by decide) (je_var 0)))) (jw_or1 (jt_cmp (opd_ne (huR hr)) (je_callB cad_len rfl G.free_len bt_len (ja_cons (je_var 0) ja_nil)) (je_op opd_add (je_var 1) je_int) rfl)))) (jb_one (js_ret je_bl)) jb_nil)
  (jb_one (js_ret (je_callB (cad_all rfl) rfl G.free_all bt_all (ja_cons (je_lc [(("coefficient" : Str), 2)] rfl rfl sc_is_form.nd (ji_seq (je_var 0)) (blkOk_by (N := [("value" : Str), ("size" : Str), ("coefficient" : Str)]) (sc := defScope st_is_form) (own := [(("coefficient" : Str), 2)]) (by decide +kernel)) (fun _ _ _ _ _ => (jgw_name (i := 2) sc_is_form.nd rfl (by decide))) (fun _ _ _ _ _ => jts_nil) (fun _ _ _ _ _ => (je_call d_is_number (hr.mono (by decide)) takes_no rfl (ja_cons (je_var 2) ja_nil)))) ja_nil)))))
theorem d_is_form (G : Gs P K mg) (d_is_number : DefOk false P w K mg base ("is_number" : Str) [] 2 g_is_number) (gm : mg ("is_form" : Str) = some (.ref (He.fAd K (("is_form" : Str), none)))) {fd : FuncData} (F : FunD K ("is_form" : Str) ("is_form" : Str) (defArgs st_is_form) (defBody st_is_form) (defScope st_is_form) [] [] (He.fAd K (("is_form" : Str), none)) fd) : DefOk false P w K mg base ("is_form" : Str) [] 3 g_is_form :=
  ⟨_, gm, F.kp, rn_pos (hot := false) (def_ok F sc_is_form fun cdv A outer s H E hr => jb_is_form G d_is_number hr) rfl (F.bindsN fun _ _ _ _ _ _ us hl => match us, hl with | [_, _], _ => rfl)⟩
theorem jb_is_fact (G : Gs P K mg) (d_is_form : DefOk false P w K mg base ("is_form" : Str) [] 3 g_is_form) {f : Addr} {cdv : Value} {A : Around} {outer : List PySem.Env} {s : Shared} {H : Hp} {E : XK} (hr : Room 3 (A.deeper (envOfC ("is_fact" : Str) (defScope st_is_fact) s.heap.objs.size f cdv))) :
    JB (cxOf (L2N.CX P w) P w K mg base [("value" : Str), ("size" : Str)] ("is_fact" : Str) (defScope st_is_fact) f cdv A outer s H E) (wcE E) (defBody st_is_fact) m_is_fact :=
  (jb_cons (js_if (PW.pt (jw_or (jt_not (jt_tru (je_isi rfl G.free_isinstance rfl G.free_tuple bt_tuple (by decide) (je_var 0)))) (jw_or1 (jt_cmp (opd_ne (huR hr)) (je_callB cad_len rfl G.free_len bt_len (ja_cons (je_var 0) ja_nil)) je_int rfl)))) (jb_one (js_ret je_bl)) jb_nil)
  (jb_one (js_ret (je_and (je_call d_is_form (hr.mono (by decide)) (L2N.takes_of rfl rfl rfl rfl) rfl (ja_cons (je_ix ixd (je_var 0) je_int) (ja_cons (je_var 1) ja_nil))) (je_one (je_isi rfl G.free_isinstance rfl G.free_bool bt_bool (by decide) (je_ix ixd (je_var 0) je_int)))))))
theorem d_is_fact (G : Gs P K mg) (d_is_form : DefOk false P w K mg base ("is_form" : Str) [] 3 g_is_form) (gm : mg ("is_fact" : Str) = some (.ref (He.fAd K (("is_fact" : Str), none)))) {fd : FuncData} (F : FunD K ("is_fact" : Str) ("is_fact" : Str) (defArgs st_is_fact) (defBody st_is_fact) (defScope st_is_fact) [] [] (He.fAd K (("is_fact" : Str), none)) fd) : DefOk false P w K mg base ("is_fact" : Str) [] 4 g_is_fact :=
  ⟨_, gm, F.kp, rn_pos (hot := false) (def_ok F sc_is_fact fun cdv A outer s H E hr => jb_is_fact G d_is_form hr) rfl (F.bindsN fun _ _ _ _ _ _ us hl => match us, hl with | [_, _], _ => rfl)⟩
theorem jb_check_region (G : Gs P K mg) (d_is_fact : DefOk false P w K mg base ("is_fact" : Str) [] 4 g_is_fact) {f : Addr} {cdv : Value} {A : Around} {outer : List PySem.Env} {s : Shared} {H : Hp} {E : XK} (hr : Room 4 (A.deeper (envOfC ("check_region" : Str) (defScope st_check_region) s.heap.objs.size f cdv))) :
    JB (cxOf (L2N.CX P w) P w K mg base [("facts" : Str), ("size" : Str), ("index" : Str), ("entry" : Str)] ("check_region" : Str) (defScope st_check_region) f cdv A outer s H E) (wcE E) (defBody st_check_region) m_check_region :=
  (jb_one (js_forI (L2.passes_of rfl) rfl (ji_enum2 rfl G.free_enumerate (ja_cons (je_var 0) ja_nil)) (jg_tup rfl (jgs_cons (jg_name (i := 2) sc_check_region.nd rfl (Or.inl rfl)) (jgs_cons (jg_name (i := 3) sc_check_region.nd rfl (Or.inl rfl)) jgs_nil))) (jb_one (js_if (jt_not (jt_tru (je_call d_is_fact (hr.mono (by decide)) (L2N.takes_of rfl rfl rfl rfl) rfl (ja_cons (je_var 3) (ja_cons (je_var 1) ja_nil))))) (jb_one (js_raise rfl G.exc_BadFacts fn_BadFacts hr (L2N.takes_of rfl rfl rfl rfl) (ja_cons (je_var 2) ja_nil) rfl)) jb_nil))))
theorem d_check_region (G : Gs P K mg) (d_is_fact : DefOk false P w K mg base ("is_fact" : Str) [] 4 g_is_fact) (gm : mg ("check_region" : Str) = some (.ref (He.fAd K (("check_region" : Str), none)))) {fd : FuncData} (F : FunD K ("check_region" : Str) ("check_region" : Str) (defArgs st_check_region) (defBody st_check_region) (defScope st_check_region) [] [] (He.fAd K (("check_region" : Str), none)) fd) : DefOk false P w K mg base ("check_region" : Str) [] 5 g_check_region :=
  ⟨_, gm, F.kp, rn_pos (hot := false) (def_ok F sc_check_region fun cdv A outer s H E hr => jb_check_region G d_is_fact hr) rfl (F.bindsN fun _ _ _ _ _ _ us hl => match us, hl with | [_, _], _ => rfl)⟩
theorem jb_are_multipliers (G : Gs P K mg) (d_is_number : DefOk false P w K mg base ("is_number" : Str) [] 2 g_is_number) (d_sign : DefOk false P w K mg base ("sign" : Str) [] 1 g_sign) {f : Addr} {cdv : Value} {A : Around} {outer : List PySem.Env} {s : Shared} {H : Hp} {E : XK} (hr : Room 2 (A.deeper (envOfC ("are_multipliers" : Str) (defScope st_are_multipliers) s.heap.objs.size f cdv))) :
    JB (cxOf (L2N.CX P w) P w K mg base [("value" : Str), ("count" : Str), ("entry" : Str)] ("are_multipliers" : Str) (defScope st_are_multipliers) f cdv A outer s H E) (wcE E) (defBody st_are_multipliers) m_are_multipliers :=
  (jb_cons (js_if (PW.pt (jw_or (jt_not (jt_tru (je_isi rfl G.free_isinstance rfl G.free_tuple bt_tuple (by decide) (je_var 0)))) (jw_or1 (jt_cmp (opd_ne (huR hr)) (je_callB cad_len rfl G.free_len bt_len (ja_cons (je_var 0) ja_nil)) (je_var 1) rfl)))) (jb_one (js_ret je_bl)) jb_nil)
  (jb_one (js_ret (je_callB (cad_all rfl) rfl G.free_all bt_all (ja_cons (je_lc [(("entry" : Str), 2)] rfl rfl sc_are_multipliers.nd (ji_seq (je_var 0)) (blkOk_by (N := [("value" : Str), ("count" : Str), ("entry" : Str)]) (sc := defScope st_are_multipliers) (own := [(("entry" : Str), 2)]) (by decide +kernel)) (fun _ _ _ _ _ => (jgw_name (i := 2) sc_are_multipliers.nd rfl (by decide))) (fun _ _ _ _ _ => jts_nil) (fun _ _ _ _ _ => (je_and (je_call d_is_number (hr.mono (by decide)) takes_no rfl (ja_cons (je_var 2) ja_nil)) (je_one (je_cmp opd_ge (je_call d_sign (hr.mono (by decide)) takes_no rfl (ja_cons (je_var 2) ja_nil)) je_int rfl))))) ja_nil)))))
theorem d_are_multipliers (G : Gs P K mg) (d_is_number : DefOk false P w K mg base ("is_number" : Str) [] 2 g_is_number) (d_sign : DefOk false P w K mg base ("sign" : Str) [] 1 g_sign) (gm : mg ("are_multipliers" : Str) = some (.ref (He.fAd K (("are_multipliers" : Str), none)))) {fd : FuncData} (F : FunD K ("are_multipliers" : Str) ("are_multipliers" : Str) (defArgs st_are_multipliers) (defBody st_are_multipliers) (defScope st_are_multipliers) [] [] (He.fAd K (("are_multipliers" : Str), none)) fd) : DefOk false P w K mg base ("are_multipliers" : Str) [] 3 g_are_multipliers :=
  ⟨_, gm, F.kp, rn_pos (hot := false) (def_ok F sc_are_multipliers fun cdv A outer s H E hr => jb_are_multipliers G d_is_number d_sign hr) rfl (F.bindsN fun _ _ _ _ _ _ us hl => match us, hl with | [_, _], _ => rfl)⟩
theorem jb_shows_empty (G : Gs P K mg) (d_sign : DefOk false P w K mg base ("sign" : Str) [] 1 g_sign) (d_form_times : DefOk false P w K mg base ("form_times" : Str) [] 3 g_form_times) (d_form_total : DefOk false P w K mg base ("form_total" : Str) [] 4 g_form_total) (d_check_region : DefOk false P w K mg base ("check_region" : Str) [] 5 g_check_region) (d_are_multipliers : DefOk false P w K mg base ("are_multipliers" : Str) [] 3 g_are_multipliers) {f : Addr} {cdv : Value} {A : Around} {outer : List PySem.Env} {s : Shared} {H : Hp} {E : XK} (hr : Room 5 (A.deeper (envOfC ("shows_empty" : Str) (defScope st_shows_empty) s.heap.objs.size f cdv))) :
    JB (cxOf (L2N.CX P w) P w K mg base [("facts" : Str), ("size" : Str), ("multipliers" : Str), ("weighted" : Str), ("whole" : Str), ("strict" : Str), ("side" : Str), ("fact" : Str), ("worth" : Str), ("coefficient" : Str)] ("shows_empty" : Str) (defScope st_shows_empty) f cdv A outer s H E) (wcE E) (defBody st_shows_empty) m_shows_empty :=
  (jb_cons (js_expr (je_call d_check_region (hr.mono (by decide)) (L2N.takes_of rfl rfl rfl rfl) rfl (ja_cons (je_var 0) (ja_cons (je_var 1) ja_nil))))
  (jb_cons (js_if (jt_not (jt_tru (je_call d_are_multipliers (hr.mono (by decide)) (L2N.takes_of rfl rfl rfl rfl) rfl (ja_cons (je_var 2) (ja_cons (je_callB cad_len rfl G.free_len bt_len (ja_cons (je_var 0) ja_nil)) ja_nil))))) (jb_one (js_ret je_bl)) jb_nil)
  (jb_cons (js_setLc (i := 3) [(("fact" : Str), 7), (("worth" : Str), 8)] rfl rfl sc_shows_empty.nd rfl rfl (sw_true rfl rfl rfl (by decide +kernel)) (ji_zip2 rfl G.free_zip (ja_cons (je_var 0) (ja_cons (je_var 2) ja_nil))) (blkOk_by (N := [("facts" : Str), ("size" : Str), ("multipliers" : Str), ("weighted" : Str), ("whole" : Str), ("strict" : Str), ("side" : Str), ("fact" : Str), ("worth" : Str), ("coefficient" : Str)]) (sc := defScope st_shows_empty) (own := [(("fact" : Str), 7), (("worth" : Str), 8)]) (by decide +kernel)) (fun _ _ _ _ _ => (jgw_tup rfl (jgws_cons (jgw_name (i := 7) sc_shows_empty.nd rfl (by decide)) (jgws_cons (jgw_name (i := 8) sc_shows_empty.nd rfl (by decide)) jgws_nil)))) (fun _ _ _ _ _ => jts_nil) (fun _ _ _ _ _ => (je_call d_form_times (hr.mono (by decide)) takes_no rfl (ja_cons (je_ix ixd (je_var 7) je_int) (ja_cons (je_var 8) ja_nil)))))
  (jb_cons (js_set (i := 4) sc_shows_empty.nd rfl (Or.inl rfl) (je_call d_form_total (hr.mono (by decide)) (L2N.takes_of rfl rfl rfl rfl) rfl (ja_cons (je_var 3) (ja_cons (je_var 1) ja_nil))))
  (jb_cons (js_if (jt_tru (je_callB (cad_any rfl) rfl G.free_any bt_any (ja_cons (je_lc [(("coefficient" : Str), 9)] rfl rfl sc_shows_empty.nd (ji_seq (je_sl sld (je_var 4) (jo_part je_int) jo_no)) (blkOk_by (N := [("facts" : Str), ("size" : Str), ("multipliers" : Str), ("weighted" : Str), ("whole" : Str), ("strict" : Str), ("side" : Str), ("fact" : Str), ("worth" : Str), ("coefficient" : Str)]) (sc := defScope st_shows_empty) (own := [(("coefficient" : Str), 9)]) (by decide +kernel)) (fun _ _ _ _ _ => (jgw_name (i := 9) sc_shows_empty.nd rfl (by decide))) (fun _ _ _ _ _ => jts_nil) (fun _ _ _ _ _ => (je_cmp (opd_ne (huR hr)) (je_call d_sign (hr.mono (by decide)) takes_no rfl (ja_cons (je_var 9) ja_nil)) je_int rfl))) ja_nil))) (jb_one (js_ret je_bl)) jb_nil)
  (jb_cons (js_set (i := 5) sc_shows_empty.nd rfl (Or.inl rfl) (je_callB (cad_any rfl) rfl G.free_any bt_any (ja_cons (je_lc [(("fact" : Str), 7), (("worth" : Str), 8)] rfl rfl sc_shows_empty.nd (ji_zip2 rfl G.free_zip (ja_cons (je_var 0) (ja_cons (je_var 2) ja_nil))) (blkOk_by (N := [("facts" : Str), ("size" : Str), ("multipliers" : Str), ("weighted" : Str), ("whole" : Str), ("strict" : Str), ("side" : Str), ("fact" : Str), ("worth" : Str), ("coefficient" : Str)]) (sc := defScope st_shows_empty) (own := [(("fact" : Str), 7), (("worth" : Str), 8)]) (by decide +kernel)) (fun _ _ _ _ _ => (jgw_tup rfl (jgws_cons (jgw_name (i := 7) sc_shows_empty.nd rfl (by decide)) (jgws_cons (jgw_name (i := 8) sc_shows_empty.nd rfl (by decide)) jgws_nil)))) (fun _ _ _ _ _ => jts_nil) (fun _ _ _ _ _ => (je_and (je_ix ixd (je_var 7) je_int) (je_one (je_cmp opd_gt (je_call d_sign (hr.mono (by decide)) takes_no rfl (ja_cons (je_var 8) ja_nil)) je_int rfl))))) ja_nil)))
  (jb_cons (js_set (i := 6) sc_shows_empty.nd rfl (Or.inl rfl) (je_call d_sign (hr.mono (by decide)) (L2N.takes_of rfl rfl rfl rfl) rfl (ja_cons (je_ix ixd (je_var 4) je_int) ja_nil)))
  (jb_one (js_ret (je_or (je_cmp opd_lt (je_var 6) je_int rfl) (je_one (je_and (je_cmp (opd_eq (huR hr)) (je_var 6) je_int rfl) (je_one (je_var 5))))))))))))))
theorem d_shows_empty (G : Gs P K mg) (d_sign : DefOk false P w K mg base ("sign" : Str) [] 1 g_sign) (d_form_times : DefOk false P w K mg base ("form_times" : Str) [] 3 g_form_times) (d_form_total : DefOk false P w K mg base ("form_total" : Str) [] 4 g_form_total) (d_check_region : DefOk false P w K mg base ("check_region" : Str) [] 5 g_check_region) (d_are_multipliers : DefOk false P w K mg base ("are_multipliers" : Str) [] 3 g_are_multipliers) (gm : mg ("shows_empty" : Str) = some (.ref (He.fAd K (("shows_empty" : Str), none)))) {fd : FuncData} (F : FunD K ("shows_empty" : Str) ("shows_empty" : Str) (defArgs st_shows_empty) (defBody st_shows_empty) (defScope st_shows_empty) [] [] (He.fAd K (("shows_empty" : Str), none)) fd) : DefOk false P w K mg base ("shows_empty" : Str) [] 6 g_shows_empty :=
  ⟨_, gm, F.kp, rn_pos (hot := false) (def_ok F sc_shows_empty fun cdv A outer s H E hr => jb_shows_empty G d_sign d_form_times d_form_total d_check_region d_are_multipliers hr) rfl (F.bindsN fun _ _ _ _ _ _ us hl => match us, hl with | [_, _, _], _ => rfl)⟩
theorem jb__law_is_int (G : Gs P K mg)  {f : Addr} {cdv : Value} {A : Around} {outer : List PySem.Env} {s : Shared} {H : Hp} {E : XK} (hr : Room 0 (A.deeper (envOfC ("_law_is_int" : Str) (defScope st__law_is_int) s.heap.objs.size f cdv))) :
    JB (cxOf (L2N.CX P w) P w K mg base [("thing" : Str)] ("_law_is_int" : Str) (defScope st__law_is_int) f cdv A outer s H E) (wcE E) (defBody st__law_is_int) m__law_is_int :=
  (jb_one (js_ret (je_and (je_isi rfl G.free_isinstance rfl G.free_int bt_int (by decide) (je_var 0)) (je_one (je_not (je_isi rfl G.free_isinstance rfl G.free_bool bt_bool (by decide) (je_var 0)))))))
theorem jbh__law_is_int (G : Gs P K mg)  {f : Addr} {cdv : Value} {A : Around} {outer : List PySem.Env} {s : Shared} {H : Hp} {E : XK} {pp : Addr × Obj} (hhot : L2H.Hot1 A pp) (hr : L2H.RoomH 0 (A.deeper (envOfC ("_law_is_int" : Str) (defScope st__law_is_int) s.heap.objs.size f cdv))) :
    JB (L2H.cxH (L2N.CX P w) P w K mg base [("thing" : Str)] ("_law_is_int" : Str) (defScope st__law_is_int) f cdv A outer s H E pp) (wcE E) (defBody st__law_is_int) m__law_is_int :=
  (jb_one (js_ret (je_and (je_isi rfl G.free_isinstance rfl G.free_int bt_int (by decide) (je_var 0)) (je_one (je_not (je_isi rfl G.free_isinstance rfl G.free_bool bt_bool (by decide) (je_var 0)))))))
theorem d__law_is_int (G : Gs P K mg)  (gm : mg ("_law_is_int" : Str) = some (.ref (He.fAd K (("_law_is_int" : Str), none)))) {fd : FuncData} (F : FunD K ("_law_is_int" : Str) ("_law_is_int" : Str) (defArgs st__law_is_int) (defBody st__law_is_int) (defScope st__law_is_int) [] [] (He.fAd K (("_law_is_int" : Str), none)) fd) : DefOk false P w K mg base ("_law_is_int" : Str) [] 1 g__law_is_int :=
  ⟨_, gm, F.kp, rn_pos (hot := false) (def_ok F sc__law_is_int fun cdv A outer s H E hr => jb__law_is_int G  hr) rfl (F.bindsN fun _ _ _ _ _ _ us hl => match us, hl with | [_], _ => rfl)⟩
theorem dh__law_is_int (G : Gs P K mg)  (gm : mg ("_law_is_int" : Str) = some (.ref (He.fAd K (("_law_is_int" : Str), none)))) {fd : FuncData} (F : FunD K ("_law_is_int" : Str) ("_law_is_int" : Str) (defArgs st__law_is_int) (defBody st__law_is_int) (defScope st__law_is_int) [] [] (He.fAd K (("_law_is_int" : Str), none)) fd) : DefOk true P w K mg base ("_law_is_int" : Str) [] 1 g__law_is_int :=
  ⟨_, gm, F.kp, rn_pos (hot := true) (def_okH F sc__law_is_int fun cdv A outer s H E p hot hr => jbh__law_is_int G  hot hr) rfl (F.bindsN fun _ _ _ _ _ _ us hl => match us, hl with | [_], _ => rfl)⟩
theorem jb__law_is_number (G : Gs P K mg) (d__law_gcd : DefOk false P w K mg base ("_law_gcd" : Str) [] 1 g__law_gcd) (d__law_is_int : DefOk false P w K mg base ("_law_is_int" : Str) [] 1 g__law_is_int) {f : Addr} {cdv : Value} {A : Around} {outer : List PySem.Env} {s : Shared} {H : Hp} {E : XK} (hr : Room 1 (A.deeper (envOfC ("_law_is_number" : Str) (defScope st__law_is_number) s.heap.objs.size f cdv))) :
    JB (cxOf (L2N.CX P w) P w K mg base [("thing" : Str)] ("_law_is_number" : Str) (defScope st__law_is_number) f cdv A outer s H E) (wcE E) (defBody st__law_is_number) m__law_is_number :=
  (jb_cons (js_if (PW.pt (jw_or (jt_not (jt_tru (je_isi rfl G.free_isinstance rfl G.free_tuple bt_tuple (by decide) (je_var 0)))) (jw_or1 (jt_cmp (opd_ne (huR hr)) (je_callB cad_len rfl G.free_len bt_len (ja_cons (je_var 0) ja_nil)) je_int rfl)))) (jb_one (js_ret je_bl)) jb_nil)
  (jb_cons (js_if (PW.pt (jw_or (jt_not (jt_tru (je_call d__law_is_int (hr.mono (by decide)) (L2N.takes_of rfl rfl rfl rfl) rfl (ja_cons (je_ix ixd (je_var 0) je_int) ja_nil)))) (jw_or1 (jt_not (jt_tru (je_call d__law_is_int (hr.mono (by decide)) (L2N.takes_of rfl rfl rfl rfl) rfl (ja_cons (je_ix ixd (je_var 0) je_int) ja_nil))))))) (jb_one (js_ret je_bl)) jb_nil)
  (jb_one (js_ret (je_and (je_cmp opd_ge (je_ix ixd (je_var 0) je_int) je_int rfl) (je_one (je_cmp (opd_eq (huR hr)) (je_call d__law_gcd (hr.mono (by decide)) (L2N.takes_of rfl rfl rfl rfl) rfl (ja_cons (je_callB cad_abs rfl G.free_abs bt_abs (ja_cons (je_ix ixd (je_var 0) je_int) ja_nil)) (ja_cons (je_ix ixd (je_var 0) je_int) ja_nil))) je_int rfl)))))))
theorem d__law_is_number (G : Gs P K mg) (d__law_gcd : DefOk false P w K mg base ("_law_gcd" : Str) [] 1 g__law_gcd) (d__law_is_int : DefOk false P w K mg base ("_law_is_int" : Str) [] 1 g__law_is_int) (gm : mg ("_law_is_number" : Str) = some (.ref (He.fAd K (("_law_is_number" : Str), none)))) {fd : FuncData} (F : FunD K ("_law_is_number" : Str) ("_law_is_number" : Str) (defArgs st__law_is_number) (defBody st__law_is_number) (defScope st__law_is_number) [] [] (He.fAd K (("_law_is_number" : Str), none)) fd) : DefOk false P w K mg base ("_law_is_number" : Str) [] 2 g__law_is_number :=
  ⟨_, gm, F.kp, rn_pos (hot := false) (def_ok F sc__law_is_number fun cdv A outer s H E hr => jb__law_is_number G d__law_gcd d__law_is_int hr) rfl (F.bindsN fun _ _ _ _ _ _ us hl => match us, hl with | [_], _ => rfl)⟩
theorem jb__law_weighted (G : Gs P K mg)  {f : Addr} {cdv : Value} {A : Around} {outer : List PySem.Env} {s : Shared} {H : Hp} {E : XK} (hr : Room 0 (A.deeper (envOfC ("_law_weighted" : Str) (defScope st__law_weighted) s.heap.objs.size f cdv))) :
    JB (cxOf (L2N.CX P w) P w K mg base [("facts" : Str), ("paper" : Str), ("size" : Str), ("sums" : Str), ("k" : Str), ("j" : Str), ("one" : Str), ("bottom" : Str)] ("_law_weighted" : Str) (defScope st__law_weighted) f cdv A outer s H E) (wcE E) (defBody st__law_weighted) m__law_weighted :=
  (jb_cons (js_setLc (i := 3) [(("k" : Str), 4)] rfl rfl sc__law_weighted.nd rfl rfl (sw_true rfl rfl rfl (by decide +kernel)) (ji_rng1 rfl G.free_range (ja_cons (je_op opd_add (je_var 2) je_int) ja_nil)) (blkOk_by (N := [("facts" : Str), ("paper" : Str), ("size" : Str), ("sums" : Str), ("k" : Str), ("j" : Str), ("one" : Str), ("bottom" : Str)]) (sc := defScope st__law_weighted) (own := [(("k" : Str), 4)]) (by decide +kernel)) (fun _ _ _ _ _ => (jgw_name (i := 4) sc__law_weighted.nd rfl (by decide))) (fun _ _ _ _ _ => jts_nil) (fun _ _ _ _ _ => (je_tup (ja_cons je_int (ja_cons je_int ja_nil)) (flen_cons (flen_cons flen_nil)))))
  (jb_cons (js_forR1 (L2.passes_of rfl) rfl rfl G.free_range (ja_cons (je_callB cad_len rfl G.free_len bt_len (ja_cons (je_var 0) ja_nil)) ja_nil) (jg_name (i := 4) sc__law_weighted.nd rfl (Or.inl rfl)) (jb_one (js_forR1 (L2.passes_of rfl) rfl rfl G.free_range (ja_cons (je_op opd_add (je_var 2) je_int) ja_nil) (jg_name (i := 5) sc__law_weighted.nd rfl (Or.inl rfl)) (jb_cons (js_set (i := 6) sc__law_weighted.nd rfl (Or.inl rfl) (je_ix ixd (je_ix ixd (je_ix ixd (je_var 0) (je_var 4)) je_int) (je_var 5)))
  (jb_cons (js_set (i := 7) sc__law_weighted.nd rfl (Or.inl rfl) (je_op opd_mul (je_ix ixd (je_ix ixd (je_var 1) (je_var 4)) je_int) (je_ix ixd (je_var 6) je_int)))
  (jb_one (js_store (je_var 3) (je_var 5) (je_tup (ja_cons (je_op opd_add (je_op opd_mul (je_ix ixd (je_ix ixd (je_var 3) (je_var 5)) je_int) (je_var 7)) (je_op opd_mul (je_op opd_mul (je_ix ixd (je_ix ixd (je_var 1) (je_var 4)) je_int) (je_ix ixd (je_var 6) je_int)) (je_ix ixd (je_ix ixd (je_var 3) (je_var 5)) je_int))) (ja_cons (je_op opd_mul (je_ix ixd (je_ix ixd (je_var 3) (je_var 5)) je_int) (je_var 7)) ja_nil)) (flen_cons (flen_cons flen_nil))) (fun _ => rfl))))))))
  (jb_one (js_ret (je_var 3)))))
theorem d__law_weighted (G : Gs P K mg)  (gm : mg ("_law_weighted" : Str) = some (.ref (He.fAd K (("_law_weighted" : Str), none)))) {fd : FuncData} (F : FunD K ("_law_weighted" : Str) ("_law_weighted" : Str) (defArgs st__law_weighted) (defBody st__law_weighted) (defScope st__law_weighted) [] [] (He.fAd K (("_law_weighted" : Str), none)) fd) : DefOk false P w K mg base ("_law_weighted" : Str) [] 1 g__law_weighted :=
  ⟨_, gm, F.kp, rn_pos (hot := false) (def_ok F sc__law_weighted fun cdv A outer s H E hr => jb__law_weighted G  hr) rfl (F.bindsN fun _ _ _ _ _ _ us hl => match us, hl with | [_, _, _], _ => rfl)⟩
theorem jb__law_shows (G : Gs P K mg) (d__law_is_number : DefOk false P w K mg base ("_law_is_number" : Str) [] 2 g__law_is_number) (d__law_weighted : DefOk false P w K mg base ("_law_weighted" : Str) [] 1 g__law_weighted) {f : Addr} {cdv : Value} {A : Around} {outer : List PySem.Env} {s : Shared} {H : Hp} {E : XK} (hr : Room 2 (A.deeper (envOfC ("_law_shows" : Str) (defScope st__law_shows) s.heap.objs.size f cdv))) :
    JB (cxOf (L2N.CX P w) P w K mg base [("facts" : Str), ("size" : Str), ("paper" : Str), ("one" : Str), ("sums" : Str), ("k" : Str)] ("_law_shows" : Str) (defScope st__law_shows) f cdv A outer s H E) (wcE E) (defBody st__law_shows) m__law_shows :=
  (jb_cons (js_if (PW.pt (jw_or (jt_not (jt_tru (je_isi rfl G.free_isinstance rfl G.free_tuple bt_tuple (by decide) (je_var 2)))) (jw_or1 (jt_cmp (opd_ne (huR hr)) (je_callB cad_len rfl G.free_len bt_len (ja_cons (je_var 2) ja_nil)) (je_callB cad_len rfl G.free_len bt_len (ja_cons (je_var 0) ja_nil)) rfl)))) (jb_one (js_ret je_bl)) jb_nil)
  (jb_cons (js_for (L2.passes_of rfl) rfl (je_var 2) (jg_name (i := 3) sc__law_shows.nd rfl (Or.inl rfl)) (jb_one (js_if (PW.pt (jw_or (jt_not (jt_tru (je_call d__law_is_number (hr.mono (by decide)) (L2N.takes_of rfl rfl rfl rfl) rfl (ja_cons (je_var 3) ja_nil)))) (jw_or1 (jt_cmp opd_lt (je_ix ixd (je_var 3) je_int) je_int rfl)))) (jb_one (js_ret je_bl)) jb_nil)))
  (jb_cons (js_set (i := 4) sc__law_shows.nd rfl (Or.inl rfl) (je_call d__law_weighted (hr.mono (by decide)) (L2N.takes_of rfl rfl rfl rfl) rfl (ja_cons (je_var 0) (ja_cons (je_var 2) (ja_cons (je_var 1) ja_nil)))))
  (jb_cons (js_for (L2.passes_of rfl) rfl (je_sl sld (je_var 4) (jo_part je_int) jo_no) (jg_name (i := 3) sc__law_shows.nd rfl (Or.inl rfl)) (jb_one (js_if (jt_cmp (opd_ne (huR hr)) (je_ix ixd (je_var 3) je_int) je_int rfl) (jb_one (js_ret je_bl)) jb_nil)))
  (jb_cons (js_if (jt_cmp (opd_ne (huR hr)) (je_ix ixd (je_ix ixd (je_var 4) je_int) je_int) je_int rfl) (jb_one (js_ret (je_cmp opd_lt (je_ix ixd (je_ix ixd (je_var 4) je_int) je_int) je_int rfl))) jb_nil)
  (jb_cons (js_forR1 (L2.passes_of rfl) rfl rfl G.free_range (ja_cons (je_callB cad_len rfl G.free_len bt_len (ja_cons (je_var 0) ja_nil)) ja_nil) (jg_name (i := 5) sc__law_shows.nd rfl (Or.inl rfl)) (jb_one (js_if (PW.pt (jw_and (jt_tru (je_ix ixd (je_ix ixd (je_var 0) (je_var 5)) je_int)) (jw_and1 (jt_cmp opd_gt (je_ix ixd (je_ix ixd (je_var 2) (je_var 5)) je_int) je_int rfl)))) (jb_one (js_ret je_bl)) jb_nil)))
  (jb_one (js_ret je_bl))))))))
theorem d__law_shows (G : Gs P K mg) (d__law_is_number : DefOk false P w K mg base ("_law_is_number" : Str) [] 2 g__law_is_number) (d__law_weighted : DefOk false P w K mg base ("_law_weighted" : Str) [] 1 g__law_weighted) (gm : mg ("_law_shows" : Str) = some (.ref (He.fAd K (("_law_shows" : Str), none)))) {fd : FuncData} (F : FunD K ("_law_shows" : Str) ("_law_shows" : Str) (defArgs st__law_shows) (defBody st__law_shows) (defScope st__law_shows) [] [] (He.fAd K (("_law_shows" : Str), none)) fd) : DefOk false P w K mg base ("_law_shows" : Str) [] 3 g__law_shows :=
  ⟨_, gm, F.kp, rn_pos (hot := false) (def_ok F sc__law_shows fun cdv A outer s H E hr => jb__law_shows G d__law_is_number d__law_weighted hr) rfl (F.bindsN fun _ _ _ _ _ _ us hl => match us, hl with | [_, _, _], _ => rfl)⟩
theorem jb__law_answers (G : Gs P K mg) (d_shows_empty : DefOk false P w K mg base ("shows_empty" : Str) [] 6 g_shows_empty) (d__law_take : DefOk false P w K mg base ("_law_take" : Str) [] 2 g__law_take) (d__law_shows : DefOk false P w K mg base ("_law_shows" : Str) [] 3 g__law_shows) {f : Addr} {cdv : Value} {A : Around} {outer : List PySem.Env} {s : Shared} {H : Hp} {E : XK} (hr : Room 6 (A.deeper (envOfC ("_law_answers" : Str) (defScope st__law_answers) s.heap.objs.size f cdv))) :
    JB (cxOf (L2N.CX P w) P w K mg base [("box" : Str), ("facts" : Str), ("size" : Str), ("paper" : Str), ("given" : Str), ("told" : Str)] ("_law_answers" : Str) (defScope st__law_answers) f cdv A outer s H E) (wcE E) (defBody st__law_answers) m__law_answers :=
  (jb_cons (js_set (i := 4) sc__law_answers.nd rfl (Or.inl rfl) (je_callTy cad_list rfl G.free_list bt_list (ja_cons (je_var 1) ja_nil)))
  (jb_cons (js_if (jt_cmp (opd_eq (huR hr)) (je_call d__law_take (hr.mono (by decide)) (L2N.takes_of rfl rfl rfl rfl) rfl (ja_cons (je_var 0) (ja_cons je_int ja_nil))) je_int rfl) (jb_one (js_set (i := 5) sc__law_answers.nd rfl (Or.inl rfl) (je_call d_shows_empty (hr.mono (by decide)) (L2N.takes_of rfl rfl rfl rfl) rfl (ja_cons (je_callTy cad_tuple rfl G.free_tuple bt_tuple (ja_cons (je_var 1) ja_nil)) (ja_cons (je_var 2) (ja_cons (je_var 3) ja_nil)))))) (jb_one (js_set (i := 5) sc__law_answers.nd rfl (Or.inl rfl) (je_call d_shows_empty (hr.mono (by decide)) (L2N.takes_of rfl rfl rfl rfl) rfl (ja_cons (je_var 4) (ja_cons (je_var 2) (ja_cons (je_var 3) ja_nil)))))))
  (jb_cons (js_if (PW.pt (jw_or (jt_not (jt_tru (je_isi rfl G.free_isinstance rfl G.free_bool bt_bool (by decide) (je_var 5)))) (jw_or1 (jt_cmp (opd_ne (huR hr)) (je_var 4) (je_var 1) rfl)))) (jb_one (js_ret je_bl)) jb_nil)
  (jb_one (js_ret (je_cmp (opd_eq (huR hr)) (je_var 5) (je_call d__law_shows (hr.mono (by decide)) (L2N.takes_of rfl rfl rfl rfl) rfl (ja_cons (je_var 1) (ja_cons (je_var 2) (ja_cons (je_var 3) ja_nil)))) rfl))))))
theorem d__law_answers (G : Gs P K mg) (d_shows_empty : DefOk false P w K mg base ("shows_empty" : Str) [] 6 g_shows_empty) (d__law_take : DefOk false P w K mg base ("_law_take" : Str) [] 2 g__law_take) (d__law_shows : DefOk false P w K mg base ("_law_shows" : Str) [] 3 g__law_shows) (gm : mg ("_law_answers" : Str) = some (.ref (He.fAd K (("_law_answers" : Str), none)))) {fd : FuncData} (F : FunD K ("_law_answers" : Str) ("_law_answers" : Str) (defArgs st__law_answers) (defBody st__law_answers) (defScope st__law_answers) [] [] (He.fAd K (("_law_answers" : Str), none)) fd) : DefOk false P w K mg base ("_law_answers" : Str) [] 7 g__law_answers :=
  ⟨_, gm, F.kp, rn_pos (hot := false) (def_ok F sc__law_answers fun cdv A outer s H E hr => jb__law_answers G d_shows_empty d__law_take d__law_shows hr) rfl (F.bindsN fun _ _ _ _ _ _ us hl => match us, hl with | [_, _, _, _], _ => rfl)⟩
theorem jb__law_with (G : Gs P K mg)  {f : Addr} {cdv : Value} {A : Around} {outer : List PySem.Env} {s : Shared} {H : Hp} {E : XK} (hr : Room 0 (A.deeper (envOfC ("_law_with" : Str) (defScope st__law_with) s.heap.objs.size f cdv))) :
    JB (cxOf (L2N.CX P w) P w K mg base [("forms" : Str), ("flags" : Str), ("k" : Str)] ("_law_with" : Str) (defScope st__law_with) f cdv A outer s H E) (wcE E) (defBody st__law_with) m__law_with :=
  (jb_one (js_ret (je_lc [(("k" : Str), 2)] rfl rfl sc__law_with.nd (ji_rng1 rfl G.free_range (ja_cons (je_callB cad_len rfl G.free_len bt_len (ja_cons (je_var 0) ja_nil)) ja_nil)) (blkOk_by (N := [("forms" : Str), ("flags" : Str), ("k" : Str)]) (sc := defScope st__law_with) (own := [(("k" : Str), 2)]) (by decide +kernel)) (fun _ _ _ _ _ => (jgw_name (i := 2) sc__law_with.nd rfl (by decide))) (fun _ _ _ _ _ => jts_nil) (fun _ _ _ _ _ => (je_tup (ja_cons (je_ix ixd (je_var 0) (je_var 2)) (ja_cons (je_ix ixd (je_var 1) (je_var 2)) ja_nil)) (flen_cons (flen_cons flen_nil)))))))
theorem d__law_with (G : Gs P K mg)  (gm : mg ("_law_with" : Str) = some (.ref (He.fAd K (("_law_with" : Str), none)))) {fd : FuncData} (F : FunD K ("_law_with" : Str) ("_law_with" : Str) (defArgs st__law_with) (defBody st__law_with) (defScope st__law_with) [] [] (He.fAd K (("_law_with" : Str), none)) fd) : DefOk false P w K mg base ("_law_with" : Str) [] 1 g__law_with :=
  ⟨_, gm, F.kp, rn_pos (hot := false) (def_ok F sc__law_with fun cdv A outer s H E hr => jb__law_with G  hr) rfl (F.bindsN fun _ _ _ _ _ _ us hl => match us, hl with | [_, _], _ => rfl)⟩
theorem jb__law_facts (G : Gs P K mg) (d__law_take : DefOk false P w K mg base ("_law_take" : Str) [] 2 g__law_take) (d__law_num : DefOk false P w K mg base ("_law_num" : Str) [] 2 g__law_num) (d__law_add : DefOk false P w K mg base ("_law_add" : Str) [] 3 g__law_add) (d__law_neg : DefOk false P w K mg base ("_law_neg" : Str) [] 1 g__law_neg) (d__law_balanced : DefOk false P w K mg base ("_law_balanced" : Str) [] 4 g__law_balanced) (d__law_put : DefOk false P w K mg base ("_law_put" : Str) [] 1 g__law_put) {f : Addr} {cdv : Value} {A : Around} {outer : List PySem.Env} {s : Shared} {H : Hp} {E : XK} (hr : Room 4 (A.deeper (envOfC ("_law_facts" : Str) (defScope st__law_facts) s.heap.objs.size f cdv))) :
    JB (cxOf (L2N.CX P w) P w K mg base [("box" : Str), ("forms" : Str), ("paper" : Str), ("spot" : Str), ("drop" : Str), ("count" : Str), ("below" : Str), ("level" : Str), ("above" : Str), ("every" : Str), ("never" : Str), ("idle" : Str), ("lit" : Str), ("row" : Str), ("j" : Str), ("place" : Str), ("step" : Str), ("moved" : Str), ("turned" : Str), ("k" : Str), ("one" : Str)] ("_law_facts" : Str) (defScope st__law_facts) f cdv A outer s H E) (wcE E) (defBody st__law_facts) m__law_facts :=
  (jb_cons (js_set (i := 5) sc__law_facts.nd rfl (Or.inl rfl) (je_callB cad_len rfl G.free_len bt_len (ja_cons (je_var 1) ja_nil)))
  (jb_cons (js_set (i := 6) sc__law_facts.nd rfl (Or.inl rfl) (je_call d__law_balanced (hr.mono (by decide)) (L2N.takes_of rfl rfl rfl rfl) rfl (ja_cons (je_var 1) (ja_cons (je_var 2) (ja_cons (je_var 3) (ja_cons (je_var 4) ja_nil))))))
  (jb_cons (js_set (i := 7) sc__law_facts.nd rfl (Or.inl rfl) (je_call d__law_balanced (hr.mono (by decide)) (L2N.takes_of rfl rfl rfl rfl) rfl (ja_cons (je_var 1) (ja_cons (je_var 2) (ja_cons (je_var 3) (ja_cons (je_tup (ja_cons je_int (ja_cons je_int ja_nil)) (flen_cons (flen_cons flen_nil))) ja_nil))))))
  (jb_cons (js_set (i := 8) sc__law_facts.nd rfl (Or.inl rfl) (je_call d__law_balanced (hr.mono (by decide)) (L2N.takes_of rfl rfl rfl rfl) rfl (ja_cons (je_var 1) (ja_cons (je_var 2) (ja_cons (je_var 3) (ja_cons (je_call d__law_neg (hr.mono (by decide)) (L2N.takes_of rfl rfl rfl rfl) rfl (ja_cons (je_var 4) ja_nil)) ja_nil))))))
  (jb_cons (js_setLc (i := 9) [(("k" : Str), 19)] rfl rfl sc__law_facts.nd rfl rfl (sw_true rfl rfl rfl (by decide +kernel)) (ji_rng1 rfl G.free_range (ja_cons (je_var 5) ja_nil)) (blkOk_by (N := [("box" : Str), ("forms" : Str), ("paper" : Str), ("spot" : Str), ("drop" : Str), ("count" : Str), ("below" : Str), ("level" : Str), ("above" : Str), ("every" : Str), ("never" : Str), ("idle" : Str), ("lit" : Str), ("row" : Str), ("j" : Str), ("place" : Str), ("step" : Str), ("moved" : Str), ("turned" : Str), ("k" : Str), ("one" : Str)]) (sc := defScope st__law_facts) (own := [(("k" : Str), 19)]) (by decide +kernel)) (fun _ _ _ _ _ => (jgw_name (i := 19) sc__law_facts.nd rfl (by decide))) (fun _ _ _ _ _ => jts_nil) (fun _ _ _ _ _ => je_bl))
  (jb_cons (js_setLc (i := 10) [(("k" : Str), 19)] rfl rfl sc__law_facts.nd rfl rfl (sw_true rfl rfl rfl (by decide +kernel)) (ji_rng1 rfl G.free_range (ja_cons (je_var 5) ja_nil)) (blkOk_by (N := [("box" : Str), ("forms" : Str), ("paper" : Str), ("spot" : Str), ("drop" : Str), ("count" : Str), ("below" : Str), ("level" : Str), ("above" : Str), ("every" : Str), ("never" : Str), ("idle" : Str), ("lit" : Str), ("row" : Str), ("j" : Str), ("place" : Str), ("step" : Str), ("moved" : Str), ("turned" : Str), ("k" : Str), ("one" : Str)]) (sc := defScope st__law_facts) (own := [(("k" : Str), 19)]) (by decide +kernel)) (fun _ _ _ _ _ => (jgw_name (i := 19) sc__law_facts.nd rfl (by decide))) (fun _ _ _ _ _ => jts_nil) (fun _ _ _ _ _ => je_bl))
  (jb_cons (js_setLc (i := 11) [(("k" : Str), 19)] rfl rfl sc__law_facts.nd rfl rfl (sw_true rfl rfl rfl (by decide +kernel)) (ji_rng1 rfl G.free_range (ja_cons (je_var 5) ja_nil)) (blkOk_by (N := [("box" : Str), ("forms" : Str), ("paper" : Str), ("spot" : Str), ("drop" : Str), ("count" : Str), ("below" : Str), ("level" : Str), ("above" : Str), ("every" : Str), ("never" : Str), ("idle" : Str), ("lit" : Str), ("row" : Str), ("j" : Str), ("place" : Str), ("step" : Str), ("moved" : Str), ("turned" : Str), ("k" : Str), ("one" : Str)]) (sc := defScope st__law_facts) (own := [(("k" : Str), 19)]) (by decide +kernel)) (fun _ _ _ _ _ => (jgw_name (i := 19) sc__law_facts.nd rfl (by decide))) (fun _ _ _ _ _ => jts_nil) (fun _ _ _ _ _ => (je_cmp (opd_eq (huR hr)) (je_ix ixd (je_ix ixd (je_var 2) (je_var 19)) je_int) je_int rfl)))
  (jb_cons (js_set (i := 12) sc__law_facts.nd rfl (Or.inr rfl) (je_call d__law_take (hr.mono (by decide)) (L2N.takes_of rfl rfl rfl rfl) rfl (ja_cons (je_var 0) (ja_cons (je_var 5) ja_nil))))
  (jb_cons (js_set (i := 13) sc__law_facts.nd rfl (Or.inl rfl) (je_lst (ja_cons (je_lst (ja_cons (je_var 6) (ja_cons (je_var 10) (ja_cons (je_var 2) ja_nil))) (flen_cons (flen_cons (flen_cons flen_nil)))) (ja_cons (je_lst (ja_cons (je_var 6) (ja_cons (je_var 9) (ja_cons (je_var 2) ja_nil))) (flen_cons (flen_cons (flen_cons flen_nil)))) (ja_cons (je_lst (ja_cons (je_var 7) (ja_cons (je_var 9) (ja_cons (je_var 2) ja_nil))) (flen_cons (flen_cons (flen_cons flen_nil)))) (ja_cons (je_lst (ja_cons (je_var 7) (ja_cons (je_var 10) (ja_cons (je_var 2) ja_nil))) (flen_cons (flen_cons (flen_cons flen_nil)))) ja_nil)))) (flen_cons (flen_cons (flen_cons (flen_cons flen_nil))))))
  (jb_cons (js_expr (je_lm PySem.F.slot_list_append PySem.F.type_list_append mtd_append (je_var 13) (ja_cons (je_lst (ja_cons (je_var 7) (ja_cons (je_var 11) (ja_cons (je_var 2) ja_nil))) (flen_cons (flen_cons (flen_cons flen_nil)))) ja_nil)))
  (jb_cons (js_expr (je_lm PySem.F.slot_list_append PySem.F.type_list_append mtd_append (je_var 13) (ja_cons (je_lst (ja_cons (je_var 7) (ja_cons (je_lc [(("k" : Str), 19)] rfl rfl sc__law_facts.nd (ji_rng1 rfl G.free_range (ja_cons (je_var 5) ja_nil)) (blkOk_by (N := [("box" : Str), ("forms" : Str), ("paper" : Str), ("spot" : Str), ("drop" : Str), ("count" : Str), ("below" : Str), ("level" : Str), ("above" : Str), ("every" : Str), ("never" : Str), ("idle" : Str), ("lit" : Str), ("row" : Str), ("j" : Str), ("place" : Str), ("step" : Str), ("moved" : Str), ("turned" : Str), ("k" : Str), ("one" : Str)]) (sc := defScope st__law_facts) (own := [(("k" : Str), 19)]) (by decide +kernel)) (fun _ _ _ _ _ => (jgw_name (i := 19) sc__law_facts.nd rfl (by decide))) (fun _ _ _ _ _ => jts_nil) (fun _ _ _ _ _ => (je_cmp (opd_eq (huR hr)) (je_var 19) (je_var 12) rfl))) (ja_cons (je_var 2) ja_nil))) (flen_cons (flen_cons (flen_cons flen_nil)))) ja_nil)))
  (jb_cons (js_expr (je_lm PySem.F.slot_list_append PySem.F.type_list_append mtd_append (je_var 13) (ja_cons (je_lst (ja_cons (je_var 7) (ja_cons (je_lc [(("k" : Str), 19)] rfl rfl sc__law_facts.nd (ji_rng1 rfl G.free_range (ja_cons (je_var 5) ja_nil)) (blkOk_by (N := [("box" : Str), ("forms" : Str), ("paper" : Str), ("spot" : Str), ("drop" : Str), ("count" : Str), ("below" : Str), ("level" : Str), ("above" : Str), ("every" : Str), ("never" : Str), ("idle" : Str), ("lit" : Str), ("row" : Str), ("j" : Str), ("place" : Str), ("step" : Str), ("moved" : Str), ("turned" : Str), ("k" : Str), ("one" : Str)]) (sc := defScope st__law_facts) (own := [(("k" : Str), 19)]) (by decide +kernel)) (fun _ _ _ _ _ => (jgw_name (i := 19) sc__law_facts.nd rfl (by decide))) (fun _ _ _ _ _ => jts_nil) (fun _ _ _ _ _ => (je_cmp (opd_eq (huR hr)) (je_var 19) (je_var 3) rfl))) (ja_cons (je_var 2) ja_nil))) (flen_cons (flen_cons (flen_cons flen_nil)))) ja_nil)))
  (jb_cons (js_expr (je_lm PySem.F.slot_list_append PySem.F.type_list_append mtd_append (je_var 13) (ja_cons (je_lst (ja_cons (je_var 8) (ja_cons (je_var 9) (ja_cons (je_var 2) ja_nil))) (flen_cons (flen_cons (flen_cons flen_nil)))) ja_nil)))
  (jb_cons (js_expr (je_lm PySem.F.slot_list_append PySem.F.type_list_append mtd_append (je_var 13) (ja_cons (je_lst (ja_cons (je_var 8) (ja_cons (je_var 10) (ja_cons (je_var 2) ja_nil))) (flen_cons (flen_cons (flen_cons flen_nil)))) ja_nil)))
  (jb_cons (js_for (L2.passes_of rfl) rfl (je_lst (ja_cons (je_var 3) (ja_cons (je_var 12) ja_nil)) (flen_cons (flen_cons flen_nil))) (jg_name (i := 14) sc__law_facts.nd rfl (Or.inl rfl)) (jb_cons (js_set (i := 15) sc__law_facts.nd rfl (Or.inl rfl) (je_op opd_add je_int (je_call d__law_take (hr.mono (by decide)) (L2N.takes_of rfl rfl rfl rfl) rfl (ja_cons (je_var 0) (ja_cons (je_op opd_sub (je_callB cad_len rfl G.free_len bt_len (ja_cons (je_ix ixd (je_var 1) je_int) ja_nil)) je_int) ja_nil)))))
  (jb_cons (js_set (i := 16) sc__law_facts.nd rfl (Or.inl rfl) (je_call d__law_num (hr.mono (by decide)) (L2N.takes_of rfl rfl rfl rfl) rfl (ja_cons (je_op opd_add je_int (je_call d__law_take (hr.mono (by decide)) (L2N.takes_of rfl rfl rfl rfl) rfl (ja_cons (je_var 0) (ja_cons je_int ja_nil)))) (ja_cons (je_op opd_add je_int (je_call d__law_take (hr.mono (by decide)) (L2N.takes_of rfl rfl rfl rfl) rfl (ja_cons (je_var 0) (ja_cons je_int ja_nil)))) ja_nil))))
  (jb_cons (js_set (i := 17) sc__law_facts.nd rfl (Or.inl rfl) (je_call d__law_put (hr.mono (by decide)) (L2N.takes_of rfl rfl rfl rfl) rfl (ja_cons (je_ix ixd (je_var 6) (je_var 14)) (ja_cons (je_var 15) (ja_cons (je_call d__law_add (hr.mono (by decide)) (L2N.takes_of rfl rfl rfl rfl) rfl (ja_cons (je_ix ixd (je_ix ixd (je_var 6) (je_var 14)) (je_var 15)) (ja_cons (je_var 16) ja_nil))) ja_nil)))))
  (jb_cons (js_expr (je_lm PySem.F.slot_list_append PySem.F.type_list_append mtd_append (je_var 13) (ja_cons (je_lst (ja_cons (je_op opd_add (je_op opd_add (je_sl sld (je_var 6) jo_no (jo_part (je_var 14))) (je_lst (ja_cons (je_var 17) ja_nil) (flen_cons flen_nil))) (je_sl sld (je_var 6) (jo_part (je_op opd_add (je_var 14) je_int)) jo_no)) (ja_cons (je_var 10) (ja_cons (je_var 2) ja_nil))) (flen_cons (flen_cons (flen_cons flen_nil)))) ja_nil)))
  (jb_cons (js_set (i := 18) sc__law_facts.nd rfl (Or.inl rfl) (je_callTy cad_tuple rfl G.free_tuple bt_tuple (ja_cons (je_lc [(("one" : Str), 20)] rfl rfl sc__law_facts.nd (ji_seq (je_ix ixd (je_var 6) (je_var 14))) (blkOk_by (N := [("box" : Str), ("forms" : Str), ("paper" : Str), ("spot" : Str), ("drop" : Str), ("count" : Str), ("below" : Str), ("level" : Str), ("above" : Str), ("every" : Str), ("never" : Str), ("idle" : Str), ("lit" : Str), ("row" : Str), ("j" : Str), ("place" : Str), ("step" : Str), ("moved" : Str), ("turned" : Str), ("k" : Str), ("one" : Str)]) (sc := defScope st__law_facts) (own := [(("one" : Str), 20)]) (by decide +kernel)) (fun _ _ _ _ _ => (jgw_name (i := 20) sc__law_facts.nd rfl (by decide))) (fun _ _ _ _ _ => jts_nil) (fun _ _ _ _ _ => (je_call d__law_neg (hr.mono (by decide)) takes_no rfl (ja_cons (je_var 20) ja_nil)))) ja_nil)))
  (jb_cons (js_expr (je_lm PySem.F.slot_list_append PySem.F.type_list_append mtd_append (je_var 13) (ja_cons (je_lst (ja_cons (je_op opd_add (je_op opd_add (je_sl sld (je_var 6) jo_no (jo_part (je_var 14))) (je_lst (ja_cons (je_var 18) ja_nil) (flen_cons flen_nil))) (je_sl sld (je_var 6) (jo_part (je_op opd_add (je_var 14) je_int)) jo_no)) (ja_cons (je_var 10) (ja_cons (je_call d__law_put (hr.mono (by decide)) (L2N.takes_of rfl rfl rfl rfl) rfl (ja_cons (je_var 2) (ja_cons (je_var 14) (ja_cons (je_call d__law_neg (hr.mono (by decide)) (L2N.takes_of rfl rfl rfl rfl) rfl (ja_cons (je_ix ixd (je_var 2) (je_var 14)) ja_nil)) ja_nil)))) ja_nil))) (flen_cons (flen_cons (flen_cons flen_nil)))) ja_nil)))
  (jb_one (js_expr (je_lm PySem.F.slot_list_append PySem.F.type_list_append mtd_append (je_var 13) (ja_cons (je_lst (ja_cons (je_op opd_add (je_op opd_add (je_sl sld (je_var 6) jo_no (jo_part (je_var 14))) (je_lst (ja_cons (je_var 18) ja_nil) (flen_cons flen_nil))) (je_sl sld (je_var 6) (jo_part (je_op opd_add (je_var 14) je_int)) jo_no)) (ja_cons (je_var 10) (ja_cons (je_var 2) ja_nil))) (flen_cons (flen_cons (flen_cons flen_nil)))) ja_nil)))))))))))
  (jb_cons (js_expr (je_lm PySem.F.slot_list_append PySem.F.type_list_append mtd_append (je_var 13) (ja_cons (je_lst (ja_cons (je_op opd_add (je_var 6) (je_lst (ja_cons (je_ix ixd (je_var 1) (je_var 12)) ja_nil) (flen_cons flen_nil))) (ja_cons (je_op opd_add (je_var 10) (je_lst (ja_cons je_bl ja_nil) (flen_cons flen_nil))) (ja_cons (je_op opd_add (je_var 2) (je_tup (ja_cons (je_tup (ja_cons je_int (ja_cons je_int ja_nil)) (flen_cons (flen_cons flen_nil))) ja_nil) (flen_cons flen_nil))) ja_nil))) (flen_cons (flen_cons (flen_cons flen_nil)))) ja_nil)))
  (jb_cons (js_expr (je_lm PySem.F.slot_list_append PySem.F.type_list_append mtd_append (je_var 13) (ja_cons (je_lst (ja_cons (je_op opd_add (je_var 6) (je_lst (ja_cons (je_ix ixd (je_var 1) (je_var 12)) ja_nil) (flen_cons flen_nil))) (ja_cons (je_op opd_add (je_var 10) (je_lst (ja_cons je_bl ja_nil) (flen_cons flen_nil))) (ja_cons (je_var 2) ja_nil))) (flen_cons (flen_cons (flen_cons flen_nil)))) ja_nil)))
  (jb_cons (js_expr (je_lm PySem.F.slot_list_append PySem.F.type_list_append mtd_append (je_var 13) (ja_cons (je_lst (ja_cons (je_op opd_add (je_var 7) (je_lst (ja_cons (je_ix ixd (je_var 1) (je_var 12)) ja_nil) (flen_cons flen_nil))) (ja_cons (je_op opd_add (je_var 10) (je_lst (ja_cons je_bl ja_nil) (flen_cons flen_nil))) (ja_cons (je_op opd_add (je_var 2) (je_tup (ja_cons (je_tup (ja_cons je_int (ja_cons je_int ja_nil)) (flen_cons (flen_cons flen_nil))) ja_nil) (flen_cons flen_nil))) ja_nil))) (flen_cons (flen_cons (flen_cons flen_nil)))) ja_nil)))
  (jb_one (js_ret (je_var 13)))))))))))))))))))))
theorem d__law_facts (G : Gs P K mg) (d__law_take : DefOk false P w K mg base ("_law_take" : Str) [] 2 g__law_take) (d__law_num : DefOk false P w K mg base ("_law_num" : Str) [] 2 g__law_num) (d__law_add : DefOk false P w K mg base ("_law_add" : Str) [] 3 g__law_add) (d__law_neg : DefOk false P w K mg base ("_law_neg" : Str) [] 1 g__law_neg) (d__law_balanced : DefOk false P w K mg base ("_law_balanced" : Str) [] 4 g__law_balanced) (d__law_put : DefOk false P w K mg base ("_law_put" : Str) [] 1 g__law_put) (gm : mg ("_law_facts" : Str) = some (.ref (He.fAd K (("_law_facts" : Str), none)))) {fd : FuncData} (F : FunD K ("_law_facts" : Str) ("_law_facts" : Str) (defArgs st__law_facts) (defBody st__law_facts) (defScope st__law_facts) [] [] (He.fAd K (("_law_facts" : Str), none)) fd) : DefOk false P w K mg base ("_law_facts" : Str) [] 5 g__law_facts :=
  ⟨_, gm, F.kp, rn_pos (hot := false) (def_ok F sc__law_facts fun cdv A outer s H E hr => jb__law_facts G d__law_take d__law_num d__law_add d__law_neg d__law_balanced d__law_put hr) rfl (F.bindsN fun _ _ _ _ _ _ us hl => match us, hl with | [_, _, _, _, _], _ => rfl)⟩
theorem jb_opposite (G : Gs P K mg) (d_form_times : DefOk false P w K mg base ("form_times" : Str) [] 3 g_form_times) {f : Addr} {cdv : Value} {A : Around} {outer : List PySem.Env} {s : Shared} {H : Hp} {E : XK} (hr : Room 3 (A.deeper (envOfC ("opposite" : Str) (defScope st_opposite) s.heap.objs.size f cdv))) :
    JB (cxOf (L2N.CX P w) P w K mg base [("fact" : Str), ("form" : Str), ("strict" : Str)] ("opposite" : Str) (defScope st_opposite) f cdv A outer s H E) (wcE E) (defBody st_opposite) m_opposite :=
  (jb_cons (js_asg (je_var 0) (jg_tup rfl (jgs_cons (jg_name (i := 1) sc_opposite.nd rfl (Or.inl rfl)) (jgs_cons (jg_name (i := 2) sc_opposite.nd rfl (Or.inl rfl)) jgs_nil))))
  (jb_one (js_ret (je_tup (ja_cons (je_call d_form_times (hr.mono (by decide)) (L2N.takes_of rfl rfl rfl rfl) rfl (ja_cons (je_var 1) (ja_cons (je_tup (ja_cons (je_un und_neg je_int) (ja_cons je_int ja_nil)) (flen_cons (flen_cons flen_nil))) ja_nil))) (ja_cons (je_not (je_var 2)) ja_nil)) (flen_cons (flen_cons flen_nil))))))
theorem d_opposite (G : Gs P K mg) (d_form_times : DefOk false P w K mg base ("form_times" : Str) [] 3 g_form_times) (gm : mg ("opposite" : Str) = some (.ref (He.fAd K (("opposite" : Str), none)))) {fd : FuncData} (F : FunD K ("opposite" : Str) ("opposite" : Str) (defArgs st_opposite) (defBody st_opposite) (defScope st_opposite) [] [] (He.fAd K (("opposite" : Str), none)) fd) : DefOk false P w K mg base ("opposite" : Str) [] 4 g_opposite :=
  ⟨_, gm, F.kp, rn_pos (hot := false) (def_ok F sc_opposite fun cdv A outer s H E hr => jb_opposite G d_form_times hr) rfl (F.bindsN fun _ _ _ _ _ _ us hl => match us, hl with | [_], _ => rfl)⟩
theorem jb__law_opposite (G : Gs P K mg) (d_opposite : DefOk false P w K mg base ("opposite" : Str) [] 4 g_opposite) (d__law_neg : DefOk false P w K mg base ("_law_neg" : Str) [] 1 g__law_neg) (d__law_is_number : DefOk false P w K mg base ("_law_is_number" : Str) [] 2 g__law_is_number) (d__law_answers : DefOk false P w K mg base ("_law_answers" : Str) [] 7 g__law_answers) {f : Addr} {cdv : Value} {A : Around} {outer : List PySem.Env} {s : Shared} {H : Hp} {E : XK} (hr : Room 7 (A.deeper (envOfC ("_law_opposite" : Str) (defScope st__law_opposite) s.heap.objs.size f cdv))) :
    JB (cxOf (L2N.CX P w) P w K mg base [("box" : Str), ("fact" : Str), ("size" : Str), ("told" : Str), ("due" : Str), ("ones" : Str), ("one" : Str)] ("_law_opposite" : Str) (defScope st__law_opposite) f cdv A outer s H E) (wcE E) (defBody st__law_opposite) m__law_opposite :=
  (jb_cons (js_set (i := 3) sc__law_opposite.nd rfl (Or.inl rfl) (je_call d_opposite (hr.mono (by decide)) (L2N.takes_of rfl rfl rfl rfl) rfl (ja_cons (je_var 1) ja_nil)))
  (jb_cons (js_set (i := 4) sc__law_opposite.nd rfl (Or.inl rfl) (je_tup (ja_cons (je_callTy cad_tuple rfl G.free_tuple bt_tuple (ja_cons (je_lc [(("one" : Str), 6)] rfl rfl sc__law_opposite.nd (ji_seq (je_ix ixd (je_var 1) je_int)) (blkOk_by (N := [("box" : Str), ("fact" : Str), ("size" : Str), ("told" : Str), ("due" : Str), ("ones" : Str), ("one" : Str)]) (sc := defScope st__law_opposite) (own := [(("one" : Str), 6)]) (by decide +kernel)) (fun _ _ _ _ _ => (jgw_name (i := 6) sc__law_opposite.nd rfl (by decide))) (fun _ _ _ _ _ => jts_nil) (fun _ _ _ _ _ => (je_call d__law_neg (hr.mono (by decide)) takes_no rfl (ja_cons (je_var 6) ja_nil)))) ja_nil)) (ja_cons (je_not (je_ix ixd (je_var 1) je_int)) ja_nil)) (flen_cons (flen_cons flen_nil))))
  (jb_cons (js_if (PW.pt (jw_or (jt_not (jt_tru (je_isi rfl G.free_isinstance rfl G.free_tuple bt_tuple (by decide) (je_var 3)))) (jw_or1 (jt_cmp (opd_ne (huR hr)) (je_callB cad_len rfl G.free_len bt_len (ja_cons (je_var 3) ja_nil)) je_int rfl)))) (jb_one (js_ret je_bl)) jb_nil)
  (jb_cons (js_if (PW.pt (jw_or (jt_not (jt_tru (je_isi rfl G.free_isinstance rfl G.free_tuple bt_tuple (by decide) (je_ix ixd (je_var 3) je_int)))) (jw_or1 (jt_not (jt_tru (je_isi rfl G.free_isinstance rfl G.free_bool bt_bool (by decide) (je_ix ixd (je_var 3) je_int))))))) (jb_one (js_ret je_bl)) jb_nil)
  (jb_cons (js_if (PW.pt (jw_or (jt_not (jt_tru (je_callB (cad_all rfl) rfl G.free_all bt_all (ja_cons (je_lc [(("one" : Str), 6)] rfl rfl sc__law_opposite.nd (ji_seq (je_ix ixd (je_var 3) je_int)) (blkOk_by (N := [("box" : Str), ("fact" : Str), ("size" : Str), ("told" : Str), ("due" : Str), ("ones" : Str), ("one" : Str)]) (sc := defScope st__law_opposite) (own := [(("one" : Str), 6)]) (by decide +kernel)) (fun _ _ _ _ _ => (jgw_name (i := 6) sc__law_opposite.nd rfl (by decide))) (fun _ _ _ _ _ => jts_nil) (fun _ _ _ _ _ => (je_call d__law_is_number (hr.mono (by decide)) takes_no rfl (ja_cons (je_var 6) ja_nil)))) ja_nil)))) (jw_or1 (jt_cmp (opd_ne (huR hr)) (je_var 3) (je_var 4) rfl)))) (jb_one (js_ret je_bl)) jb_nil)
  (jb_cons (js_set (i := 5) sc__law_opposite.nd rfl (Or.inl rfl) (je_tup (ja_cons (je_tup (ja_cons je_int (ja_cons je_int ja_nil)) (flen_cons (flen_cons flen_nil))) (ja_cons (je_tup (ja_cons je_int (ja_cons je_int ja_nil)) (flen_cons (flen_cons flen_nil))) ja_nil)) (flen_cons (flen_cons flen_nil))))
  (jb_cons (js_if (PW.pt (jw_or (jt_not (jt_tru (je_call d__law_answers (hr.mono (by decide)) (L2N.takes_of rfl rfl rfl rfl) rfl (ja_cons (je_var 0) (ja_cons (je_lst (ja_cons (je_var 1) (ja_cons (je_var 4) ja_nil)) (flen_cons (flen_cons flen_nil))) (ja_cons (je_var 2) (ja_cons (je_var 5) ja_nil))))))) (jw_or1 (jt_not (jt_tru (je_call d__law_answers (hr.mono (by decide)) (L2N.takes_of rfl rfl rfl rfl) rfl (ja_cons (je_var 0) (ja_cons (je_lst (ja_cons (je_var 4) (ja_cons (je_var 1) ja_nil)) (flen_cons (flen_cons flen_nil))) (ja_cons (je_var 2) (ja_cons (je_var 5) ja_nil)))))))))) (jb_one (js_ret je_bl)) jb_nil)
  (jb_one (js_ret (je_and (je_call d__law_answers (hr.mono (by decide)) (L2N.takes_of rfl rfl rfl rfl) rfl (ja_cons (je_var 0) (ja_cons (je_lst (ja_cons (je_var 1) (ja_cons (je_var 1) ja_nil)) (flen_cons (flen_cons flen_nil))) (ja_cons (je_var 2) (ja_cons (je_var 5) ja_nil))))) (je_one (je_call d__law_answers (hr.mono (by decide)) (L2N.takes_of rfl rfl rfl rfl) rfl (ja_cons (je_var 0) (ja_cons (je_lst ja_nil flen_nil) (ja_cons (je_var 2) (ja_cons (je_tup ja_nil flen_nil) ja_nil))))))))))))))))
theorem d__law_opposite (G : Gs P K mg) (d_opposite : DefOk false P w K mg base ("opposite" : Str) [] 4 g_opposite) (d__law_neg : DefOk false P w K mg base ("_law_neg" : Str) [] 1 g__law_neg) (d__law_is_number : DefOk false P w K mg base ("_law_is_number" : Str) [] 2 g__law_is_number) (d__law_answers : DefOk false P w K mg base ("_law_answers" : Str) [] 7 g__law_answers) (gm : mg ("_law_opposite" : Str) = some (.ref (He.fAd K (("_law_opposite" : Str), none)))) {fd : FuncData} (F : FunD K ("_law_opposite" : Str) ("_law_opposite" : Str) (defArgs st__law_opposite) (defBody st__law_opposite) (defScope st__law_opposite) [] [] (He.fAd K (("_law_opposite" : Str), none)) fd) : DefOk false P w K mg base ("_law_opposite" : Str) [] 8 g__law_opposite :=
  ⟨_, gm, F.kp, rn_pos (hot := false) (def_ok F sc__law_opposite fun cdv A outer s H E hr => jb__law_opposite G d_opposite d__law_neg d__law_is_number d__law_answers hr) rfl (F.bindsN fun _ _ _ _ _ _ us hl => match us, hl with | [_, _, _], _ => rfl)⟩
theorem jb__law_spoilt (G : Gs P K mg) (d__law_take : DefOk false P w K mg base ("_law_take" : Str) [] 2 g__law_take) {f : Addr} {cdv : Value} {A : Around} {outer : List PySem.Env} {s : Shared} {H : Hp} {E : XK} (hr : Room 2 (A.deeper (envOfC ("_law_spoilt" : Str) (defScope st__law_spoilt) s.heap.objs.size f cdv))) :
    JB (cxOf (L2N.CX P w) P w K mg base [("box" : Str), ("fact" : Str), ("form" : Str), ("k" : Str), ("strict" : Str), ("way" : Str), ("odd" : Str)] ("_law_spoilt" : Str) (defScope st__law_spoilt) f cdv A outer s H E) (wcE E) (defBody st__law_spoilt) m__law_spoilt :=
  (jb_cons (js_set (i := 2) sc__law_spoilt.nd rfl (Or.inl rfl) (je_ix ixd (je_var 1) je_int))
  (jb_cons (js_set (i := 3) sc__law_spoilt.nd rfl (Or.inl rfl) (je_call d__law_take (hr.mono (by decide)) (L2N.takes_of rfl rfl rfl rfl) rfl (ja_cons (je_var 0) (ja_cons (je_callB cad_len rfl G.free_len bt_len (ja_cons (je_var 2) ja_nil)) ja_nil))))
  (jb_cons (js_set (i := 4) sc__law_spoilt.nd rfl (Or.inl rfl) (je_ix ixd (je_var 1) je_int))
  (jb_cons (js_set (i := 5) sc__law_spoilt.nd rfl (Or.inl rfl) (je_call d__law_take (hr.mono (by decide)) (L2N.takes_of rfl rfl rfl rfl) rfl (ja_cons (je_var 0) (ja_cons je_int ja_nil))))
  (jb_cons (js_if (jt_cmp (opd_eq (huR hr)) (je_var 5) je_int rfl) (jb_one (js_ret je_non)) jb_nil)
  (jb_cons (js_if (jt_cmp (opd_eq (huR hr)) (je_var 5) je_int rfl) (jb_one (js_ret (je_tup (ja_cons (je_var 2) ja_nil) (flen_cons flen_nil)))) jb_nil)
  (jb_cons (js_if (jt_cmp (opd_eq (huR hr)) (je_var 5) je_int rfl) (jb_one (js_ret (je_tup (ja_cons (je_sl sld (je_var 2) jo_no (jo_part (je_un und_neg je_int))) (ja_cons (je_var 4) ja_nil)) (flen_cons (flen_cons flen_nil))))) jb_nil)
  (jb_cons (js_if (jt_cmp (opd_eq (huR hr)) (je_var 5) je_int rfl) (jb_one (js_ret (je_tup (ja_cons (je_op opd_add (je_var 2) (je_tup (ja_cons (je_tup (ja_cons je_int (ja_cons je_int ja_nil)) (flen_cons (flen_cons flen_nil))) ja_nil) (flen_cons flen_nil))) (ja_cons (je_var 4) ja_nil)) (flen_cons (flen_cons flen_nil))))) jb_nil)
  (jb_cons (js_if (jt_cmp (opd_eq (huR hr)) (je_var 5) je_int rfl) (jb_one (js_ret (je_tup (ja_cons (je_var 2) (ja_cons je_non ja_nil)) (flen_cons (flen_cons flen_nil))))) jb_nil)
  (jb_cons (js_if (jt_cmp (opd_eq (huR hr)) (je_var 5) je_int rfl) (jb_one (js_ret (je_tup (ja_cons (je_var 2) (ja_cons (je_var 4) (ja_cons (je_var 4) ja_nil))) (flen_cons (flen_cons (flen_cons flen_nil)))))) jb_nil)
  (jb_cons (js_if (jt_cmp (opd_eq (huR hr)) (je_var 5) je_int rfl) (jb_one (js_ret (je_tup (ja_cons je_non (ja_cons (je_var 4) ja_nil)) (flen_cons (flen_cons flen_nil))))) jb_nil)
  (jb_cons (js_if (jt_cmp (opd_eq (huR hr)) (je_var 5) je_int rfl) (jb_one (js_ret je_int)) jb_nil)
  (jb_cons (js_set (i := 6) sc__law_spoilt.nd rfl (Or.inl rfl) (je_ix ixd (je_lst (ja_cons (je_tup (ja_cons je_int (ja_cons je_int ja_nil)) (flen_cons (flen_cons flen_nil))) (ja_cons (je_tup (ja_cons je_int (ja_cons je_int ja_nil)) (flen_cons (flen_cons flen_nil))) (ja_cons (je_tup (ja_cons je_int (ja_cons (je_un und_neg je_int) ja_nil)) (flen_cons (flen_cons flen_nil))) (ja_cons je_int (ja_cons (je_tup (ja_cons je_bl (ja_cons je_int ja_nil)) (flen_cons (flen_cons flen_nil))) ja_nil))))) (flen_cons (flen_cons (flen_cons (flen_cons (flen_cons flen_nil)))))) (je_op opd_sub (je_var 5) je_int)))
  (jb_one (js_ret (je_tup (ja_cons (je_op opd_add (je_op opd_add (je_sl sld (je_var 2) jo_no (jo_part (je_var 3))) (je_tup (ja_cons (je_var 6) ja_nil) (flen_cons flen_nil))) (je_sl sld (je_var 2) (jo_part (je_op opd_add (je_var 3) je_int)) jo_no)) (ja_cons (je_var 4) ja_nil)) (flen_cons (flen_cons flen_nil))))))))))))))))))
theorem d__law_spoilt (G : Gs P K mg) (d__law_take : DefOk false P w K mg base ("_law_take" : Str) [] 2 g__law_take) (gm : mg ("_law_spoilt" : Str) = some (.ref (He.fAd K (("_law_spoilt" : Str), none)))) {fd : FuncData} (F : FunD K ("_law_spoilt" : Str) ("_law_spoilt" : Str) (defArgs st__law_spoilt) (defBody st__law_spoilt) (defScope st__law_spoilt) [] [] (He.fAd K (("_law_spoilt" : Str), none)) fd) : DefOk false P w K mg base ("_law_spoilt" : Str) [] 3 g__law_spoilt :=
  ⟨_, gm, F.kp, rn_pos (hot := false) (def_ok F sc__law_spoilt fun cdv A outer s H E hr => jb__law_spoilt G d__law_take hr) rfl (F.bindsN fun _ _ _ _ _ _ us hl => match us, hl with | [_, _], _ => rfl)⟩
theorem jb__law_refused (G : Gs P K mg) (d_shows_empty : DefOk false P w K mg base ("shows_empty" : Str) [] 6 g_shows_empty) (d__law_take : DefOk false P w K mg base ("_law_take" : Str) [] 2 g__law_take) (dh__law_is_int : DefOk true P w K mg base ("_law_is_int" : Str) [] 1 g__law_is_int) (d__law_spoilt : DefOk false P w K mg base ("_law_spoilt" : Str) [] 3 g__law_spoilt) {f : Addr} {cdv : Value} {A : Around} {outer : List PySem.Env} {s : Shared} {H : Hp} {E : XK} (hr : Room 6 (A.deeper (envOfC ("_law_refused" : Str) (defScope st__law_refused) s.heap.objs.size f cdv))) :
    JB (cxOf (L2N.CX P w) P w K mg base [("box" : Str), ("facts" : Str), ("size" : Str), ("paper" : Str), ("first" : Str), ("second" : Str), ("bad" : Str), ("k" : Str), ("thing" : Str), ("kept" : Str), ("e" : Str)] ("_law_refused" : Str) (defScope st__law_refused) f cdv A outer s H E) (wcE E) (defBody st__law_refused) m__law_refused :=
  (jb_cons (js_set (i := 4) sc__law_refused.nd rfl (Or.inl rfl) (je_call d__law_take (hr.mono (by decide)) (L2N.takes_of rfl rfl rfl rfl) rfl (ja_cons (je_var 0) (ja_cons (je_callB cad_len rfl G.free_len bt_len (ja_cons (je_var 1) ja_nil)) ja_nil))))
  (jb_cons (js_set (i := 5) sc__law_refused.nd rfl (Or.inl rfl) (je_op opd_add (je_var 4) (je_call d__law_take (hr.mono (by decide)) (L2N.takes_of rfl rfl rfl rfl) rfl (ja_cons (je_var 0) (ja_cons (je_op opd_sub (je_callB cad_len rfl G.free_len bt_len (ja_cons (je_var 1) ja_nil)) (je_var 4)) ja_nil)))))
  (jb_cons (js_set (i := 6) sc__law_refused.nd rfl (Or.inl rfl) (je_callTy cad_list rfl G.free_list bt_list (ja_cons (je_var 1) ja_nil)))
  (jb_cons (js_for (L2.passes_of rfl) rfl (je_lst (ja_cons (je_var 4) (ja_cons (je_var 5) ja_nil)) (flen_cons (flen_cons flen_nil))) (jg_name (i := 7) sc__law_refused.nd rfl (Or.inl rfl)) (jb_one (js_store (je_var 6) (je_var 7) (je_call d__law_spoilt (hr.mono (by decide)) (L2N.takes_of rfl rfl rfl rfl) rfl (ja_cons (je_var 0) (ja_cons (je_ix ixd (je_var 1) (je_var 7)) ja_nil))) (fun _ => rfl))))
  (jb_cons (js_set (i := 8) sc__law_refused.nd rfl (Or.inl rfl) (je_ix ixd (je_lst (ja_cons (je_var 3) (ja_cons je_non (ja_cons (je_tup ja_nil flen_nil) (ja_cons (je_callTy cad_list rfl G.free_list bt_list (ja_cons (je_var 3) ja_nil)) ja_nil)))) (flen_cons (flen_cons (flen_cons (flen_cons flen_nil))))) (je_call d__law_take (hr.mono (by decide)) (L2N.takes_of rfl rfl rfl rfl) rfl (ja_cons (je_var 0) (ja_cons je_int ja_nil)))))
  (jb_cons (js_set (i := 9) sc__law_refused.nd rfl (Or.inl rfl) (je_callTy cad_list rfl G.free_list bt_list (ja_cons (je_var 6) ja_nil)))
  (jb_cons (js_try_as (i := 10) rfl rfl sc__law_refused.nd rfl rfl ⟨rfl, by decide, .inl G.glo_FitError⟩ (L2N.takes_of rfl rfl rfl rfl) G.tx_FitError (fun WB pn xe tkT hpT => (jb_one (js_expr (je_call d_shows_empty (hr.mono (by decide)) tkT rfl (ja_cons (je_var 6) (ja_cons (je_var 2) (ja_cons (je_var 8) ja_nil))))))) (fun e k a Ca dx oe pn hm hz hd => (jb_cons (js_if (PW.pt (jw_or (jt_not (jt_tru (je_isX ⟨hm, hz, hd, List.mem_cons_self, List.mem_cons_of_mem _ List.mem_cons_self⟩ G.ti_BadFacts (pe_glob (X := _) (v := .ref _) rfl G.glo_BadFacts rfl) (fun u h => h) rfl G.free_isinstance (je_var 10)))) (jw_or1 (jt_not (jt_tru (je_isX ⟨hm, hz, hd, List.mem_cons_self, List.mem_cons_of_mem _ List.mem_cons_self⟩ G.ti_ValueError (pe_bltn (X := _) (v := .ty "ValueError") rfl G.free_ValueError bt_ValueError rfl) (fun u h => h) rfl G.free_isinstance (je_var 10))))))) (jb_one (js_ret je_bl)) jb_nil)
  (jb_cons (js_if (PW.pt (jw_or (jt_tru (je_isX ⟨hm, hz, hd, List.mem_cons_self, List.mem_cons_of_mem _ List.mem_cons_self⟩ G.ti_BadForm (pe_glob (X := _) (v := .ref _) rfl G.glo_BadForm rfl) (fun u h => h) rfl G.free_isinstance (je_var 10))) (jw_or1 (jt_tru (je_isX ⟨hm, hz, hd, List.mem_cons_self, List.mem_cons_of_mem _ List.mem_cons_self⟩ G.ti_EmptyRegion (pe_glob (X := _) (v := .ref _) rfl G.glo_EmptyRegion rfl) (fun u h => h) rfl G.free_isinstance (je_var 10)))))) (jb_one (js_ret je_bl)) jb_nil)
  (jb_one (js_ret (je_and (je_call dh__law_is_int ⟨(roomMk hr (some (.ref a))).mono (by decide), hotSu hz hd⟩ takes_suite rfl (ja_cons (je_xf ⟨hm, hz, hd, List.mem_cons_self, List.mem_cons_of_mem _ List.mem_cons_self⟩ G.fld_index (je_var 10)) ja_nil)) (je_and (je_cmp (opd_eq (huH (roomMk hr (some (.ref a))))) (je_xf ⟨hm, hz, hd, List.mem_cons_self, List.mem_cons_of_mem _ List.mem_cons_self⟩ G.fld_index (je_var 10)) (je_var 4) rfl) (je_one (je_cmp (opd_eq (huH (roomMk hr (some (.ref a))))) (je_var 6) (je_var 9) rfl))))))))))
  (jb_one (js_ret je_bl)))))))))
theorem d__law_refused (G : Gs P K mg) (d_shows_empty : DefOk false P w K mg base ("shows_empty" : Str) [] 6 g_shows_empty) (d__law_take : DefOk false P w K mg base ("_law_take" : Str) [] 2 g__law_take) (dh__law_is_int : DefOk true P w K mg base ("_law_is_int" : Str) [] 1 g__law_is_int) (d__law_spoilt : DefOk false P w K mg base ("_law_spoilt" : Str) [] 3 g__law_spoilt) (gm : mg ("_law_refused" : Str) = some (.ref (He.fAd K (("_law_refused" : Str), none)))) {fd : FuncData} (F : FunD K ("_law_refused" : Str) ("_law_refused" : Str) (defArgs st__law_refused) (defBody st__law_refused) (defScope st__law_refused) [] [] (He.fAd K (("_law_refused" : Str), none)) fd) : DefOk false P w K mg base ("_law_refused" : Str) [] 7 g__law_refused :=
  ⟨_, gm, F.kp, rn_pos (hot := false) (def_ok F sc__law_refused fun cdv A outer s H E hr => jb__law_refused G d_shows_empty d__law_take dh__law_is_int d__law_spoilt hr) rfl (F.bindsN fun _ _ _ _ _ _ us hl => match us, hl with | [_, _, _, _], _ => rfl)⟩
theorem jb_law (G : Gs P K mg) (d__law_open : DefOk false P w K mg base ("_law_open" : Str) [] 1 g__law_open) (d__law_take : DefOk false P w K mg base ("_law_take" : Str) [] 2 g__law_take) (d__law_num : DefOk false P w K mg base ("_law_num" : Str) [] 2 g__law_num) (d__law_balanced : DefOk false P w K mg base ("_law_balanced" : Str) [] 4 g__law_balanced) (d__law_form : DefOk false P w K mg base ("_law_form" : Str) [] 4 g__law_form) (d__law_paper : DefOk false P w K mg base ("_law_paper" : Str) [] 3 g__law_paper) (d__law_bent : DefOk false P w K mg base ("_law_bent" : Str) [] 5 g__law_bent) (d__law_answers : DefOk false P w K mg base ("_law_answers" : Str) [] 7 g__law_answers) (d__law_with : DefOk false P w K mg base ("_law_with" : Str) [] 1 g__law_with) (d__law_facts : DefOk false P w K mg base ("_law_facts" : Str) [] 5 g__law_facts) (d__law_opposite : DefOk false P w K mg base ("_law_opposite" : Str) [] 8 g__law_opposite) (d__law_refused : DefOk false P w K mg base ("_law_refused" : Str) [] 7 g__law_refused) {f : Addr} {cdv : Value} {A : Around} {outer : List PySem.Env} {s : Shared} {H : Hp} {E : XK} (hr : Room 8 (A.deeper (envOfC ("law" : Str) (defScope st_law) s.heap.objs.size f cdv))) :
    JB (cxOf (L2N.CX P w) P w K mg base [("script" : Str), ("box" : Str), ("size" : Str), ("count" : Str), ("spot" : Str), ("far" : Str), ("paper" : Str), ("forms" : Str), ("drop" : Str), ("one" : Str), ("constant" : Str), ("flags" : Str), ("facts" : Str), ("bent" : Str), ("fact" : Str), ("k" : Str)] ("law" : Str) (defScope st_law) f cdv A outer s H E) (wcE E) (defBody st_law) m_law :=
  (jb_cons (js_set (i := 1) sc_law.nd rfl (Or.inr rfl) (je_call d__law_open (hr.mono (by decide)) (L2N.takes_of rfl rfl rfl rfl) rfl (ja_cons (je_var 0) ja_nil)))
  (jb_cons (js_set (i := 2) sc_law.nd rfl (Or.inr rfl) (je_op opd_add je_int (je_call d__law_take (hr.mono (by decide)) (L2N.takes_of rfl rfl rfl rfl) rfl (ja_cons (je_var 1) (ja_cons je_int ja_nil)))))
  (jb_cons (js_set (i := 3) sc_law.nd rfl (Or.inl rfl) (je_op opd_add je_int (je_call d__law_take (hr.mono (by decide)) (L2N.takes_of rfl rfl rfl rfl) rfl (ja_cons (je_var 1) (ja_cons je_int ja_nil)))))
  (jb_cons (js_set (i := 4) sc_law.nd rfl (Or.inr rfl) (je_call d__law_take (hr.mono (by decide)) (L2N.takes_of rfl rfl rfl rfl) rfl (ja_cons (je_var 1) (ja_cons (je_var 3) ja_nil))))
  (jb_cons (js_set (i := 5) sc_law.nd rfl (Or.inr rfl) (je_cmp (opd_eq (huR hr)) (je_call d__law_take (hr.mono (by decide)) (L2N.takes_of rfl rfl rfl rfl) rfl (ja_cons (je_var 1) (ja_cons je_int ja_nil))) je_int rfl))
  (jb_cons (js_set (i := 6) sc_law.nd rfl (Or.inl rfl) (je_call d__law_paper (hr.mono (by decide)) (L2N.takes_of rfl rfl rfl rfl) rfl (ja_cons (je_var 1) (ja_cons (je_var 3) (ja_cons (je_var 4) ja_nil)))))
  (jb_cons (js_setLc (i := 7) [(("k" : Str), 15)] rfl rfl sc_law.nd rfl rfl (sw_true rfl rfl rfl (by decide +kernel)) (ji_rng1 rfl G.free_range (ja_cons (je_var 3) ja_nil)) (blkOk_by (N := [("script" : Str), ("box" : Str), ("size" : Str), ("count" : Str), ("spot" : Str), ("far" : Str), ("paper" : Str), ("forms" : Str), ("drop" : Str), ("one" : Str), ("constant" : Str), ("flags" : Str), ("facts" : Str), ("bent" : Str), ("fact" : Str), ("k" : Str)]) (sc := defScope st_law) (own := [(("k" : Str), 15)]) (by decide +kernel)) (fun _ _ _ _ _ => (jgw_name (i := 15) sc_law.nd rfl (by decide))) (fun _ _ _ _ _ => jts_nil) (fun _ _ _ _ _ => (je_call d__law_form (hr.mono (by decide)) takes_no rfl (ja_cons (je_var 1) (ja_cons (je_var 2) (ja_cons (je_var 5) ja_nil))))))
  (jb_cons (js_set (i := 8) sc_law.nd rfl (Or.inl rfl) (je_call d__law_num (hr.mono (by decide)) (L2N.takes_of rfl rfl rfl rfl) rfl (ja_cons (je_op opd_sub (je_un und_neg je_int) (je_call d__law_take (hr.mono (by decide)) (L2N.takes_of rfl rfl rfl rfl) rfl (ja_cons (je_var 1) (ja_cons je_int ja_nil)))) (ja_cons (je_op opd_add je_int (je_call d__law_take (hr.mono (by decide)) (L2N.takes_of rfl rfl rfl rfl) rfl (ja_cons (je_var 1) (ja_cons je_int ja_nil)))) ja_nil))))
  (jb_cons (js_for (L2.passes_of rfl) rfl (je_call d__law_facts (hr.mono (by decide)) (L2N.takes_of rfl rfl rfl rfl) rfl (ja_cons (je_var 1) (ja_cons (je_var 7) (ja_cons (je_var 6) (ja_cons (je_var 4) (ja_cons (je_var 8) ja_nil)))))) (jg_name (i := 9) sc_law.nd rfl (Or.inl rfl)) (jb_one (js_if (jt_not (jt_tru (je_call d__law_answers (hr.mono (by decide)) (L2N.takes_of rfl rfl rfl rfl) rfl (ja_cons (je_var 1) (ja_cons (je_call d__law_with (hr.mono (by decide)) (L2N.takes_of rfl rfl rfl rfl) rfl (ja_cons (je_ix ixd (je_var 9) je_int) (ja_cons (je_ix ixd (je_var 9) je_int) ja_nil))) (ja_cons (je_var 2) (ja_cons (je_ix ixd (je_var 9) je_int) ja_nil))))))) (jb_one (js_ret je_bl)) jb_nil)))
  (jb_cons (js_set (i := 10) sc_law.nd rfl (Or.inl rfl) (je_ix ixd (je_lst (ja_cons (je_var 8) (ja_cons (je_tup (ja_cons je_int (ja_cons je_int ja_nil)) (flen_cons (flen_cons flen_nil))) ja_nil)) (flen_cons (flen_cons flen_nil))) (je_call d__law_take (hr.mono (by decide)) (L2N.takes_of rfl rfl rfl rfl) rfl (ja_cons (je_var 1) (ja_cons je_int ja_nil)))))
  (jb_cons (js_setLc (i := 11) [(("k" : Str), 15)] rfl rfl sc_law.nd rfl rfl (sw_true rfl rfl rfl (by decide +kernel)) (ji_rng1 rfl G.free_range (ja_cons (je_var 3) ja_nil)) (blkOk_by (N := [("script" : Str), ("box" : Str), ("size" : Str), ("count" : Str), ("spot" : Str), ("far" : Str), ("paper" : Str), ("forms" : Str), ("drop" : Str), ("one" : Str), ("constant" : Str), ("flags" : Str), ("facts" : Str), ("bent" : Str), ("fact" : Str), ("k" : Str)]) (sc := defScope st_law) (own := [(("k" : Str), 15)]) (by decide +kernel)) (fun _ _ _ _ _ => (jgw_name (i := 15) sc_law.nd rfl (by decide))) (fun _ _ _ _ _ => jts_nil) (fun _ _ _ _ _ => (je_or (je_cmp (opd_eq (huR hr)) (je_var 15) (je_var 4) rfl) (je_one (je_cmp (opd_eq (huR hr)) (je_call d__law_take (hr.mono (by decide)) takes_no rfl (ja_cons (je_var 1) (ja_cons je_int ja_nil))) je_int rfl)))))
  (jb_cons (js_set (i := 12) sc_law.nd rfl (Or.inl rfl) (je_call d__law_with (hr.mono (by decide)) (L2N.takes_of rfl rfl rfl rfl) rfl (ja_cons (je_call d__law_balanced (hr.mono (by decide)) (L2N.takes_of rfl rfl rfl rfl) rfl (ja_cons (je_var 7) (ja_cons (je_var 6) (ja_cons (je_var 4) (ja_cons (je_var 10) ja_nil))))) (ja_cons (je_var 11) ja_nil))))
  (jb_cons (js_for (L2.passes_of rfl) rfl (je_call d__law_bent (hr.mono (by decide)) (L2N.takes_of rfl rfl rfl rfl) rfl (ja_cons (je_var 1) (ja_cons (je_var 6) (ja_cons (je_var 4) ja_nil)))) (jg_name (i := 13) sc_law.nd rfl (Or.inl rfl)) (jb_one (js_if (jt_not (jt_tru (je_call d__law_answers (hr.mono (by decide)) (L2N.takes_of rfl rfl rfl rfl) rfl (ja_cons (je_var 1) (ja_cons (je_var 12) (ja_cons (je_var 2) (ja_cons (je_var 13) ja_nil))))))) (jb_one (js_ret je_bl)) jb_nil)))
  (jb_cons (js_for (L2.passes_of rfl) rfl (je_sl sld (je_var 12) jo_no (jo_part je_int)) (jg_name (i := 14) sc_law.nd rfl (Or.inl rfl)) (jb_one (js_if (jt_not (jt_tru (je_call d__law_opposite (hr.mono (by decide)) (L2N.takes_of rfl rfl rfl rfl) rfl (ja_cons (je_var 1) (ja_cons (je_var 14) (ja_cons (je_var 2) ja_nil)))))) (jb_one (js_ret je_bl)) jb_nil)))
  (jb_one (js_ret (je_call d__law_refused (hr.mono (by decide)) (L2N.takes_of rfl rfl rfl rfl) rfl (ja_cons (je_var 1) (ja_cons (je_var 12) (ja_cons (je_var 2) (ja_cons (je_var 6) ja_nil)))))))))))))))))))))
theorem law_ok (G : Gs P K mg) (d__law_open : DefOk false P w K mg base ("_law_open" : Str) [] 1 g__law_open) (d__law_take : DefOk false P w K mg base ("_law_take" : Str) [] 2 g__law_take) (d__law_num : DefOk false P w K mg base ("_law_num" : Str) [] 2 g__law_num) (d__law_balanced : DefOk false P w K mg base ("_law_balanced" : Str) [] 4 g__law_balanced) (d__law_form : DefOk false P w K mg base ("_law_form" : Str) [] 4 g__law_form) (d__law_paper : DefOk false P w K mg base ("_law_paper" : Str) [] 3 g__law_paper) (d__law_bent : DefOk false P w K mg base ("_law_bent" : Str) [] 5 g__law_bent) (d__law_answers : DefOk false P w K mg base ("_law_answers" : Str) [] 7 g__law_answers) (d__law_with : DefOk false P w K mg base ("_law_with" : Str) [] 1 g__law_with) (d__law_facts : DefOk false P w K mg base ("_law_facts" : Str) [] 5 g__law_facts) (d__law_opposite : DefOk false P w K mg base ("_law_opposite" : Str) [] 8 g__law_opposite) (d__law_refused : DefOk false P w K mg base ("_law_refused" : Str) [] 7 g__law_refused) {f : Addr} {fd : FuncData} (F : FunD K ("law" : Str) ("law" : Str) (defArgs st_law) (defBody st_law) (defScope st_law) [] [] f fd) : FnOk P w K mg base (L2N.CX P w) 9 f fd [("script" : Str)] (spG K mg (arN 1 (den 16 m_law))) :=
  def_ok F sc_law fun cdv A outer s H E hr => jb_law G d__law_open d__law_take d__law_num d__law_balanced d__law_form d__law_paper d__law_bent d__law_answers d__law_with d__law_facts d__law_opposite d__law_refused hr
end
end K04

set_option Elab.async false
set_option linter.all false
set_option maxRecDepth 100000
set_option maxHeartbeats 0
namespace K04
open PySem PySem.Spec PyProof.Rows L2 MP
abbrev Rw : PySem.W.OpenRow := PySem.W.OpenLaw.row PySem.Challenge.rw_pagefit_k04_multipliers_shown
def theFile : Str := Rw.prog.main.file
def dd__law_open : He.DefD := ⟨(("_law_open" : Str), none), ("_law_open" : Str), ("_law_open" : Str), defArgs st__law_open, defBody st__law_open, defScope st__law_open, [], []⟩
def dd__law_mix : He.DefD := ⟨(("_law_mix" : Str), none), ("_law_mix" : Str), ("_law_mix" : Str), defArgs st__law_mix, defBody st__law_mix, defScope st__law_mix, [], []⟩
def dd__law_take : He.DefD := ⟨(("_law_take" : Str), none), ("_law_take" : Str), ("_law_take" : Str), defArgs st__law_take, defBody st__law_take, defScope st__law_take, [], []⟩
def dd__law_gcd : He.DefD := ⟨(("_law_gcd" : Str), none), ("_law_gcd" : Str), ("_law_gcd" : Str), defArgs st__law_gcd, defBody st__law_gcd, defScope st__law_gcd, [], []⟩
def dd__law_num : He.DefD := ⟨(("_law_num" : Str), none), ("_law_num" : Str), ("_law_num" : Str), defArgs st__law_num, defBody st__law_num, defScope st__law_num, [], []⟩
def dd__law_add : He.DefD := ⟨(("_law_add" : Str), none), ("_law_add" : Str), ("_law_add" : Str), defArgs st__law_add, defBody st__law_add, defScope st__law_add, [], []⟩
def dd__law_mul : He.DefD := ⟨(("_law_mul" : Str), none), ("_law_mul" : Str), ("_law_mul" : Str), defArgs st__law_mul, defBody st__law_mul, defScope st__law_mul, [], []⟩
def dd__law_neg : He.DefD := ⟨(("_law_neg" : Str), none), ("_law_neg" : Str), ("_law_neg" : Str), defArgs st__law_neg, defBody st__law_neg, defScope st__law_neg, [], []⟩
def dd__law_balanced : He.DefD := ⟨(("_law_balanced" : Str), none), ("_law_balanced" : Str), ("_law_balanced" : Str), defArgs st__law_balanced, defBody st__law_balanced, defScope st__law_balanced, [], []⟩
def dd__law_small : He.DefD := ⟨(("_law_small" : Str), none), ("_law_small" : Str), ("_law_small" : Str), defArgs st__law_small, defBody st__law_small, defScope st__law_small, [], []⟩
def dd__law_form : He.DefD := ⟨(("_law_form" : Str), none), ("_law_form" : Str), ("_law_form" : Str), defArgs st__law_form, defBody st__law_form, defScope st__law_form, [], []⟩
def dd__law_paper : He.DefD := ⟨(("_law_paper" : Str), none), ("_law_paper" : Str), ("_law_paper" : Str), defArgs st__law_paper, defBody st__law_paper, defScope st__law_paper, [], []⟩
def dd__law_put : He.DefD := ⟨(("_law_put" : Str), none), ("_law_put" : Str), ("_law_put" : Str), defArgs st__law_put, defBody st__law_put, defScope st__law_put, [], []⟩
def dd__law_scaled : He.DefD := ⟨(("_law_scaled" : Str), none), ("_law_scaled" : Str), ("_law_scaled" : Str), defArgs st__law_scaled, defBody st__law_scaled, defScope st__law_scaled, [], []⟩
def dd__law_bent : He.DefD := ⟨(("_law_bent" : Str), none), ("_law_bent" : Str), ("_law_bent" : Str), defArgs st__law_bent, defBody st__law_bent, defScope st__law_bent, [], []⟩
def dd_sign : He.DefD := ⟨(("sign" : Str), none), ("sign" : Str), ("sign" : Str), defArgs st_sign, defBody st_sign, defScope st_sign, [], []⟩
def dd_ratio : He.DefD := ⟨(("ratio" : Str), none), ("ratio" : Str), ("ratio" : Str), defArgs st_ratio, defBody st_ratio, defScope st_ratio, [He.Dv.int 1], []⟩
def dd_times : He.DefD := ⟨(("times" : Str), none), ("times" : Str), ("times" : Str), defArgs st_times, defBody st_times, defScope st_times, [], []⟩
def dd_form_times : He.DefD := ⟨(("form_times" : Str), none), ("form_times" : Str), ("form_times" : Str), defArgs st_form_times, defBody st_form_times, defScope st_form_times, [], []⟩
def dd_flat : He.DefD := ⟨(("flat" : Str), none), ("flat" : Str), ("flat" : Str), defArgs st_flat, defBody st_flat, defScope st_flat, [], []⟩
def dd_plus : He.DefD := ⟨(("plus" : Str), none), ("plus" : Str), ("plus" : Str), defArgs st_plus, defBody st_plus, defScope st_plus, [], []⟩
def dd_form_plus : He.DefD := ⟨(("form_plus" : Str), none), ("form_plus" : Str), ("form_plus" : Str), defArgs st_form_plus, defBody st_form_plus, defScope st_form_plus, [], []⟩
def dd_form_total : He.DefD := ⟨(("form_total" : Str), none), ("form_total" : Str), ("form_total" : Str), defArgs st_form_total, defBody st_form_total, defScope st_form_total, [], []⟩
def dd__is_integer : He.DefD := ⟨(("_is_integer" : Str), none), ("_is_integer" : Str), ("_is_integer" : Str), defArgs st__is_integer, defBody st__is_integer, defScope st__is_integer, [], []⟩
def dd_is_number : He.DefD := ⟨(("is_number" : Str), none), ("is_number" : Str), ("is_number" : Str), defArgs st_is_number, defBody st_is_number, defScope st_is_number, [], []⟩
def dd_is_form : He.DefD := ⟨(("is_form" : Str), none), ("is_form" : Str), ("is_form" : Str), defArgs st_is_form, defBody st_is_form, defScope st_is_form, [], []⟩
def dd_is_fact : He.DefD := ⟨(("is_fact" : Str), none), ("is_fact" : Str), ("is_fact" : Str), defArgs st_is_fact, defBody st_is_fact, defScope st_is_fact, [], []⟩
def dd_check_region : He.DefD := ⟨(("check_region" : Str), none), ("check_region" : Str), ("check_region" : Str), defArgs st_check_region, defBody st_check_region, defScope st_check_region, [], []⟩
def dd_are_multipliers : He.DefD := ⟨(("are_multipliers" : Str), none), ("are_multipliers" : Str), ("are_multipliers" : Str), defArgs st_are_multipliers, defBody st_are_multipliers, defScope st_are_multipliers, [], []⟩
def dd_shows_empty : He.DefD := ⟨(("shows_empty" : Str), none), ("shows_empty" : Str), ("shows_empty" : Str), defArgs st_shows_empty, defBody st_shows_empty, defScope st_shows_empty, [], []⟩
def dd__law_is_int : He.DefD := ⟨(("_law_is_int" : Str), none), ("_law_is_int" : Str), ("_law_is_int" : Str), defArgs st__law_is_int, defBody st__law_is_int, defScope st__law_is_int, [], []⟩
def dd__law_is_number : He.DefD := ⟨(("_law_is_number" : Str), none), ("_law_is_number" : Str), ("_law_is_number" : Str), defArgs st__law_is_number, defBody st__law_is_number, defScope st__law_is_number, [], []⟩
def dd__law_weighted : He.DefD := ⟨(("_law_weighted" : Str), none), ("_law_weighted" : Str), ("_law_weighted" : Str), defArgs st__law_weighted, defBody st__law_weighted, defScope st__law_weighted, [], []⟩
def dd__law_shows : He.DefD := ⟨(("_law_shows" : Str), none), ("_law_shows" : Str), ("_law_shows" : Str), defArgs st__law_shows, defBody st__law_shows, defScope st__law_shows, [], []⟩
def dd__law_answers : He.DefD := ⟨(("_law_answers" : Str), none), ("_law_answers" : Str), ("_law_answers" : Str), defArgs st__law_answers, defBody st__law_answers, defScope st__law_answers, [], []⟩
def dd__law_with : He.DefD := ⟨(("_law_with" : Str), none), ("_law_with" : Str), ("_law_with" : Str), defArgs st__law_with, defBody st__law_with, defScope st__law_with, [], []⟩
def dd__law_facts : He.DefD := ⟨(("_law_facts" : Str), none), ("_law_facts" : Str), ("_law_facts" : Str), defArgs st__law_facts, defBody st__law_facts, defScope st__law_facts, [], []⟩
def dd_opposite : He.DefD := ⟨(("opposite" : Str), none), ("opposite" : Str), ("opposite" : Str), defArgs st_opposite, defBody st_opposite, defScope st_opposite, [], []⟩
def dd__law_opposite : He.DefD := ⟨(("_law_opposite" : Str), none), ("_law_opposite" : Str), ("_law_opposite" : Str), defArgs st__law_opposite, defBody st__law_opposite, defScope st__law_opposite, [], []⟩
def dd__law_spoilt : He.DefD := ⟨(("_law_spoilt" : Str), none), ("_law_spoilt" : Str), ("_law_spoilt" : Str), defArgs st__law_spoilt, defBody st__law_spoilt, defScope st__law_spoilt, [], []⟩
def dd__law_refused : He.DefD := ⟨(("_law_refused" : Str), none), ("_law_refused" : Str), ("_law_refused" : Str), defArgs st__law_refused, defBody st__law_refused, defScope st__law_refused, [], []⟩
def dd_law : He.DefD := ⟨(("law" : Str), none), ("law" : Str), ("law" : Str), defArgs st_law, defBody st_law, defScope st_law, [], []⟩
def fnL : List He.DefD := [dd__law_open, dd__law_mix, dd__law_take, dd__law_gcd, dd__law_num, dd__law_add, dd__law_mul, dd__law_neg, dd__law_balanced, dd__law_small, dd__law_form, dd__law_paper, dd__law_put, dd__law_scaled, dd__law_bent, dd_sign, dd_ratio, dd_times, dd_form_times, dd_flat, dd_plus, dd_form_plus, dd_form_total, dd__is_integer, dd_is_number, dd_is_form, dd_is_fact, dd_check_region, dd_are_multipliers, dd_shows_empty, dd__law_is_int, dd__law_is_number, dd__law_weighted, dd__law_shows, dd__law_answers, dd__law_with, dd__law_facts, dd_opposite, dd__law_opposite, dd__law_spoilt, dd__law_refused, dd_law]
def fcL : List FrB := ([freeB ("ValueError" : Str), freeB ("abs" : Str), freeB ("all" : Str), freeB ("any" : Str), freeB ("bool" : Str), freeB ("enumerate" : Str), freeB ("int" : Str), freeB ("isinstance" : Str), freeB ("len" : Str), freeB ("list" : Str), freeB ("range" : Str), freeB ("tuple" : Str), freeB ("zip" : Str), bltB ("gcd" : Str) "math.gcd", gloB ("BadFacts" : Str), gloB ("BadForm" : Str), gloB ("BadNumber" : Str), gloB ("EmptyRegion" : Str), gloB ("FitError" : Str), MP.tupB ("ZERO" : Str) [He.Dv.int 0, He.Dv.int 1]] : List FrB) ++ ([freeB ("super" : Str), excB theFile ("BadFacts" : Str) [("index" : Str)], excB theFile ("BadNumber" : Str) [("value" : Str)], exmB1 ("BadFacts" : Str) (.glo ("FitError" : Str)) true, exmB1 ("BadNumber" : Str) (.glo ("FitError" : Str)) true, ixcB ("BadNumber" : Str), ixcB ("BadFacts" : Str), kitB1 ("BadFacts" : Str) (.glo ("BadFacts" : Str)) true, kitB1 ("BadNumber" : Str) (.glo ("BadFacts" : Str)) false, kitB1 ("BadFacts" : Str) (.ty "ValueError") true, kitB1 ("BadNumber" : Str) (.ty "ValueError") true, kitB1 ("BadFacts" : Str) (.glo ("BadForm" : Str)) false, kitB1 ("BadNumber" : Str) (.glo ("BadForm" : Str)) false, kitB1 ("BadFacts" : Str) (.glo ("EmptyRegion" : Str)) false, kitB1 ("BadNumber" : Str) (.glo ("EmptyRegion" : Str)) false, xfcB ("BadFacts" : Str) ("index" : Str), gloB ("_law_open" : Str), gloB ("_law_mix" : Str), gloB ("_law_take" : Str), gloB ("_law_gcd" : Str)] : List FrB) ++ ([gloB ("_law_num" : Str), gloB ("_law_add" : Str), gloB ("_law_mul" : Str), gloB ("_law_neg" : Str), gloB ("_law_balanced" : Str), gloB ("_law_small" : Str), gloB ("_law_form" : Str), gloB ("_law_paper" : Str), gloB ("_law_put" : Str), gloB ("_law_scaled" : Str), gloB ("_law_bent" : Str), gloB ("sign" : Str), gloB ("ratio" : Str), gloB ("times" : Str), gloB ("form_times" : Str), gloB ("flat" : Str), gloB ("plus" : Str), gloB ("form_plus" : Str), gloB ("form_total" : Str), gloB ("_is_integer" : Str)] : List FrB) ++ ([gloB ("is_number" : Str), gloB ("is_form" : Str), gloB ("is_fact" : Str), gloB ("check_region" : Str), gloB ("are_multipliers" : Str), gloB ("shows_empty" : Str), gloB ("_law_is_int" : Str), gloB ("_law_is_number" : Str), gloB ("_law_weighted" : Str), gloB ("_law_shows" : Str), gloB ("_law_answers" : Str), gloB ("_law_with" : Str), gloB ("_law_facts" : Str), gloB ("opposite" : Str), gloB ("_law_opposite" : Str), gloB ("_law_spoilt" : Str), gloB ("_law_refused" : Str), gloB ("law" : Str)] : List FrB)
def loose : List Str := (["FitError", "BadNumber", "BadForm", "BadFacts", "EmptyRegion", "ZERO", "ratio", "is_number", "_is_integer", "plus", "times", "sign", "flat", "is_form", "form_plus", "form_times", "form_total", "is_fact", "check_region", "opposite", "are_multipliers", "shows_empty", "_law_mix", "_law_open", "_law_take", "_law_gcd", "_law_num", "_law_add", "_law_mul", "_law_neg"] : List Str) ++ (["_law_is_int", "_law_is_number", "_law_weighted", "_law_shows", "_law_small", "_law_balanced", "_law_spoilt", "_law_form", "_law_paper", "_law_put", "_law_scaled", "_law_bent", "_law_answers", "_law_with", "_law_facts", "_law_opposite", "_law_refused"] : List Str)
abbrev hk : PySem.W.Hook := hookM 4 fcL fnL
def ob (s : PySem.W.SharedT) : AlM := obsMG 4 fcL fnL (HandSHeadRun.getT s)
theorem ob_eq (s : PySem.W.SharedT) : ob s = hk.obs s.abs := obsMG_eq (HandSHeadRun.getT_eq s)
theorem run (w : World) : HandSHeadRun.RunEqI Rw (PySem.W.view Rw.prog [0, 54]) hk ob 6000 loose w := by
  unfold HandSHeadRun.RunEqI
  kernel_rfl
theorem fw_of {K : PySem.W.Frag} {h : Heap} {mg : Str → Option Value} (X : K.In h) (Gm : h.Ns mainGlobals mg) (c : SaysM fcL fnL K) : FitW PySem.Challenge.rw_pagefit_k04_multipliers_shown.prog mg theFile := ⟨by kernel_rfl, by kernel_rfl, free_of X Gm (c.fact 20 rfl)⟩
theorem gs_of {K : PySem.W.Frag} {h : Heap} {mg : Str → Option Value} (X : K.In h) (Gm : h.Ns mainGlobals mg) (c : SaysM fcL fnL K) : Gs PySem.Challenge.rw_pagefit_k04_multipliers_shown.prog K mg := by
  have FW := fw_of X Gm c
  exact {
    free_ValueError := free_of X Gm (c.fact 0 rfl),
    free_abs := free_of X Gm (c.fact 1 rfl),
    free_all := free_of X Gm (c.fact 2 rfl),
    free_any := free_of X Gm (c.fact 3 rfl),
    free_bool := free_of X Gm (c.fact 4 rfl),
    free_enumerate := free_of X Gm (c.fact 5 rfl),
    free_int := free_of X Gm (c.fact 6 rfl),
    free_isinstance := free_of X Gm (c.fact 7 rfl),
    free_len := free_of X Gm (c.fact 8 rfl),
    free_list := free_of X Gm (c.fact 9 rfl),
    free_range := free_of X Gm (c.fact 10 rfl),
    free_tuple := free_of X Gm (c.fact 11 rfl),
    free_zip := free_of X Gm (c.fact 12 rfl),
    blt_gcd := blt_of X Gm (c.fact 13 rfl),
    glo_BadFacts := glo_of X Gm (c.fact 14 rfl),
    glo_BadForm := glo_of X Gm (c.fact 15 rfl),
    glo_BadNumber := glo_of X Gm (c.fact 16 rfl),
    glo_EmptyRegion := glo_of X Gm (c.fact 17 rfl),
    glo_FitError := glo_of X Gm (c.fact 18 rfl),
    const_ZERO := tup_of rfl X Gm (c.fact 19 rfl),
    exc_BadFacts := exc_of X Gm FW (c.fact 21 rfl),
    exc_BadNumber := exc_of X Gm FW (c.fact 22 rfl),
    tx_FitError := (tab_cons (cv := (.glo ("FitError" : Str))) (glo_of X Gm (c.fact 16 rfl)) (c.fact 24 rfl) (tab_cons (cv := (.glo ("FitError" : Str))) (glo_of X Gm (c.fact 14 rfl)) (c.fact 23 rfl) tab_nil)),
    ti_BadFacts := (tabi_cons (cv := (.glo ("BadFacts" : Str))) (glo_of X Gm (c.fact 16 rfl)) (ixc_of (c.fact 25 rfl)) (c.fact 28 rfl) (tabi_cons (cv := (.glo ("BadFacts" : Str))) (glo_of X Gm (c.fact 14 rfl)) (ixc_of (c.fact 26 rfl)) (c.fact 27 rfl) tabi_nil)),
    ti_ValueError := (tabi_cons (cv := (.ty "ValueError")) (glo_of X Gm (c.fact 16 rfl)) (ixc_of (c.fact 25 rfl)) (c.fact 30 rfl) (tabi_cons (cv := (.ty "ValueError")) (glo_of X Gm (c.fact 14 rfl)) (ixc_of (c.fact 26 rfl)) (c.fact 29 rfl) tabi_nil)),
    ti_BadForm := (tabi_cons (cv := (.glo ("BadForm" : Str))) (glo_of X Gm (c.fact 16 rfl)) (ixc_of (c.fact 25 rfl)) (c.fact 32 rfl) (tabi_cons (cv := (.glo ("BadForm" : Str))) (glo_of X Gm (c.fact 14 rfl)) (ixc_of (c.fact 26 rfl)) (c.fact 31 rfl) tabi_nil)),
    ti_EmptyRegion := (tabi_cons (cv := (.glo ("EmptyRegion" : Str))) (glo_of X Gm (c.fact 16 rfl)) (ixc_of (c.fact 25 rfl)) (c.fact 34 rfl) (tabi_cons (cv := (.glo ("EmptyRegion" : Str))) (glo_of X Gm (c.fact 14 rfl)) (ixc_of (c.fact 26 rfl)) (c.fact 33 rfl) tabi_nil)),
    fld_index := (fld_cons (glo_of X Gm (c.fact 14 rfl)) (c.fact 35 rfl) fld_nil) }
theorem law_fn {w : World} {K : PySem.W.Frag} {h : Heap} {mg : Str → Option Value} {fa : Addr} (X : K.In h) (Gm : h.Ns mainGlobals mg) (hmg : mg ("law" : Str) = some (.ref fa)) (c : SaysM fcL fnL K) :
    ∃ fd : FuncData, (∀ (s : Shared) (v : Value), BindsTo s fd ⟨[v], []⟩ [(("script" : Str), v)]) ∧ ∀ base : Heap, K.In base → base.Ns mainGlobals mg → FnOk PySem.Challenge.rw_pagefit_k04_multipliers_shown.prog w K mg base (L2N.CX PySem.Challenge.rw_pagefit_k04_multipliers_shown.prog w) 9 fa fd ["script"] (spG K mg (arN 1 (den 16 m_law))) := by
  have G := gs_of X Gm c
  obtain ⟨fd__law_open, F__law_open⟩ := c.def_ 0 (d := dd__law_open) rfl
  obtain ⟨fd__law_mix, F__law_mix⟩ := c.def_ 1 (d := dd__law_mix) rfl
  obtain ⟨fd__law_take, F__law_take⟩ := c.def_ 2 (d := dd__law_take) rfl
  obtain ⟨fd__law_gcd, F__law_gcd⟩ := c.def_ 3 (d := dd__law_gcd) rfl
  obtain ⟨fd__law_num, F__law_num⟩ := c.def_ 4 (d := dd__law_num) rfl
  obtain ⟨fd__law_add, F__law_add⟩ := c.def_ 5 (d := dd__law_add) rfl
  obtain ⟨fd__law_mul, F__law_mul⟩ := c.def_ 6 (d := dd__law_mul) rfl
  obtain ⟨fd__law_neg, F__law_neg⟩ := c.def_ 7 (d := dd__law_neg) rfl
  obtain ⟨fd__law_balanced, F__law_balanced⟩ := c.def_ 8 (d := dd__law_balanced) rfl
  obtain ⟨fd__law_small, F__law_small⟩ := c.def_ 9 (d := dd__law_small) rfl
  obtain ⟨fd__law_form, F__law_form⟩ := c.def_ 10 (d := dd__law_form) rfl
  obtain ⟨fd__law_paper, F__law_paper⟩ := c.def_ 11 (d := dd__law_paper) rfl
  obtain ⟨fd__law_put, F__law_put⟩ := c.def_ 12 (d := dd__law_put) rfl
  obtain ⟨fd__law_scaled, F__law_scaled⟩ := c.def_ 13 (d := dd__law_scaled) rfl
  obtain ⟨fd__law_bent, F__law_bent⟩ := c.def_ 14 (d := dd__law_bent) rfl
  obtain ⟨fd_sign, F_sign⟩ := c.def_ 15 (d := dd_sign) rfl
  obtain ⟨fd_ratio, F_ratio⟩ := c.def_ 16 (d := dd_ratio) rfl
  obtain ⟨fd_times, F_times⟩ := c.def_ 17 (d := dd_times) rfl
  obtain ⟨fd_form_times, F_form_times⟩ := c.def_ 18 (d := dd_form_times) rfl
  obtain ⟨fd_flat, F_flat⟩ := c.def_ 19 (d := dd_flat) rfl
  obtain ⟨fd_plus, F_plus⟩ := c.def_ 20 (d := dd_plus) rfl
  obtain ⟨fd_form_plus, F_form_plus⟩ := c.def_ 21 (d := dd_form_plus) rfl
  obtain ⟨fd_form_total, F_form_total⟩ := c.def_ 22 (d := dd_form_total) rfl
  obtain ⟨fd__is_integer, F__is_integer⟩ := c.def_ 23 (d := dd__is_integer) rfl
  obtain ⟨fd_is_number, F_is_number⟩ := c.def_ 24 (d := dd_is_number) rfl
  obtain ⟨fd_is_form, F_is_form⟩ := c.def_ 25 (d := dd_is_form) rfl
  obtain ⟨fd_is_fact, F_is_fact⟩ := c.def_ 26 (d := dd_is_fact) rfl
  obtain ⟨fd_check_region, F_check_region⟩ := c.def_ 27 (d := dd_check_region) rfl
  obtain ⟨fd_are_multipliers, F_are_multipliers⟩ := c.def_ 28 (d := dd_are_multipliers) rfl
  obtain ⟨fd_shows_empty, F_shows_empty⟩ := c.def_ 29 (d := dd_shows_empty) rfl
  obtain ⟨fd__law_is_int, F__law_is_int⟩ := c.def_ 30 (d := dd__law_is_int) rfl
  obtain ⟨fd__law_is_number, F__law_is_number⟩ := c.def_ 31 (d := dd__law_is_number) rfl
  obtain ⟨fd__law_weighted, F__law_weighted⟩ := c.def_ 32 (d := dd__law_weighted) rfl
  obtain ⟨fd__law_shows, F__law_shows⟩ := c.def_ 33 (d := dd__law_shows) rfl
  obtain ⟨fd__law_answers, F__law_answers⟩ := c.def_ 34 (d := dd__law_answers) rfl
  obtain ⟨fd__law_with, F__law_with⟩ := c.def_ 35 (d := dd__law_with) rfl
  obtain ⟨fd__law_facts, F__law_facts⟩ := c.def_ 36 (d := dd__law_facts) rfl
  obtain ⟨fd_opposite, F_opposite⟩ := c.def_ 37 (d := dd_opposite) rfl
  obtain ⟨fd__law_opposite, F__law_opposite⟩ := c.def_ 38 (d := dd__law_opposite) rfl
  obtain ⟨fd__law_spoilt, F__law_spoilt⟩ := c.def_ 39 (d := dd__law_spoilt) rfl
  obtain ⟨fd__law_refused, F__law_refused⟩ := c.def_ 40 (d := dd__law_refused) rfl
  obtain ⟨fd_law, F_law⟩ := c.def_ 41 (d := dd_law) rfl
  have gm__law_open := glo_of X Gm (x := ("_law_open" : Str)) (c.fact 36 rfl)
  have gm__law_mix := glo_of X Gm (x := ("_law_mix" : Str)) (c.fact 37 rfl)
  have gm__law_take := glo_of X Gm (x := ("_law_take" : Str)) (c.fact 38 rfl)
  have gm__law_gcd := glo_of X Gm (x := ("_law_gcd" : Str)) (c.fact 39 rfl)
  have gm__law_num := glo_of X Gm (x := ("_law_num" : Str)) (c.fact 40 rfl)
  have gm__law_add := glo_of X Gm (x := ("_law_add" : Str)) (c.fact 41 rfl)
  have gm__law_mul := glo_of X Gm (x := ("_law_mul" : Str)) (c.fact 42 rfl)
  have gm__law_neg := glo_of X Gm (x := ("_law_neg" : Str)) (c.fact 43 rfl)
  have gm__law_balanced := glo_of X Gm (x := ("_law_balanced" : Str)) (c.fact 44 rfl)
  have gm__law_small := glo_of X Gm (x := ("_law_small" : Str)) (c.fact 45 rfl)
  have gm__law_form := glo_of X Gm (x := ("_law_form" : Str)) (c.fact 46 rfl)
  have gm__law_paper := glo_of X Gm (x := ("_law_paper" : Str)) (c.fact 47 rfl)
  have gm__law_put := glo_of X Gm (x := ("_law_put" : Str)) (c.fact 48 rfl)
  have gm__law_scaled := glo_of X Gm (x := ("_law_scaled" : Str)) (c.fact 49 rfl)
  have gm__law_bent := glo_of X Gm (x := ("_law_bent" : Str)) (c.fact 50 rfl)
  have gm_sign := glo_of X Gm (x := ("sign" : Str)) (c.fact 51 rfl)
  have gm_ratio := glo_of X Gm (x := ("ratio" : Str)) (c.fact 52 rfl)
  have gm_times := glo_of X Gm (x := ("times" : Str)) (c.fact 53 rfl)
  have gm_form_times := glo_of X Gm (x := ("form_times" : Str)) (c.fact 54 rfl)
  have gm_flat := glo_of X Gm (x := ("flat" : Str)) (c.fact 55 rfl)
  have gm_plus := glo_of X Gm (x := ("plus" : Str)) (c.fact 56 rfl)
  have gm_form_plus := glo_of X Gm (x := ("form_plus" : Str)) (c.fact 57 rfl)
  have gm_form_total := glo_of X Gm (x := ("form_total" : Str)) (c.fact 58 rfl)
  have gm__is_integer := glo_of X Gm (x := ("_is_integer" : Str)) (c.fact 59 rfl)
  have gm_is_number := glo_of X Gm (x := ("is_number" : Str)) (c.fact 60 rfl)
  have gm_is_form := glo_of X Gm (x := ("is_form" : Str)) (c.fact 61 rfl)
  have gm_is_fact := glo_of X Gm (x := ("is_fact" : Str)) (c.fact 62 rfl)
  have gm_check_region := glo_of X Gm (x := ("check_region" : Str)) (c.fact 63 rfl)
  have gm_are_multipliers := glo_of X Gm (x := ("are_multipliers" : Str)) (c.fact 64 rfl)
  have gm_shows_empty := glo_of X Gm (x := ("shows_empty" : Str)) (c.fact 65 rfl)
  have gm__law_is_int := glo_of X Gm (x := ("_law_is_int" : Str)) (c.fact 66 rfl)
  have gm__law_is_number := glo_of X Gm (x := ("_law_is_number" : Str)) (c.fact 67 rfl)
  have gm__law_weighted := glo_of X Gm (x := ("_law_weighted" : Str)) (c.fact 68 rfl)
  have gm__law_shows := glo_of X Gm (x := ("_law_shows" : Str)) (c.fact 69 rfl)
  have gm__law_answers := glo_of X Gm (x := ("_law_answers" : Str)) (c.fact 70 rfl)
  have gm__law_with := glo_of X Gm (x := ("_law_with" : Str)) (c.fact 71 rfl)
  have gm__law_facts := glo_of X Gm (x := ("_law_facts" : Str)) (c.fact 72 rfl)
  have gm_opposite := glo_of X Gm (x := ("opposite" : Str)) (c.fact 73 rfl)
  have gm__law_opposite := glo_of X Gm (x := ("_law_opposite" : Str)) (c.fact 74 rfl)
  have gm__law_spoilt := glo_of X Gm (x := ("_law_spoilt" : Str)) (c.fact 75 rfl)
  have gm__law_refused := glo_of X Gm (x := ("_law_refused" : Str)) (c.fact 76 rfl)
  have gm_law := glo_of X Gm (x := ("law" : Str)) (c.fact 77 rfl)
  have e := hmg.symm.trans gm_law
  cases e
  have b := FunD.bindsA (ps := ["script"]) F_law fun _ _ _ _ _ _ us hl => match us, hl with | [_], _ => rfl
  refine ⟨fd_law, fun s v => b s [v] rfl, fun base _ _ => ?_⟩
  have kd__law_open : DefOk false PySem.Challenge.rw_pagefit_k04_multipliers_shown.prog w K mg base ("_law_open" : Str) [] 1 g__law_open := d__law_open G  gm__law_open F__law_open
  have kd__law_mix : DefOk false PySem.Challenge.rw_pagefit_k04_multipliers_shown.prog w K mg base ("_law_mix" : Str) [] 1 g__law_mix := d__law_mix G  gm__law_mix F__law_mix
  have kd__law_take : DefOk false PySem.Challenge.rw_pagefit_k04_multipliers_shown.prog w K mg base ("_law_take" : Str) [] 2 g__law_take := d__law_take G kd__law_mix gm__law_take F__law_take
  have kd__law_gcd : DefOk false PySem.Challenge.rw_pagefit_k04_multipliers_shown.prog w K mg base ("_law_gcd" : Str) [] 1 g__law_gcd := d__law_gcd G  gm__law_gcd F__law_gcd
  have kd__law_num : DefOk false PySem.Challenge.rw_pagefit_k04_multipliers_shown.prog w K mg base ("_law_num" : Str) [] 2 g__law_num := d__law_num G kd__law_gcd gm__law_num F__law_num
  have kd__law_add : DefOk false PySem.Challenge.rw_pagefit_k04_multipliers_shown.prog w K mg base ("_law_add" : Str) [] 3 g__law_add := d__law_add G kd__law_num gm__law_add F__law_add
  have kd__law_mul : DefOk false PySem.Challenge.rw_pagefit_k04_multipliers_shown.prog w K mg base ("_law_mul" : Str) [] 3 g__law_mul := d__law_mul G kd__law_num gm__law_mul F__law_mul
  have kd__law_neg : DefOk false PySem.Challenge.rw_pagefit_k04_multipliers_shown.prog w K mg base ("_law_neg" : Str) [] 1 g__law_neg := d__law_neg G  gm__law_neg F__law_neg
  have kd__law_balanced : DefOk false PySem.Challenge.rw_pagefit_k04_multipliers_shown.prog w K mg base ("_law_balanced" : Str) [] 4 g__law_balanced := d__law_balanced G kd__law_num kd__law_add kd__law_mul kd__law_neg gm__law_balanced F__law_balanced
  have kd__law_small : DefOk false PySem.Challenge.rw_pagefit_k04_multipliers_shown.prog w K mg base ("_law_small" : Str) [] 3 g__law_small := d__law_small G kd__law_take kd__law_num gm__law_small F__law_small
  have kd__law_form : DefOk false PySem.Challenge.rw_pagefit_k04_multipliers_shown.prog w K mg base ("_law_form" : Str) [] 4 g__law_form := d__law_form G kd__law_take kd__law_small gm__law_form F__law_form
  have kd__law_paper : DefOk false PySem.Challenge.rw_pagefit_k04_multipliers_shown.prog w K mg base ("_law_paper" : Str) [] 3 g__law_paper := d__law_paper G kd__law_take kd__law_num gm__law_paper F__law_paper
  have kd__law_put : DefOk false PySem.Challenge.rw_pagefit_k04_multipliers_shown.prog w K mg base ("_law_put" : Str) [] 1 g__law_put := d__law_put G  gm__law_put F__law_put
  have kd__law_scaled : DefOk false PySem.Challenge.rw_pagefit_k04_multipliers_shown.prog w K mg base ("_law_scaled" : Str) [] 4 g__law_scaled := d__law_scaled G kd__law_mul gm__law_scaled F__law_scaled
  have kd__law_bent : DefOk false PySem.Challenge.rw_pagefit_k04_multipliers_shown.prog w K mg base ("_law_bent" : Str) [] 5 g__law_bent := d__law_bent G kd__law_take kd__law_num kd__law_add kd__law_neg kd__law_put kd__law_scaled gm__law_bent F__law_bent
  have kd_sign : DefOk false PySem.Challenge.rw_pagefit_k04_multipliers_shown.prog w K mg base ("sign" : Str) [] 1 g_sign := d_sign G  gm_sign F_sign
  have kd_ratio : DefOk false PySem.Challenge.rw_pagefit_k04_multipliers_shown.prog w K mg base ("ratio" : Str) [] 1 g_ratio := d_ratio G  gm_ratio F_ratio
  have kd_times : DefOk false PySem.Challenge.rw_pagefit_k04_multipliers_shown.prog w K mg base ("times" : Str) [] 2 g_times := d_times G kd_ratio gm_times F_times
  have kd_form_times : DefOk false PySem.Challenge.rw_pagefit_k04_multipliers_shown.prog w K mg base ("form_times" : Str) [] 3 g_form_times := d_form_times G kd_times gm_form_times F_form_times
  have kd_flat : DefOk false PySem.Challenge.rw_pagefit_k04_multipliers_shown.prog w K mg base ("flat" : Str) [] 1 g_flat := d_flat G  gm_flat F_flat
  have kd_plus : DefOk false PySem.Challenge.rw_pagefit_k04_multipliers_shown.prog w K mg base ("plus" : Str) [] 2 g_plus := d_plus G kd_ratio gm_plus F_plus
  have kd_form_plus : DefOk false PySem.Challenge.rw_pagefit_k04_multipliers_shown.prog w K mg base ("form_plus" : Str) [] 3 g_form_plus := d_form_plus G kd_plus gm_form_plus F_form_plus
  have kd_form_total : DefOk false PySem.Challenge.rw_pagefit_k04_multipliers_shown.prog w K mg base ("form_total" : Str) [] 4 g_form_total := d_form_total G kd_flat kd_form_plus gm_form_total F_form_total
  have kd__is_integer : DefOk false PySem.Challenge.rw_pagefit_k04_multipliers_shown.prog w K mg base ("_is_integer" : Str) [] 1 g__is_integer := d__is_integer G  gm__is_integer F__is_integer
  have kd_is_number : DefOk false PySem.Challenge.rw_pagefit_k04_multipliers_shown.prog w K mg base ("is_number" : Str) [] 2 g_is_number := d_is_number G kd__is_integer gm_is_number F_is_number
  have kd_is_form : DefOk false PySem.Challenge.rw_pagefit_k04_multipliers_shown.prog w K mg base ("is_form" : Str) [] 3 g_is_form := d_is_form G kd_is_number gm_is_form F_is_form
  have kd_is_fact : DefOk false PySem.Challenge.rw_pagefit_k04_multipliers_shown.prog w K mg base ("is_fact" : Str) [] 4 g_is_fact := d_is_fact G kd_is_form gm_is_fact F_is_fact
  have kd_check_region : DefOk false PySem.Challenge.rw_pagefit_k04_multipliers_shown.prog w K mg base ("check_region" : Str) [] 5 g_check_region := d_check_region G kd_is_fact gm_check_region F_check_region
  have kd_are_multipliers : DefOk false PySem.Challenge.rw_pagefit_k04_multipliers_shown.prog w K mg base ("are_multipliers" : Str) [] 3 g_are_multipliers := d_are_multipliers G kd_is_number kd_sign gm_are_multipliers F_are_multipliers
  have kd_shows_empty : DefOk false PySem.Challenge.rw_pagefit_k04_multipliers_shown.prog w K mg base ("shows_empty" : Str) [] 6 g_shows_empty := d_shows_empty G kd_sign kd_form_times kd_form_total kd_check_region kd_are_multipliers gm_shows_empty F_shows_empty
  have kd__law_is_int : DefOk false PySem.Challenge.rw_pagefit_k04_multipliers_shown.prog w K mg base ("_law_is_int" : Str) [] 1 g__law_is_int := d__law_is_int G  gm__law_is_int F__law_is_int
  have kdh__law_is_int : DefOk true PySem.Challenge.rw_pagefit_k04_multipliers_shown.prog w K mg base ("_law_is_int" : Str) [] 1 g__law_is_int := dh__law_is_int G  gm__law_is_int F__law_is_int
  have kd__law_is_number : DefOk false PySem.Challenge.rw_pagefit_k04_multipliers_shown.prog w K mg base ("_law_is_number" : Str) [] 2 g__law_is_number := d__law_is_number G kd__law_gcd kd__law_is_int gm__law_is_number F__law_is_number
  have kd__law_weighted : DefOk false PySem.Challenge.rw_pagefit_k04_multipliers_shown.prog w K mg base ("_law_weighted" : Str) [] 1 g__law_weighted := d__law_weighted G  gm__law_weighted F__law_weighted
  have kd__law_shows : DefOk false PySem.Challenge.rw_pagefit_k04_multipliers_shown.prog w K mg base ("_law_shows" : Str) [] 3 g__law_shows := d__law_shows G kd__law_is_number kd__law_weighted gm__law_shows F__law_shows
  have kd__law_answers : DefOk false PySem.Challenge.rw_pagefit_k04_multipliers_shown.prog w K mg base ("_law_answers" : Str) [] 7 g__law_answers := d__law_answers G kd_shows_empty kd__law_take kd__law_shows gm__law_answers F__law_answers
  have kd__law_with : DefOk false PySem.Challenge.rw_pagefit_k04_multipliers_shown.prog w K mg base ("_law_with" : Str) [] 1 g__law_with := d__law_with G  gm__law_with F__law_with
  have kd__law_facts : DefOk false PySem.Challenge.rw_pagefit_k04_multipliers_shown.prog w K mg base ("_law_facts" : Str) [] 5 g__law_facts := d__law_facts G kd__law_take kd__law_num kd__law_add kd__law_neg kd__law_balanced kd__law_put gm__law_facts F__law_facts
  have kd_opposite : DefOk false PySem.Challenge.rw_pagefit_k04_multipliers_shown.prog w K mg base ("opposite" : Str) [] 4 g_opposite := d_opposite G kd_form_times gm_opposite F_opposite
  have kd__law_opposite : DefOk false PySem.Challenge.rw_pagefit_k04_multipliers_shown.prog w K mg base ("_law_opposite" : Str) [] 8 g__law_opposite := d__law_opposite G kd_opposite kd__law_neg kd__law_is_number kd__law_answers gm__law_opposite F__law_opposite
  have kd__law_spoilt : DefOk false PySem.Challenge.rw_pagefit_k04_multipliers_shown.prog w K mg base ("_law_spoilt" : Str) [] 3 g__law_spoilt := d__law_spoilt G kd__law_take gm__law_spoilt F__law_spoilt
  have kd__law_refused : DefOk false PySem.Challenge.rw_pagefit_k04_multipliers_shown.prog w K mg base ("_law_refused" : Str) [] 7 g__law_refused := d__law_refused G kd_shows_empty kd__law_take kdh__law_is_int kd__law_spoilt gm__law_refused F__law_refused
  exact law_ok G kd__law_open kd__law_take kd__law_num kd__law_balanced kd__law_form kd__law_paper kd__law_bent kd__law_answers kd__law_with kd__law_facts kd__law_opposite kd__law_refused F_law
end K04

set_option Elab.async false
set_option linter.all false
set_option maxRecDepth 100000
set_option maxHeartbeats 4000000
/-! MPLA: stores that only grow; comprehensions and loops over them. -/
namespace MP
open PySem
/-- all that stands stays -/
structure Gr (s s' : S) : Prop where
  len : s.length ≤ s'.length
  keep : ∀ (k : Nat) (o : Ob), s[k]? = some o → s'[k]? = some o
theorem Gr.refl {s : S} : Gr s s := ⟨Nat.le_refl _, fun _ _ h => h⟩
theorem Gr.trans {a b c : S} (h : Gr a b) (g : Gr b c) : Gr a c := ⟨Nat.le_trans h.len g.len, fun k o e => g.keep k o (h.keep k o e)⟩
theorem Gr.app {s : S} (os : List Ob) : Gr s (s ++ os) := ⟨by rw [List.length_append]; exact Nat.le_add_right _ _, fun k o e => app_at e os⟩
theorem Gr.wr {s s' : S} {n : Nat} {o : Ob} (h : Gr s s') (hn : s.length ≤ n) : Gr s (s'.set n o) :=
  ⟨by rw [List.length_set]; exact h.len, fun k o' e => by
    have := lt_of_at e
    rw [set_ne (show k ≠ n by omega)]
    exact h.keep k o' e⟩
theorem lstAt_of {s : S} {n : Nat} {xs : List D} (h : lstAt s n = some xs) : s[n]? = some (.lst xs) ∨ s[n]? = some (.fz xs) := by
  unfold lstAt at h
  split at h
  · rename_i e; cases h; exact .inl e
  · rename_i e; cases h; exact .inr e
  · cases h
theorem Gr.lst {s s' : S} {n : Nat} {xs : List D} (h : Gr s s') (e : lstAt s n = some xs) : lstAt s' n = some xs := by
  rcases lstAt_of e with e | e
  · exact lstAt_lst (h.keep _ _ e)
  · exact lstAt_fz (h.keep _ _ e)
theorem Gr.le {s s' : S} {n : Nat} (h : Gr s s') (hn : n < s.length) : n < s'.length := Nat.lt_of_lt_of_le hn h.len
def All2 (P : D → D → Prop) : List D → List D → Prop
  | [], vs => vs = []
  | d :: ds, vs => ∃ v r, vs = v :: r ∧ P d v ∧ All2 P ds r
theorem All2.map {F : D → D} : ∀ {ds vs : List D}, All2 (fun d v => v = F d) ds vs → vs = ds.map F
  | [], vs, h => h
  | d :: ds, vs, ⟨v, r, e, h1, h2⟩ => by rw [e, h1, All2.map h2]; rfl
theorem All2.len {P : D → D → Prop} : ∀ {ds vs : List D}, All2 P ds vs → vs.length = ds.length
  | [], vs, h => by rw [h]
  | d :: ds, vs, ⟨v, r, e, h1, h2⟩ => by rw [e, List.length_cons, List.length_cons, All2.len h2]
theorem All2.mem {P : D → D → Prop} : ∀ {ds vs : List D}, All2 P ds vs → ∀ v ∈ vs, ∃ d ∈ ds, P d v
  | [], vs, h, v, hv => by rw [h] at hv; cases hv
  | d :: ds, vs, ⟨w, r, e, h1, h2⟩, v, hv => by
    rw [e] at hv
    rcases List.mem_cons.mp hv with q | q
    · exact ⟨d, List.mem_cons_self, by rw [q]; exact h1⟩
    · obtain ⟨d', hd, hp⟩ := All2.mem h2 v q
      exact ⟨d', List.mem_cons_of_mem _ hd, hp⟩
theorem lcGo_inv {chk : S → Bool} {g : FG} {fe : FE} {ρ : En} {n : Nat} {J : S → Prop} {P : D → D → Prop} (hset : ∀ s o, J s → J (s.set n o)) (hchk : ∀ s, J s → chk s = true) :
    ∀ (ds acc : List D) (s : S), acc.length + ds.length < sizeLine → J s → s[n]? = some (.lst acc) →
    (∀ d ∈ ds, ∀ acc s, J s → s[n]? = some (.lst acc) → ∃ ρ1, g d s ρ = some ρ1 ∧ ∃ v s', fe ρ1 s = .ok v s' ∧ J s' ∧ s'[n]? = some (.lst acc) ∧ P d v) →
    ∃ vs s', lcGo chk g fYes fe ρ n ds s = .ok (.loc n) s' ∧ J s' ∧ s'[n]? = some (.lst (acc ++ vs)) ∧ All2 P ds vs
  | [], acc, s, hl, hj, hn, hb => ⟨[], s, by unfold lcGo; rw [if_pos (hchk s hj)], hj, by rw [List.append_nil]; exact hn, rfl⟩
  | d :: ds, acc, s, hl, hj, hn, hb => by
    obtain ⟨ρ1, e1, v, s1, e2, j1, n1, p1⟩ := hb d List.mem_cons_self acc s hj hn
    rw [List.length_cons] at hl
    obtain ⟨vs, s2, e3, j2, n2, p2⟩ := lcGo_inv (chk := chk) (g := g) (fe := fe) (ρ := ρ) (P := P) hset hchk ds (acc ++ [v]) (s1.set n (.lst (acc ++ [v]))) (by rw [List.length_append, List.length_singleton]; omega) (hset _ _ j1) (set_at (lt_of_at n1)) (fun d' h' => hb d' (List.mem_cons_of_mem _ h'))
    refine ⟨v :: vs, s2, ?_, j2, by rw [List.append_assoc] at n2; exact n2, v, vs, rfl, p1, p2⟩
    unfold lcGo
    rw [if_pos (hchk s hj), e1]
    simp only [fYes_ap, e2, n1]
    rw [if_pos (by omega)]
    exact e3
theorem fLc_inv {own : List Nat} {fi : FI} {g : FG} {fe : FE} {ρ : En} {st st1 : S} {ds : List D} {chk : S → Bool} {J : S → Prop} {P : D → D → Prop} (hi : fi ρ st = .ok (ds, chk) st1) (hl : ds.length < sizeLine)
    (h0 : J (st1 ++ [.lst []])) (hset : ∀ s o, J s → J (s.set st1.length o)) (hchk : ∀ s, J s → chk s = true)
    (hb : ∀ d ∈ ds, ∀ acc s, J s → s[st1.length]? = some (.lst acc) → ∃ ρ1, g d s (wipeE ρ own) = some ρ1 ∧ ∃ v s', fe ρ1 s = .ok v s' ∧ J s' ∧ s'[st1.length]? = some (.lst acc) ∧ P d v) :
    ∃ vs s', fLc own fi g fYes fe ρ st = .ok (.loc st1.length) s' ∧ J s' ∧ s'[st1.length]? = some (.lst vs) ∧ All2 P ds vs := by
  obtain ⟨vs, s', e, j, n, p⟩ := lcGo_inv (g := g) (fe := fe) (ρ := wipeE ρ own) (P := P) hset hchk ds [] (st1 ++ [.lst []]) (by simpa using hl) h0 app_new hb
  refine ⟨vs, s', ?_, j, by rw [List.nil_append] at n; exact n, p⟩
  unfold fLc
  rw [hi]
  exact e
/-- items that only add to the store -/
theorem fLc_gr {own : List Nat} {fi : FI} {g : FG} {fe : FE} {ρ : En} {st st1 : S} {ds : List D} {chk : S → Bool} (F : D → D) (hi : fi ρ st = .ok (ds, chk) st1) (hl : ds.length < sizeLine) (hchk : ∀ s, Gr st1 s → chk s = true)
    (hb : ∀ d ∈ ds, ∀ s, Gr st1 s → ∃ ρ1, g d s (wipeE ρ own) = some ρ1 ∧ ∃ s', fe ρ1 s = .ok (F d) s' ∧ Gr s s') :
    ∃ s', fLc own fi g fYes fe ρ st = .ok (.loc st1.length) s' ∧ Gr st1 s' ∧ s'[st1.length]? = some (.lst (ds.map F)) := by
  obtain ⟨vs, s', e, j, n, p⟩ := fLc_inv (own := own) (g := g) (fe := fe) (ρ := ρ) (J := Gr st1) (P := fun d v => v = F d) hi hl (Gr.app _) (fun s o h => h.wr (Nat.le_refl _)) hchk (fun d hd acc s hs hn => by
    obtain ⟨ρ1, e1, s1, e2, g1⟩ := hb d hd s hs
    exact ⟨ρ1, e1, _, s1, e2, hs.trans g1, g1.keep _ _ hn, rfl⟩)
  rw [p.map] at n
  exact ⟨s', e, j, n⟩
/-- a loop that leaves the store as it is and may return -/
theorem loop_sel {i : Nat} {body : FS} {ρ0 : En} {chk : S → Bool} {s0 : S} {r : D} (p : D → Bool) (hc : chk s0 = true) : ∀ (ds : List D) (x : Option D),
    (∀ d ∈ ds, (p d = true ∧ body (ρ0.set i (some d)) s0 = .nx (ρ0.set i (some d)) s0) ∨ (p d = false ∧ body (ρ0.set i (some d)) s0 = .rt r s0)) →
    (ds.all p = true ∧ ∃ y, sLoop chk (tgN i) body ds (ρ0.set i x) s0 = .nx (ρ0.set i y) s0) ∨ (ds.all p = false ∧ sLoop chk (tgN i) body ds (ρ0.set i x) s0 = .rt r s0)
  | [], x, hb => .inl ⟨rfl, x, by rw [sLoop_nil, if_pos hc]⟩
  | d :: ds, x, hb => by
    have t1 : tgN i d s0 (ρ0.set i x) = some (ρ0.set i (some d)) := by rw [tgN_ap, List.set_set]
    rcases hb d List.mem_cons_self with ⟨h1, e1⟩ | ⟨h1, e1⟩
    · rcases loop_sel (i := i) (body := body) (ρ0 := ρ0) (chk := chk) (r := r) p hc ds (some d) (fun d' h' => hb d' (List.mem_cons_of_mem _ h')) with ⟨h2, y, e2⟩ | ⟨h2, e2⟩
      · left
        refine ⟨by rw [List.all_cons, h1, h2]; rfl, y, ?_⟩
        unfold sLoop
        rw [if_pos hc, t1]
        simp only [e1]
        exact e2
      · right
        refine ⟨by rw [List.all_cons, h1, h2]; rfl, ?_⟩
        unfold sLoop
        rw [if_pos hc, t1]
        simp only [e1]
        exact e2
    · right
      refine ⟨by rw [List.all_cons, h1]; rfl, ?_⟩
      unfold sLoop
      rw [if_pos hc, t1]
      simp only [e1]
theorem sLoop_nx {chk : S → Bool} {t : FG} {body : FS} {d : D} {ds : List D} {ρ ρ1 ρ2 : En} {st st2 : S} (hc : chk st = true) (ht : t d st ρ = some ρ1) (hb : body ρ1 st = .nx ρ2 st2) : sLoop chk t body (d :: ds) ρ st = sLoop chk t body ds ρ2 st2 := by
  conv => lhs; unfold sLoop
  rw [if_pos hc, ht]
  simp only [hb]
theorem sLoop_rt {chk : S → Bool} {t : FG} {body : FS} {d x : D} {ds : List D} {ρ ρ1 : En} {st st2 : S} (hc : chk st = true) (ht : t d st ρ = some ρ1) (hb : body ρ1 st = .rt x st2) : sLoop chk t body (d :: ds) ρ st = .rt x st2 := by
  conv => lhs; unfold sLoop
  rw [if_pos hc, ht]
  simp only [hb]
/-- Euclid by while -/
theorem gcd_while {t : FT} {body : FS} {st : S} (ht : ∀ a b : Int, t [some (.int a), some (.int b)] st = .ok (!decide (b = 0)) st)
    (hb : ∀ a b : Nat, b ≠ 0 → body [some (.int a), some (.int b)] st = .nx [some (.int b), some (.int ((a % b : Nat) : Int))] st) : ∀ (n a b : Nat), b < n →
    ∃ k, sWh t body k [some (.int a), some (.int b)] st = .nx [some (.int (Nat.gcd a b : Nat)), some (.int 0)] st
  | 0, a, b, h => by omega
  | n + 1, a, b, h => by
    by_cases h0 : b = 0
    · subst h0
      refine ⟨1, ?_⟩
      unfold sWh
      rw [show ((0 : Nat) : Int) = 0 from rfl, ht]
      simp
    · have hr : a % b < b := Nat.mod_lt _ (by omega)
      obtain ⟨k, e⟩ := gcd_while ht hb n b (a % b) (by omega)
      refine ⟨k + 1, ?_⟩
      unfold sWh
      rw [ht]
      have : (!decide ((b : Int) = 0)) = true := by
        have : ¬ ((b : Int) = 0) := by omega
        rw [decide_eq_false this]
        rfl
      rw [this]
      simp only [Out.so_ok, if_true]
      rw [hb a b h0]
      simp only
      rw [e, show Nat.gcd a b = Nat.gcd b (a % b) from by rw [Nat.gcd_comm a b, Nat.gcd_rec b a, Nat.gcd_comm]]
end MP

set_option Elab.async false
set_option linter.all false
set_option maxRecDepth 100000
set_option maxHeartbeats 4000000
/-! MPF: fractions as data, whatever the law. -/
namespace MP
open PySem
abbrev fr (p q : Int) : D := .tup [.int p, .int q]
def gi (p q : Int) : Int := ((Nat.gcd p.natAbs q.natAbs : Nat) : Int)
/-- in lowest terms, q positive -/
def low (p q : Int) : D := fr (p / gi p q) (q / gi p q)
/-- not too large -/
def Sm (x : Int) : Prop := x.natAbs < 2 ^ 8000
theorem gi_pos {p q : Int} (hq : 0 < q) : 0 < gi p q := by
  unfold gi
  have : 0 < Nat.gcd p.natAbs q.natAbs := Nat.gcd_pos_of_pos_right _ (by omega)
  omega
theorem gi_le {p q : Int} (hq : 0 < q) : gi p q ≤ q := by
  unfold gi
  have := Nat.gcd_le_right p.natAbs (n := q.natAbs) (by omega)
  omega
theorem gi_dvd_l (p q : Int) : gi p q ∣ p := by
  unfold gi
  exact Int.ofNat_dvd_left.mpr (Nat.gcd_dvd_left _ _)
theorem gi_dvd_r (p q : Int) : gi p q ∣ q := by
  unfold gi
  exact Int.ofNat_dvd_left.mpr (Nat.gcd_dvd_right _ _)
theorem divok_gi {p q : Int} (hq : 0 < q) (h : Sm q) : DivOk (gi p q) := by
  refine divok_small (gi_pos hq) ?_
  have := gi_le (p := p) hq
  have := gi_pos (p := p) hq
  unfold Sm at h
  omega
theorem gi_neg (p q : Int) : gi (-p) (-q) = gi p q := by unfold gi; simp
theorem gi_mul {g p q : Int} (hg : 0 < g) : gi (g * p) (g * q) = g * gi p q := by
  unfold gi
  rw [Int.natAbs_mul, Int.natAbs_mul, Nat.gcd_mul_left, Int.natCast_mul]
  congr 1
  omega
theorem low_spec {p q : Int} (hq : 0 < q) : ∃ g p' q', 0 < g ∧ p = g * p' ∧ q = g * q' ∧ 0 < q' ∧ gi p' q' = 1 ∧ low p q = fr p' q' := by
  have hg := gi_pos (p := p) hq
  obtain ⟨p', hp⟩ := gi_dvd_l p q
  obtain ⟨q', hq'⟩ := gi_dvd_r p q
  have hq0 : 0 < q' := by
    rcases Int.lt_trichotomy q' 0 with h | h | h
    · have := Int.mul_neg_of_pos_of_neg hg h
      omega
    · subst h
      rw [Int.mul_zero] at hq'
      omega
    · exact h
  refine ⟨gi p q, p', q', hg, hp, hq', hq0, ?_, ?_⟩
  · have e := gi_mul (p := p') (q := q') hg
    rw [← hp, ← hq'] at e
    have : gi p q * 1 = gi p q * gi p' q' := by rw [Int.mul_one]; exact e
    exact (Int.eq_of_mul_eq_mul_left (by omega) this).symm
  · show fr (p / gi p q) (q / gi p q) = fr p' q'
    have h1 : p / gi p q = p' := by
      conv => lhs; arg 1; rw [hp]
      exact Int.mul_ediv_cancel_left _ (by omega)
    have h2 : q / gi p q = q' := by
      conv => lhs; arg 1; rw [hq']
      exact Int.mul_ediv_cancel_left _ (by omega)
    rw [h1, h2]
theorem low_id {p q : Int} (h : gi p q = 1) : low p q = fr p q := by unfold low; rw [h, Int.ediv_one, Int.ediv_one]
theorem low_scale {g p q : Int} (hg : 0 < g) : low (g * p) (g * q) = low p q := by
  unfold low
  rw [gi_mul hg, Int.mul_ediv_mul_of_pos _ _ hg, Int.mul_ediv_mul_of_pos _ _ hg]
theorem gi_zero {q : Int} (h : 0 < q) : gi 0 q = q := by
  unfold gi
  rw [Int.natAbs_zero, Nat.gcd_zero_left]
  omega
theorem low_zero {q : Int} (h : 0 < q) : low 0 q = fr 0 1 := by
  unfold low
  rw [gi_zero h, Int.zero_ediv, Int.ediv_self (by omega)]
theorem gi_one (p : Int) : gi p 1 = 1 := by unfold gi; simp
theorem low_one (p : Int) : low p 1 = fr p 1 := low_id (gi_one p)
theorem mm {x y : Int} (hx : Sm x) (hy : Sm y) : MulOk x y := mulok_small (by unfold Sm at hx; exact Nat.lt_trans hx (Nat.pow_lt_pow_right (by decide) (by decide))) (by unfold Sm at hy; exact Nat.lt_trans hy (Nat.pow_lt_pow_right (by decide) (by decide)))
theorem sm_of {x : Int} {B : Nat} (h : x.natAbs < B) (hB : B ≤ 2 ^ 8000) : Sm x := Nat.lt_of_lt_of_le h hB
/-- a number with parts below B -/
structure Nq (B : Nat) (p q : Int) : Prop where
  pos : 0 < q
  red : gi p q = 1
  top : p.natAbs < B
  bot : q.natAbs < B
def Nb (B : Nat) (d : D) : Prop := ∃ p q : Int, d = fr p q ∧ Nq B p q
theorem Nq.le {B C : Nat} {p q : Int} (h : Nq B p q) (hb : B ≤ C) : Nq C p q := ⟨h.pos, h.red, Nat.lt_of_lt_of_le h.top hb, Nat.lt_of_lt_of_le h.bot hb⟩
theorem Nb.le {B C : Nat} {d : D} (h : Nb B d) (hb : B ≤ C) : Nb C d := by
  obtain ⟨p, q, e, N⟩ := h
  exact ⟨p, q, e, N.le hb⟩
theorem low_nb {B : Nat} {p q : Int} (hq : 0 < q) (h1 : p.natAbs < B) (h2 : q.natAbs < B) : Nb B (low p q) := by
  obtain ⟨g, a, b, hg, e1, e2, hb, hr, e⟩ := low_spec (p := p) hq
  have la : a.natAbs ≤ p.natAbs := by rw [e1, Int.natAbs_mul]; exact Nat.le_mul_of_pos_left _ (by omega)
  have lb : b.natAbs ≤ q.natAbs := by rw [e2, Int.natAbs_mul]; exact Nat.le_mul_of_pos_left _ (by omega)
  exact ⟨a, b, e, hb, hr, by omega, by omega⟩
theorem int_nb {B : Nat} {p : Int} (h : p.natAbs < B) (hB : 1 < B) : Nb B (fr p 1) := ⟨p, 1, rfl, by decide, gi_one p, h, hB⟩
def addD : D → D → D
  | .tup [.int p, .int q], .tup [.int r, .int s] => low (p * s + r * q) (q * s)
  | x, _ => x
def mulD : D → D → D
  | .tup [.int p, .int q], .tup [.int r, .int s] => low (p * r) (q * s)
  | x, _ => x
def negD : D → D
  | .tup [.int p, .int q] => fr (-p) q
  | x => x
theorem add_low {p q r s : Int} (hq : 0 < q) (hs : 0 < s) : addD (low p q) (low r s) = low (p * s + r * q) (q * s) := by
  obtain ⟨g, a, b, hg, e1, e2, hb, hr, e⟩ := low_spec (p := p) hq
  obtain ⟨h, c, d, hh, e3, e4, hd, hr2, e'⟩ := low_spec (p := r) hs
  rw [e, e', e1, e2, e3, e4]
  show low (a * d + c * b) (b * d) = _
  have t1 : g * a * (h * d) + h * c * (g * b) = g * h * (a * d + c * b) := by
    rw [Int.mul_add]
    congr 1
    · rw [Int.mul_assoc, Int.mul_assoc, Int.mul_left_comm a h d]
    · rw [Int.mul_comm g h, Int.mul_assoc, Int.mul_assoc, Int.mul_left_comm c g b]
  have t2 : g * b * (h * d) = g * h * (b * d) := by rw [Int.mul_assoc, Int.mul_assoc, Int.mul_left_comm b h d]
  rw [t1, t2, low_scale (Int.mul_pos hg hh)]
theorem mul_low {p q r s : Int} (hq : 0 < q) (hs : 0 < s) : mulD (low p q) (low r s) = low (p * r) (q * s) := by
  obtain ⟨g, a, b, hg, e1, e2, hb, hr, e⟩ := low_spec (p := p) hq
  obtain ⟨h, c, d, hh, e3, e4, hd, hr2, e'⟩ := low_spec (p := r) hs
  rw [e, e', e1, e2, e3, e4]
  show low (a * c) (b * d) = _
  rw [show g * a * (h * c) = g * h * (a * c) from by rw [Int.mul_assoc, Int.mul_assoc, Int.mul_left_comm a h c],
    show g * b * (h * d) = g * h * (b * d) from by rw [Int.mul_assoc, Int.mul_assoc, Int.mul_left_comm b h d], low_scale (Int.mul_pos hg hh)]
theorem gi_negl (p q : Int) : gi (-p) q = gi p q := by unfold gi; rw [Int.natAbs_neg]
theorem neg_low {p q : Int} (hq : 0 < q) : negD (low p q) = low (-p) q := by
  obtain ⟨g, a, b, hg, e1, e2, hb, hr, e⟩ := low_spec (p := p) hq
  rw [e, e1, e2]
  show fr (-a) b = _
  rw [← Int.mul_neg, low_scale hg, low_id (by rw [gi_negl]; exact hr)]
theorem add_same {p r q : Int} (hq : 0 < q) : addD (low p q) (low r q) = low (p + r) q := by
  rw [add_low hq hq, ← Int.add_mul, Int.mul_comm, low_scale hq]
theorem mul_neg1 {d : D} {B : Nat} (h : Nb B d) : mulD d (fr (-1) 1) = negD d := by
  obtain ⟨p, q, rfl, N⟩ := h
  show low (p * -1) (q * 1) = fr (-p) q
  rw [Int.mul_one, show p * -1 = -p by omega]
  exact low_id (by rw [gi_negl]; exact N.red)
theorem neg_nb {B : Nat} {d : D} (h : Nb B d) : Nb B (negD d) := by
  obtain ⟨p, q, rfl, N⟩ := h
  exact ⟨-p, q, rfl, N.pos, by rw [gi_negl]; exact N.red, by rw [Int.natAbs_neg]; exact N.top, N.bot⟩
theorem natAbs_mul_lt {x y : Int} {A B : Nat} (h1 : x.natAbs < A) (h2 : y.natAbs < B) : (x * y).natAbs < A * B := by
  rw [Int.natAbs_mul]
  exact Nat.mul_lt_mul'' h1 h2
theorem mul_nb {A B : Nat} {x y : D} (hx : Nb A x) (hy : Nb B y) : Nb (A * B) (mulD x y) := by
  obtain ⟨p, q, rfl, N⟩ := hx
  obtain ⟨r, s, rfl, M⟩ := hy
  exact low_nb (Int.mul_pos N.pos M.pos) (natAbs_mul_lt N.top M.top) (natAbs_mul_lt N.bot M.bot)
theorem add_nb {A B : Nat} {x y : D} (hx : Nb A x) (hy : Nb B y) : Nb (2 * (A * B)) (addD x y) := by
  obtain ⟨p, q, rfl, N⟩ := hx
  obtain ⟨r, s, rfl, M⟩ := hy
  have a1 := natAbs_mul_lt N.top M.bot
  have a2 := natAbs_mul_lt M.top N.bot
  have a3 := natAbs_mul_lt N.bot M.bot
  have a4 := Int.natAbs_add_le (p * s) (r * q)
  rw [Nat.mul_comm B A] at a2
  exact low_nb (Int.mul_pos N.pos M.pos) (by omega) (by omega)
/-! ### sums not brought to lowest terms -/
def fs (x : Int × Int) : D → Int × Int
  | .tup [.int p, .int q] => (x.1 * q + p * x.2, x.2 * q)
  | _ => x
structure Bd (U k : Nat) (x : Int × Int) : Prop where
  pos : 0 < x.2
  bot : x.2.natAbs ≤ U ^ k
  top : x.1.natAbs ≤ k * U ^ k
theorem Bd.step {U k : Nat} {x : Int × Int} {p q : Int} (h : Bd U k x) (hq0 : 0 < q) (hp : p.natAbs ≤ U) (hq : q.natAbs ≤ U) : Bd U (k + 1) (x.1 * q + p * x.2, x.2 * q) := by
  refine ⟨Int.mul_pos h.pos hq0, ?_, ?_⟩
  · show (x.2 * q).natAbs ≤ U ^ (k + 1)
    rw [Int.natAbs_mul, Nat.pow_succ]
    exact Nat.mul_le_mul h.bot hq
  · show (x.1 * q + p * x.2).natAbs ≤ (k + 1) * U ^ (k + 1)
    have a1 : (x.1 * q).natAbs ≤ k * U ^ (k + 1) := by
      rw [Int.natAbs_mul, Nat.pow_succ, ← Nat.mul_assoc]
      exact Nat.mul_le_mul h.top hq
    have a2 : (p * x.2).natAbs ≤ U ^ (k + 1) := by
      rw [Int.natAbs_mul, Nat.pow_succ, Nat.mul_comm]
      exact Nat.mul_le_mul h.bot hp
    have a3 := Int.natAbs_add_le (x.1 * q) (p * x.2)
    rw [Nat.add_mul, Nat.one_mul]
    omega
theorem bd0 {U : Nat} : Bd U 0 (0, 1) := ⟨by decide, by rw [Nat.pow_zero]; decide, by simp⟩
end MP

set_option Elab.async false
set_option linter.all false
set_option maxRecDepth 100000
set_option maxHeartbeats 4000000
/-! MPQ: == of nested data with the same content. -/
namespace MP
open PySem
def Lay (k : Nat) (d : D) : Prop := ∃ x, pdV d = some x ∧ x.canLay0 = true ∧ x.depth ≤ k ∧ PyData.eqv x x = true
theorem Lay.le {j k : Nat} {d : D} (h : Lay j d) (hk : j ≤ k) : Lay k d := by
  obtain ⟨x, h1, h2, h3, h4⟩ := h
  exact ⟨x, h1, h2, Nat.le_trans h3 hk, h4⟩
theorem lay_int (i : Int) (k : Nat) : Lay k (.int i) := ⟨.int i, rfl, rfl, by simp [PyData.depth], by simp [PyData.eqv]⟩
theorem lay_bl (b : Bool) (k : Nat) : Lay k (.bl b) := ⟨.bool b, rfl, rfl, by simp [PyData.depth], by simp [PyData.eqv]⟩
theorem lay_non (k : Nat) : Lay k .non := ⟨.none, rfl, rfl, by simp [PyData.depth], by simp [PyData.eqv]⟩
theorem lays {k : Nat} : ∀ {ds : List D}, (∀ d ∈ ds, Lay k d) → ∃ xs, pdVs ds = some xs ∧ PyData.canLayAll0 xs = true ∧ PyData.depthAll xs ≤ k ∧ PyData.eqvAll xs xs = true
  | [], h => ⟨[], rfl, rfl, by simp [PyData.depthAll], by simp [PyData.eqvAll]⟩
  | d :: ds, h => by
    obtain ⟨x, a1, a2, a3, a4⟩ := h d List.mem_cons_self
    obtain ⟨xs, b1, b2, b3, b4⟩ := lays (k := k) (ds := ds) fun d' h' => h d' (List.mem_cons_of_mem _ h')
    refine ⟨x :: xs, by unfold pdVs; rw [a1, b1], ?_, ?_, ?_⟩
    · simp [PyData.canLayAll0, a2, b2]
    · simp only [PyData.depthAll]; omega
    · simp [PyData.eqvAll, a4, b4]
theorem lay_tup {k : Nat} {ds : List D} (h : ∀ d ∈ ds, Lay k d) : Lay (k + 1) (.tup ds) := by
  obtain ⟨xs, h1, h2, h3, h4⟩ := lays h
  refine ⟨.tuple xs, ?_, ?_, ?_, ?_⟩
  · unfold pdV; rw [h1]; rfl
  · simp [PyData.canLay0, h2]
  · simp only [PyData.depth]; omega
  · simp [PyData.eqv, h4]
theorem eqB_tup {k : Nat} {ds : List D} {st : S} (h : ∀ d ∈ ds, Lay k d) (hk : k < 64) : eqB st (.tup ds) (.tup ds) = some true := by
  obtain ⟨xs, h1, h2, h3, h4⟩ := lays h
  have e : pdD st (.tup ds) = some (.tuple xs) := by
    show pdV (.tup ds) = _
    unfold pdV
    rw [h1]
    rfl
  have s : SeqAt.shaped (.tuple xs) = true := by
    unfold SeqAt.shaped
    simp only [PyData.canLay0, h2, PyData.depth, Bool.true_and]
    exact decide_eq_true (by omega)
  unfold eqB
  simp only [e, s, and_self, if_true, PyData.eqv, h4]
theorem eqB_loc {k a b : Nat} {ds : List D} {st : S} (ha : lstAt st a = some ds) (hb : lstAt st b = some ds) (h : ∀ d ∈ ds, Lay k d) (hk : k < 64) : eqB st (.loc a) (.loc b) = some true := by
  obtain ⟨xs, h1, h2, h3, h4⟩ := lays h
  have e : ∀ n, lstAt st n = some ds → pdD st (.loc n) = some (.list xs) := fun n hn => by
    show (lstAt st n).bind _ = _
    rw [hn]
    show (pdVs ds).map _ = _
    rw [h1]
    rfl
  have s : SeqAt.shaped (.list xs) = true := by
    unfold SeqAt.shaped
    simp only [PyData.canLay0, h2, PyData.depth, Bool.true_and]
    exact decide_eq_true (by omega)
  unfold eqB
  simp only [e a ha, e b hb, s, and_self, if_true, PyData.eqv, h4]
theorem gNe_tup {k : Nat} {ds : List D} {st : S} (h : ∀ d ∈ ds, Lay k d) (hk : k < 64) : gNe (.tup ds) (.tup ds) st = some (.bl false, st) := by
  unfold gNe; rw [eqB_tup h hk]; rfl
theorem gNe_loc {k a b : Nat} {ds : List D} {st : S} (ha : lstAt st a = some ds) (hb : lstAt st b = some ds) (h : ∀ d ∈ ds, Lay k d) (hk : k < 64) : gNe (.loc a) (.loc b) st = some (.bl false, st) := by
  unfold gNe; rw [eqB_loc ha hb h hk]; rfl
theorem gEq_loc {k a b : Nat} {ds : List D} {st : S} (ha : lstAt st a = some ds) (hb : lstAt st b = some ds) (h : ∀ d ∈ ds, Lay k d) (hk : k < 64) : gEq (.loc a) (.loc b) st = some (.bl true, st) := by
  unfold gEq; rw [eqB_loc ha hb h hk]; rfl
theorem gEq_bls (x y : Bool) (st : S) : gEq (.bl x) (.bl y) st = some (.bl (decide (x = y)), st) := rfl
theorem lay_fr (p q : Int) : Lay 1 (fr p q) := lay_tup (k := 0) fun d hd => by
  rcases List.mem_cons.mp hd with e | e
  · rw [e]; exact lay_int _ _
  · rw [List.mem_singleton.mp e]; exact lay_int _ _
theorem Nb.lay {B : Nat} {d : D} (h : Nb B d) : Lay 1 d := by
  obtain ⟨p, q, rfl, _⟩ := h
  exact lay_fr p q
/-- a comprehension with a test; items and tests leave the store as it is -/
theorem lcGo_flt {chk : S → Bool} {g : FG} {ft : FT} {fe : FE} {ρ : En} {F : D → D} {p : D → Bool} : ∀ (ds acc : List D) (st0 : S), acc.length + ds.length < sizeLine → (∀ xs, chk (st0 ++ [.lst xs]) = true) →
    (∀ d ∈ ds, ∀ xs, ∃ ρ1, g d (st0 ++ [.lst xs]) ρ = some ρ1 ∧ ft ρ1 (st0 ++ [.lst xs]) = .ok (p d) (st0 ++ [.lst xs]) ∧ fe ρ1 (st0 ++ [.lst xs]) = .ok (F d) (st0 ++ [.lst xs])) →
    lcGo chk g ft fe ρ st0.length ds (st0 ++ [.lst acc]) = .ok (.loc st0.length) (st0 ++ [.lst (acc ++ (ds.filter p).map F)])
  | [], acc, st0, hl, hc, hb => by
    unfold lcGo
    rw [if_pos (hc acc), List.filter_nil, List.map_nil, List.append_nil]
  | d :: ds, acc, st0, hl, hc, hb => by
    obtain ⟨ρ1, e1, e3, e2⟩ := hb d List.mem_cons_self acc
    rw [List.length_cons] at hl
    cases c : p d with
    | true =>
      rw [c] at e3
      unfold lcGo
      rw [if_pos (hc acc), e1]
      simp only [e3, e2, app_new]
      rw [if_pos (by omega), set_last, lcGo_flt ds (acc ++ [F d]) st0 (by rw [List.length_append, List.length_singleton]; omega) hc (fun d' h' => hb d' (List.mem_cons_of_mem _ h'))]
      rw [List.filter_cons_of_pos (by rw [c]), List.map_cons, List.append_assoc]
      rfl
    | false =>
      rw [c] at e3
      unfold lcGo
      rw [if_pos (hc acc), e1]
      simp only [e3]
      rw [lcGo_flt ds acc st0 (by omega) hc (fun d' h' => hb d' (List.mem_cons_of_mem _ h')), List.filter_cons_of_neg (by rw [c]; decide)]
theorem fLc_flt {own : List Nat} {fi : FI} {g : FG} {ft : FT} {fe : FE} {ρ : En} {st st1 : S} {ds : List D} {chk : S → Bool} {F : D → D} {p : D → Bool} (hi : fi ρ st = .ok (ds, chk) st1) (hl : ds.length < sizeLine) (hc : ∀ xs, chk (st1 ++ [.lst xs]) = true)
    (hb : ∀ d ∈ ds, ∀ xs, ∃ ρ1, g d (st1 ++ [.lst xs]) (wipeE ρ own) = some ρ1 ∧ ft ρ1 (st1 ++ [.lst xs]) = .ok (p d) (st1 ++ [.lst xs]) ∧ fe ρ1 (st1 ++ [.lst xs]) = .ok (F d) (st1 ++ [.lst xs])) :
    fLc own fi g ft fe ρ st = .ok (.loc st1.length) (st1 ++ [.lst ((ds.filter p).map F)]) := by
  unfold fLc
  rw [hi]
  show lcGo _ _ _ _ _ _ _ _ = _
  rw [lcGo_flt ds [] st1 (by simpa using hl) hc hb]
  rfl
end MP

set_option Elab.async false
set_option linter.all false
set_option maxRecDepth 100000
set_option maxHeartbeats 4000000
namespace K04
open PySem MP
theorem ratio_pos {p q : Int} (hq : 0 < q) (hs : Sm q) (st : S) : den 3 m_ratio [.int p, .int q] st = .ok (low p q) st := by
  have h0 : q ≠ 0 := by omega
  have h1 : ¬ q < 0 := by omega
  have hd := divok_gi (p := p) hq hs
  unfold gi at hd
  rw [den_ap]
  simp [m_ratio, h0, h1, hd, low, gi]
section
variable {p q r s : Int} (hq : 0 < q) (hs : 0 < s) (hp : Sm p) (hr : Sm r) (h1 : Sm q) (h2 : Sm s) (st : S)
include hq hs hp hr h1 h2
theorem plus_ok (h3 : Sm (q * s)) : g_plus [fr p q, fr r s] st = .ok (low (p * s + r * q) (q * s)) st := by
  have e := ratio_pos (p := p * s + r * q) (q := q * s) (Int.mul_pos hq hs) h3 st
  simp [g_plus, arN, den_ap 2, m_plus, mm hp h2, mm hr h1, mm h1 h2, g_ratio, withD, e]
theorem times_ok (h3 : Sm (q * s)) : g_times [fr p q, fr r s] st = .ok (low (p * r) (q * s)) st := by
  have e := ratio_pos (p := p * r) (q := q * s) (Int.mul_pos hq hs) h3 st
  simp [g_times, arN, den_ap 2, m_times, mm hp hr, mm h1 h2, g_ratio, withD, e]
end
def sgI (p : Int) : Int := if p > 0 then 1 else if p < 0 then -1 else 0
theorem sign_ok {p q : Int} (st : S) : g_sign [fr p q] st = .ok (.int (sgI p)) st := by
  by_cases c1 : p > 0
  · simp [g_sign, arN, den_ap, m_sign, sgI, c1]
  · by_cases c2 : p < 0
    · simp [g_sign, arN, den_ap, m_sign, sgI, c1, c2]
    · simp [g_sign, arN, den_ap, m_sign, sgI, c1, c2]
theorem sg_ge (p : Int) : (0 ≤ sgI p) ↔ (0 ≤ p) := by unfold sgI; split <;> (try split) <;> omega
theorem sg_gt (p : Int) : (0 < sgI p) ↔ (0 < p) := by unfold sgI; split <;> (try split) <;> omega
theorem sg_lt (p : Int) : (sgI p < 0) ↔ (p < 0) := by unfold sgI; split <;> (try split) <;> omega
theorem sg_eq (p : Int) : (sgI p = 0) ↔ (p = 0) := by unfold sgI; split <;> (try split) <;> omega
/-! ### the law's own arithmetic -/
theorem gcd_ok (a b : Nat) (st : S) : g__law_gcd [.int a, .int b] st = .ok (.int (Nat.gcd a b : Nat)) st := by
  obtain ⟨k, e⟩ := gcd_while (t := fIsB (fBin gNe (fVar 1) (fC (.int 0)))) (body := sPar 0 1 (fCons (fVar 1) (fCons (fBin gMod (fArgs gInt (fCons (fVar 0) (fNil))) (fVar 1)) (fNil)))) (st := st)
    (fun a b => by simp) (fun a b hb => by
      have hbp : 0 < b := by omega
      simp [hbp]) (b + 1) a b (Nat.lt_succ_self b)
  have w := sWhile_of e (by simp)
  unfold g__law_gcd arN
  rw [if_pos (show [D.int a, D.int b].length = 2 from rfl), den_ap]
  show ((sSeq (sWhile _ _) _) [some (.int a), some (.int b)] st).out = _
  rw [sSeq_ap, w, then_nx]
  rfl
theorem num_pos {p q : Int} (hq : 0 < q) (hs : Sm q) (st : S) : g__law_num [.int p, .int q] st = .ok (low p q) st := by
  have e := gcd_ok p.natAbs q.natAbs st
  have h1 : ¬ q < 0 := by omega
  have hd := divok_gi (p := p) hq hs
  unfold gi at hd
  simp [g__law_num, arN, den_ap, m__law_num, absI, e, h1, hd, low, gi]
section
variable {p q r s : Int} (hq : 0 < q) (hs : 0 < s) (hp : Sm p) (hr : Sm r) (h1 : Sm q) (h2 : Sm s) (st : S)
include hq hs hp hr h1 h2
theorem ladd_ok (h3 : Sm (q * s)) : g__law_add [fr p q, fr r s] st = .ok (low (p * s + r * q) (q * s)) st := by
  have e := num_pos (p := p * s + r * q) (q := q * s) (Int.mul_pos hq hs) h3 st
  simp [g__law_add, arN, den_ap, m__law_add, mm hp h2, mm hr h1, mm h1 h2, e]
theorem lmul_ok (h3 : Sm (q * s)) : g__law_mul [fr p q, fr r s] st = .ok (low (p * r) (q * s)) st := by
  have e := num_pos (p := p * r) (q := q * s) (Int.mul_pos hq hs) h3 st
  simp [g__law_mul, arN, den_ap, m__law_mul, mm hp hr, mm h1 h2, e]
end
theorem lneg_ok {p q : Int} (st : S) : g__law_neg [fr p q] st = .ok (fr (-p) q) st := by
  simp [g__law_neg, arN, den_ap, m__law_neg]
abbrev B80 : Nat := 10 ^ 80
theorem B80_le : B80 ≤ 2 ^ 4000 := Nat.le_trans (show B80 ≤ 2 ^ 280 by decide) (Nat.pow_le_pow_right (by decide) (by decide))
theorem nq_sm {p q : Int} (N : Nq B80 p q) : Sm p ∧ Sm q :=
  ⟨sm_of N.top (Nat.le_trans B80_le (Nat.pow_le_pow_right (by decide) (by decide))), sm_of N.bot (Nat.le_trans B80_le (Nat.pow_le_pow_right (by decide) (by decide)))⟩
theorem sm_mul {p q : Int} (h1 : p.natAbs < B80) (h2 : q.natAbs < B80) : Sm (p * q) := by
  refine sm_of (natAbs_mul_lt h1 h2) ?_
  calc B80 * B80 ≤ 2 ^ 4000 * 2 ^ 4000 := Nat.mul_le_mul B80_le B80_le
    _ = 2 ^ 8000 := by rw [← Nat.pow_add]
theorem times_nb {a b : D} (ha : Nb B80 a) (hb : Nb B80 b) (st : S) : g_times [a, b] st = .ok (mulD a b) st := by
  obtain ⟨p, q, rfl, N⟩ := ha
  obtain ⟨r, s, rfl, M⟩ := hb
  exact times_ok N.pos M.pos (nq_sm N).1 (nq_sm M).1 (nq_sm N).2 (nq_sm M).2 st (sm_mul N.bot M.bot)
theorem ladd_nb {a b : D} (ha : Nb B80 a) (hb : Nb B80 b) (st : S) : g__law_add [a, b] st = .ok (addD a b) st := by
  obtain ⟨p, q, rfl, N⟩ := ha
  obtain ⟨r, s, rfl, M⟩ := hb
  exact ladd_ok N.pos M.pos (nq_sm N).1 (nq_sm M).1 (nq_sm N).2 (nq_sm M).2 st (sm_mul N.bot M.bot)
theorem lmul_nb {a b : D} (ha : Nb B80 a) (hb : Nb B80 b) (st : S) : g__law_mul [a, b] st = .ok (mulD a b) st := by
  obtain ⟨p, q, rfl, N⟩ := ha
  obtain ⟨r, s, rfl, M⟩ := hb
  exact lmul_ok N.pos M.pos (nq_sm N).1 (nq_sm M).1 (nq_sm N).2 (nq_sm M).2 st (sm_mul N.bot M.bot)
theorem lneg_nb {B : Nat} {a : D} (ha : Nb B a) (st : S) : g__law_neg [a] st = .ok (negD a) st := by
  obtain ⟨p, q, rfl, N⟩ := ha
  exact lneg_ok st
/-! ### looking -/
def numB : D → Bool
  | .tup [.int p, .int q] => decide (1 ≤ q) && decide (gi p q = 1)
  | _ => false
def notLoc : D → Prop
  | .loc _ => False
  | _ => True
/-- what can be looked at -/
def Ent (s : S) (d : D) : Prop := match d with
  | .loc n => ∃ xs, lstAt s n = some xs
  | .tup [x, y] => notLoc x ∧ notLoc y
  | _ => True
theorem int_ok {d : D} (h : notLoc d) (st : S) : g__is_integer [d] st = .ok (.bl (match d with | .int _ => true | _ => false)) st := by
  cases d <;> first | exact h.elim | simp [g__is_integer, arN, den_ap, m__is_integer]
theorem lint_ok {d : D} (h : notLoc d) (st : S) : g__law_is_int [d] st = .ok (.bl (match d with | .int _ => true | _ => false)) st := by
  cases d <;> first | exact h.elim | simp [g__law_is_int, arN, den_ap, m__law_is_int]
end K04

set_option Elab.async false
set_option linter.all false
set_option maxRecDepth 100000
set_option maxHeartbeats 4000000
namespace K04
open PySem MP
def isI : D → Bool
  | .int _ => true
  | _ => false
theorem int_ok' {d : D} (h : notLoc d) (st : S) : g__is_integer [d] st = .ok (.bl (isI d)) st := by
  rw [int_ok h]; cases d <;> rfl
theorem lint_ok' {d : D} (h : notLoc d) (st : S) : g__law_is_int [d] st = .ok (.bl (isI d)) st := by
  rw [lint_ok h]; cases d <;> rfl
theorem isI_num {x y : D} (h : isI x = false ∨ isI y = false) : numB (.tup [x, y]) = false := by
  cases x <;> cases y <;> first | rfl | (rcases h with h | h <;> cases h)
theorem isI_int {x : D} (h : isI x = true) : ∃ p, x = .int p := by
  cases x <;> first | exact ⟨_, rfl⟩ | cases h
theorem is_number_ok {d : D} {st : S} (h : Ent st d) : g_is_number [d] st = .ok (.bl (numB d)) st := by
  cases d with
  | loc n =>
    obtain ⟨xs, hx⟩ := h
    simp [g_is_number, arN, den_ap, m_is_number, gIsi_loc st hx, numB]
  | tup es =>
    match es, h with
    | [], h => simp [g_is_number, arN, den_ap, m_is_number, numB]
    | [x], h => simp [g_is_number, arN, den_ap, m_is_number, numB]
    | x :: y :: z :: r, h =>
      have e : ¬ (((r.length : Nat) : Int) + 1 + 1 + 1 = 2) := by omega
      simp [g_is_number, arN, den_ap, m_is_number, numB, e]
    | [x, y], ⟨hx, hy⟩ =>
      have ex := int_ok' hx st
      have ey := int_ok' hy st
      by_cases cx : isI x = true
      · obtain ⟨p, rfl⟩ := isI_int cx
        by_cases cy : isI y = true
        · obtain ⟨q, rfl⟩ := isI_int cy
          by_cases c1 : 1 ≤ q
          · simp [g_is_number, arN, den_ap, m_is_number, tgTup, tgAll, ex, ey, isI, c1, numB, gi]
            try congr
          · simp [g_is_number, arN, den_ap, m_is_number, tgTup, tgAll, ex, ey, isI, c1, numB]
        · have cy : isI y = false := by simpa using cy
          rw [isI_num (.inr cy)]
          rw [cy] at ey
          simp [g_is_number, arN, den_ap, m_is_number, tgTup, tgAll, ex, ey, isI]
      · have cx : isI x = false := by simpa using cx
        rw [isI_num (.inl cx)]
        rw [cx] at ex
        simp [g_is_number, arN, den_ap, m_is_number, tgTup, tgAll, ex]
  | _ => simp [g_is_number, arN, den_ap, m_is_number, numB]
theorem lis_number_ok {d : D} {st : S} (h : Ent st d) : g__law_is_number [d] st = .ok (.bl (numB d)) st := by
  cases d with
  | loc n =>
    obtain ⟨xs, hx⟩ := h
    simp [g__law_is_number, arN, den_ap, m__law_is_number, gIsi_loc st hx, numB]
  | tup es =>
    match es, h with
    | [], h => simp [g__law_is_number, arN, den_ap, m__law_is_number, numB]
    | [x], h => simp [g__law_is_number, arN, den_ap, m__law_is_number, numB]
    | x :: y :: z :: r, h =>
      have e : ¬ (((r.length : Nat) : Int) + 1 + 1 + 1 = 2) := by omega
      simp [g__law_is_number, arN, den_ap, m__law_is_number, numB, e]
    | [x, y], ⟨hx, hy⟩ =>
      have ex := lint_ok' hx st
      have ey := lint_ok' hy st
      by_cases cx : isI x = true
      · obtain ⟨p, rfl⟩ := isI_int cx
        by_cases cy : isI y = true
        · obtain ⟨q, rfl⟩ := isI_int cy
          by_cases c1 : 1 ≤ q
          · have g := gcd_ok p.natAbs q.natAbs st
            rw [show ((q.natAbs : Nat) : Int) = q by omega] at g
            simp [g__law_is_number, arN, den_ap, m__law_is_number, ex, ey, isI, c1, numB, gi, absI, g]
            try congr
          · simp [g__law_is_number, arN, den_ap, m__law_is_number, ex, ey, isI, c1, numB]
        · have cy : isI y = false := by simpa using cy
          rw [isI_num (.inr cy)]
          rw [cy] at ey
          simp [g__law_is_number, arN, den_ap, m__law_is_number, ex, ey, isI]
      · have cx : isI x = false := by simpa using cx
        rw [isI_num (.inl cx)]
        rw [cx] at ex
        simp [g__law_is_number, arN, den_ap, m__law_is_number, ex]
  | _ => simp [g__law_is_number, arN, den_ap, m__law_is_number, numB]
theorem Ent.gr {s s' : S} {d : D} (h : Ent s d) (g : Gr s s') : Ent s' d := by
  cases d with
  | loc n =>
    obtain ⟨xs, hx⟩ := h
    exact ⟨xs, g.lst hx⟩
  | tup es =>
    match es, h with
    | [], h => trivial
    | [x], h => trivial
    | x :: y :: z :: r, h => trivial
    | [x, y], h => exact h
  | _ => trivial
theorem numB_nb {B : Nat} {d : D} (h : Nb B d) : numB d = true := by
  obtain ⟨p, q, rfl, N⟩ := h
  have := N.pos
  simp [numB, N.red, show 1 ≤ q by omega]
theorem nb_ent {B : Nat} {d : D} (h : Nb B d) (s : S) : Ent s d := by
  obtain ⟨p, q, rfl, N⟩ := h
  exact ⟨trivial, trivial⟩
theorem short {n : Nat} (h : n ≤ 1000) : n < sizeLine := by
  have : sizeLine = 16777216 := sizeLine_eq
  omega
/-! ### forms, facts -/
def formB (w : Nat) : D → Bool
  | .tup ds => decide (ds.length = w + 1) && ds.all numB
  | _ => false
def isBl : D → Bool
  | .bl _ => true
  | _ => false
def factB (w : Nat) : D → Bool
  | .tup [f, s] => formB w f && isBl s
  | _ => false
/-- a form that can be looked at -/
def EForm : D → Prop
  | .loc _ => False
  | .tup ds => ds.length ≤ 1000 ∧ ∀ d ∈ ds, ∀ s, Ent s d
  | _ => True
def EFact : D → Prop
  | .loc _ => False
  | .tup [f, s] => EForm f ∧ notLoc s
  | _ => True
theorem all_map (ds : List D) (f : D → Bool) : (ds.map f).all id = ds.all f := by
  induction ds with
  | nil => rfl
  | cons d ds ih => simp [List.all_cons, ih]
theorem is_form_ok {v : D} {w : Nat} (h : EForm v) (st : S) : ∃ st', g_is_form [v, .int w] st = .ok (.bl (formB w v)) st' ∧ Gr st st' := by
  cases v with
  | loc n => exact h.elim
  | tup ds =>
    by_cases hl : ds.length = w + 1
    · obtain ⟨st', e, g, n⟩ := fLc_gr (own := [2]) (fi := fSeq (fVar 0)) (g := tgN 2) (fe := fCall g_is_number (fCons (fVar 2) (fNil))) (ρ := [some (.tup ds), some (.int w), none]) (st := st) (st1 := st) (ds := ds) (chk := fun _ => true) (fun d => .bl (numB d))
        rfl (short h.1) (fun _ _ => rfl) (fun d hd s _ => ⟨_, rfl, s, by simpa [wipeE] using is_number_ok (h.2 d hd s), Gr.refl⟩)
      have a := gAll_loc (lstAt_lst n) (bols_map numB ds)
      rw [all_map] at a
      exact ⟨st', by simp [g_is_form, arN, den_ap, m_is_form, hl, e, a, formB], g⟩
    · have hl' : ¬ ((ds.length : Int) = (w : Int) + 1) := by omega
      exact ⟨st, by simp [g_is_form, arN, den_ap, m_is_form, hl, hl', formB], Gr.refl⟩
  | _ => exact ⟨st, by simp [g_is_form, arN, den_ap, m_is_form, formB], Gr.refl⟩
theorem isi_bool {s : D} (h : notLoc s) (st : S) : gIsi "bool" s st = some (.bl (isBl s), st) := by
  cases s <;> first | exact h.elim | simp [isBl]
theorem is_fact_ok {v : D} {w : Nat} (h : EFact v) (st : S) : ∃ st', g_is_fact [v, .int w] st = .ok (.bl (factB w v)) st' ∧ Gr st st' := by
  cases v with
  | loc n => exact h.elim
  | tup es =>
    match es, h with
    | [], h => exact ⟨st, by simp [g_is_fact, arN, den_ap, m_is_fact, factB], Gr.refl⟩
    | [x], h => exact ⟨st, by simp [g_is_fact, arN, den_ap, m_is_fact, factB], Gr.refl⟩
    | x :: y :: z :: r, h =>
      have e : ¬ (((r.length : Nat) : Int) + 1 + 1 + 1 = 2) := by omega
      exact ⟨st, by simp [g_is_fact, arN, den_ap, m_is_fact, factB, e], Gr.refl⟩
    | [f, s], ⟨hf, hs⟩ =>
      obtain ⟨st', e, g⟩ := is_form_ok (w := w) hf st
      refine ⟨st', ?_, g⟩
      cases c : formB w f with
      | false =>
        rw [c] at e
        simp [g_is_fact, arN, den_ap, m_is_fact, factB, e, c]
      | true =>
        rw [c] at e
        simp [g_is_fact, arN, den_ap, m_is_fact, factB, e, c, isi_bool hs]
  | _ => exact ⟨st, by simp [g_is_fact, arN, den_ap, m_is_fact, factB], Gr.refl⟩
end K04

set_option Elab.async false
set_option linter.all false
set_option maxRecDepth 100000
set_option maxHeartbeats 4000000
namespace K04
open PySem MP
/-- a list or a tuple with these items -/
def Src (st : S) (x : D) (ds : List D) : Prop := x = .tup ds ∨ ∃ n, x = .loc n ∧ lstAt st n = some ds
theorem Src.gr {s s' : S} {x : D} {ds : List D} (h : Src s x ds) (g : Gr s s') : Src s' x ds := by
  rcases h with h | ⟨n, h, e⟩
  · exact .inl h
  · exact .inr ⟨n, h, g.lst e⟩
theorem Src.sq {s : S} {x : D} {ds : List D} (h : Src s x ds) : ∃ chk : S → Bool, sqD s x = some (ds, chk) ∧ ∀ s', Gr s s' → chk s' = true := by
  rcases h with rfl | ⟨n, rfl, e⟩
  · exact ⟨_, rfl, fun _ _ => rfl⟩
  · refine ⟨fun s => decide (lstAt s n = some ds), ?_, fun s' g => decide_eq_true (g.lst e)⟩
    show (lstAt s n).map _ = _
    rw [e]
    rfl
theorem Src.len {s : S} {x : D} {ds : List D} (h : Src s x ds) : gLen [x] s = some (.int ds.length, s) := by
  rcases h with rfl | ⟨n, rfl, e⟩
  · rfl
  · exact gLen_loc s e
def enumK : Nat → List D → List D
  | _, [] => []
  | k, d :: ds => .tup [.int (k : Int), d] :: enumK (k + 1) ds
theorem enumK_eq : ∀ (ds : List D) (k : Nat), enumK k ds = ds.mapIdx fun i d => .tup [.int ((k + i : Nat) : Int), d]
  | [], k => rfl
  | d :: ds, k => by
    rw [List.mapIdx_cons]
    unfold enumK
    rw [enumK_eq ds (k + 1)]
    congr 1
    congr 1
    funext i d
    rw [show k + 1 + i = k + (i + 1) by omega]
theorem enumD_eq (ds : List D) : enumD ds = enumK 0 ds := by
  rw [enumK_eq]
  unfold enumD
  congr 1
  funext i d
  rw [Nat.zero_add]
def fbad (w : Nat) : List D → Option Nat
  | [] => none
  | d :: ds => if factB w d = true then (fbad w ds).map (· + 1) else some 0
noncomputable abbrev crB : FS := sIf (fNot (fTru (fCall g_is_fact (fCons (fVar 3) (fCons (fVar 1) (fNil)))))) (sRaise ("BadFacts" : Str) [("index" : Str)] (fCons (fVar 2) (fNil))) (sSkip)
theorem check_loop {w : Nat} {X : D} {chk : S → Bool} : ∀ (ds : List D) (k : Nat) (x y : Option D) (s : S), (∀ s', Gr s s' → chk s' = true) → (∀ d ∈ ds, EFact d) →
    match fbad w ds with
    | none => ∃ x' y' s', sLoop chk (tgTup [tgN 2, tgN 3]) crB (enumK k ds) [some X, some (.int w), x, y] s = .nx [some X, some (.int w), x', y'] s' ∧ Gr s s'
    | some i => ∃ ρ s', sLoop chk (tgTup [tgN 2, tgN 3]) crB (enumK k ds) [some X, some (.int w), x, y] s = .ex ⟨"BadFacts", s'.length⟩ ρ (s' ++ [.xd [(("index" : Str), .int ((k + i : Nat) : Int))]]) ∧ Gr s s'
  | [], k, x, y, s, hc, hf => ⟨x, y, s, by unfold enumK; rw [sLoop_nil, if_pos (hc s Gr.refl)], Gr.refl⟩
  | d :: ds, k, x, y, s, hc, hf => by
    obtain ⟨s1, e1, g1⟩ := is_fact_ok (w := w) (hf d List.mem_cons_self) s
    have t1 : tgTup [tgN 2, tgN 3] (.tup [.int (k : Int), d]) s [some X, some (.int w), x, y] = some [some X, some (.int w), some (.int k), some d] := rfl
    cases c : factB w d with
    | true =>
      rw [c] at e1
      have b1 : crB [some X, some (.int w), some (.int k), some d] s = .nx [some X, some (.int w), some (.int k), some d] s1 := by simp [e1]
      have h := check_loop (w := w) (X := X) (chk := chk) ds (k + 1) (some (.int k)) (some d) s1 (fun s' g => hc s' (g1.trans g)) (fun d' h' => hf d' (List.mem_cons_of_mem _ h'))
      have un : sLoop chk (tgTup [tgN 2, tgN 3]) crB (enumK k (d :: ds)) [some X, some (.int w), x, y] s = sLoop chk (tgTup [tgN 2, tgN 3]) crB (enumK (k + 1) ds) [some X, some (.int w), some (.int k), some d] s1 := by
        rw [show enumK k (d :: ds) = .tup [.int (k : Int), d] :: enumK (k + 1) ds from rfl]
        conv => lhs; unfold sLoop
        rw [if_pos (hc s Gr.refl), t1]
        simp only [b1]
      rw [un]
      unfold fbad
      rw [if_pos c]
      cases q : fbad w ds with
      | none =>
        rw [q] at h
        obtain ⟨x', y', s', e, g⟩ := h
        exact ⟨x', y', s', e, g1.trans g⟩
      | some i =>
        rw [q] at h
        obtain ⟨ρ, s', e, g⟩ := h
        refine ⟨ρ, s', ?_, g1.trans g⟩
        rw [e]
        rw [show k + 1 + i = k + (i + 1) by omega]
    | false =>
      rw [c] at e1
      unfold fbad
      rw [c]
      have b1 : crB [some X, some (.int w), some (.int k), some d] s = .ex ⟨"BadFacts", s1.length⟩ [some X, some (.int w), some (.int k), some d] (s1 ++ [.xd [(("index" : Str), .int (k : Int))]]) := by simp [e1]
      refine ⟨[some X, some (.int w), some (.int k), some d], s1, ?_, g1⟩
      rw [show enumK k (d :: ds) = .tup [.int (k : Int), d] :: enumK (k + 1) ds from rfl]
      conv => lhs; unfold sLoop
      rw [if_pos (hc s Gr.refl), t1]
      simp only [b1]
      rfl
theorem check_den {X : D} {ds : List D} {w : Nat} {st : S} (h : Src st X ds) : ∃ chk : S → Bool, (∀ s', Gr st s' → chk s' = true) ∧ g_check_region [X, .int w] st = (sLoop chk (tgTup [tgN 2, tgN 3]) crB (enumK 0 ds) [some X, some (.int w), none, none] st).out := by
  obtain ⟨chk, e, hc⟩ := h.sq
  refine ⟨chk, hc, ?_⟩
  unfold g_check_region arN
  rw [if_pos (show [X, D.int w].length = 2 from rfl), den_ap]
  show (sForI (fEnum2 (fCons (fVar 0) (fNil))) (tgTup [tgN 2, tgN 3]) crB [some X, some (.int w), none, none] st).out = _
  unfold sForI fEnum2
  simp only [fCons_ap, fVar_ap, List.getElem?_cons_zero, Out.bind_ok, fNil_ap, e, Out.so_ok, enumD_eq]
theorem check_ok {X : D} {ds : List D} {w : Nat} {st : S} (h : Src st X ds) (hf : ∀ d ∈ ds, EFact d) (hb : fbad w ds = none) : ∃ st', g_check_region [X, .int w] st = .ok .non st' ∧ Gr st st' := by
  obtain ⟨chk, hc, e⟩ := check_den (w := w) h
  have l := check_loop (w := w) (X := X) (chk := chk) ds 0 none none st hc hf
  rw [hb] at l
  obtain ⟨x', y', s', e2, g⟩ := l
  exact ⟨s', by rw [e, e2]; rfl, g⟩
theorem check_bad {X : D} {ds : List D} {w i : Nat} {st : S} (h : Src st X ds) (hf : ∀ d ∈ ds, EFact d) (hb : fbad w ds = some i) : ∃ st', g_check_region [X, .int w] st = .exc ⟨"BadFacts", st'.length⟩ (st' ++ [.xd [(("index" : Str), .int (i : Int))]]) ∧ Gr st st' := by
  obtain ⟨chk, hc, e⟩ := check_den (w := w) h
  have l := check_loop (w := w) (X := X) (chk := chk) ds 0 none none st hc hf
  rw [hb] at l
  obtain ⟨ρ, s', e2, g⟩ := l
  exact ⟨s', by rw [e, e2, Nat.zero_add]; rfl, g⟩
theorem fbad_none {w : Nat} : ∀ {ds : List D}, (∀ d ∈ ds, factB w d = true) → fbad w ds = none
  | [], h => rfl
  | d :: ds, h => by
    unfold fbad
    rw [if_pos (h d List.mem_cons_self), fbad_none fun d' h' => h d' (List.mem_cons_of_mem _ h')]
    rfl
theorem fbad_at {w : Nat} : ∀ {ds : List D} {i : Nat} (hi : i < ds.length), (∀ j (hj : j < i), factB w (ds[j]'(Nat.lt_trans hj hi)) = true) → factB w ds[i] = false → fbad w ds = some i
  | d :: ds, 0, hi, h, hb => by
    unfold fbad
    have : factB w d = false := hb
    rw [this]
    rfl
  | d :: ds, i + 1, hi, h, hb => by
    have h0 : factB w d = true := h 0 (by omega)
    unfold fbad
    rw [if_pos h0, fbad_at (ds := ds) (i := i) (by simpa using hi) (fun j hj => h (j + 1) (by omega)) hb]
    rfl
/-! ### multipliers -/
def nneg : D → Bool
  | .tup [.int p, .int _] => decide (0 ≤ p)
  | _ => false
def mulB (d : D) : Bool := numB d && nneg d
/-- multipliers of any kind that can be looked at -/
def EPap (s : S) : D → Prop
  | .loc n => ∃ xs, lstAt s n = some xs
  | .tup ds => ds.length ≤ 1000 ∧ (∀ d ∈ ds, Ent s d) ∧ ∀ d ∈ ds, numB d = true → Nb B80 d
  | _ => True
theorem EPap.gr {s s' : S} {x : D} (h : EPap s x) (g : Gr s s') : EPap s' x := by
  cases x with
  | loc n =>
    obtain ⟨xs, hx⟩ := h
    exact ⟨xs, g.lst hx⟩
  | tup ds => exact ⟨h.1, fun d hd => (h.2.1 d hd).gr g, h.2.2⟩
  | _ => trivial
def papB (n : Nat) : D → Bool
  | .tup ds => decide (ds.length = n) && ds.all mulB
  | _ => false
theorem num_fr {d : D} (h : numB d = true) : ∃ p q : Int, d = fr p q ∧ 1 ≤ q ∧ gi p q = 1 := by
  unfold numB at h
  split at h
  · rw [Bool.and_eq_true] at h
    exact ⟨_, _, rfl, of_decide_eq_true h.1, of_decide_eq_true h.2⟩
  · cases h
theorem mul_item {d : D} {s : S} (h : Ent s d) : (fAndV (fCall g_is_number (fCons (fVar 2) (fNil))) (fBin gGe (fCall g_sign (fCons (fVar 2) (fNil))) (fC (.int 0)))) [some x, some y, some d] s = .ok (.bl (mulB d)) s := by
  have e := is_number_ok h
  cases c : numB d with
  | false =>
    rw [c] at e
    simp [e, mulB, c]
  | true =>
    rw [c] at e
    obtain ⟨p, q, rfl, h1, h2⟩ := num_fr c
    have es := sign_ok (p := p) (q := q) s
    have hs := sg_ge p
    simp [e, es, mulB, c, nneg, hs]
theorem are_mult_ok {x : D} {n : Nat} {st : S} (h : EPap st x) : ∃ st', g_are_multipliers [x, .int n] st = .ok (.bl (papB n x)) st' ∧ Gr st st' := by
  cases x with
  | loc k =>
    obtain ⟨xs, hx⟩ := h
    exact ⟨st, by simp [g_are_multipliers, arN, den_ap, m_are_multipliers, gIsi_loc st hx, papB], Gr.refl⟩
  | tup ds =>
    by_cases hl : ds.length = n
    · obtain ⟨st', e, g, k⟩ := fLc_gr (own := [2]) (fi := fSeq (fVar 0)) (g := tgN 2) (fe := (fAndV (fCall g_is_number (fCons (fVar 2) (fNil))) (fBin gGe (fCall g_sign (fCons (fVar 2) (fNil))) (fC (.int 0))))) (ρ := [some (.tup ds), some (.int n), none]) (st := st) (st1 := st) (ds := ds) (chk := fun _ => true) (fun d => .bl (mulB d))
        rfl (short h.1) (fun _ _ => rfl) (fun d hd s gs => ⟨_, rfl, s, mul_item ((h.2.1 d hd).gr gs), Gr.refl⟩)
      have a := gAll_loc (lstAt_lst k) (bols_map mulB ds)
      rw [all_map] at a
      refine ⟨st', ?_, g⟩
      unfold g_are_multipliers arN
      rw [if_pos (show [D.tup ds, D.int n].length = 2 from rfl), den_ap]
      show ((sSeq _ (sRet (fArgs gAll (fCons (fLc [2] _ _ _ _) _)))) [some (.tup ds), some (.int n), none] st).out = _
      have f1 : (sIf (fOr (fNot (fTru (fUn (gIsi "tuple") (fVar 0)))) (fIsB (fBin gNe (fArgs gLen (fCons (fVar 0) (fNil))) (fVar 1)))) (sRet (fC (.bl false))) (sSkip)) [some (.tup ds), some (.int n), none] st = .nx [some (.tup ds), some (.int n), none] st := by simp [hl]
      rw [sSeq_ap, f1, then_nx]
      have f2 : (fArgs gAll (fCons (fLc [2] (fSeq (fVar 0)) (tgN 2) fYes (fAndV (fCall g_is_number (fCons (fVar 2) (fNil))) (fBin gGe (fCall g_sign (fCons (fVar 2) (fNil))) (fC (.int 0))))) fNil)) [some (.tup ds), some (.int n), none] st = .ok (.bl (papB n (.tup ds))) st' := by
        rw [show papB n (.tup ds) = ds.all mulB by simp [papB, hl]]
        exact args_ok (cons_ok e nil_ok) a
      exact congrArg SO.out (ret_ok f2)
    · have hl' : ¬ ((ds.length : Int) = (n : Int)) := by omega
      exact ⟨st, by simp [g_are_multipliers, arN, den_ap, m_are_multipliers, hl, hl', papB], Gr.refl⟩
  | _ => exact ⟨st, by simp [g_are_multipliers, arN, den_ap, m_are_multipliers, papB], Gr.refl⟩
end K04

set_option Elab.async false
set_option linter.all false
set_option maxRecDepth 100000
set_option maxHeartbeats 4000000
namespace K04
open PySem MP
abbrev U : Nat := 10 ^ 160
theorem U12 : 12 * U ^ 12 < 2 ^ 7000 := by decide +kernel
theorem two7 : 2 ^ 7000 ≤ 2 ^ 8000 := Nat.pow_le_pow_right (by decide) (by decide)
theorem U_le {k : Nat} (hk : k ≤ 12) : U ^ k ≤ U ^ 12 := Nat.pow_le_pow_right (by decide) hk
theorem bd_sm1 {k : Nat} {x : Int × Int} (h : Bd U k x) (hk : k ≤ 12) : Sm x.1 := by
  unfold Sm
  have a := h.top
  have b : k * U ^ k ≤ 12 * U ^ 12 := Nat.mul_le_mul hk (U_le hk)
  exact Nat.lt_of_le_of_lt (Nat.le_trans a b) (Nat.lt_of_lt_of_le U12 two7)
theorem bd_sm2 {k : Nat} {x : Int × Int} (h : Bd U k x) (hk : k ≤ 12) : Sm x.2 := by
  unfold Sm
  have a := h.bot
  have b : U ^ k ≤ 12 * U ^ 12 := Nat.le_trans (U_le hk) (Nat.le_mul_of_pos_left _ (by decide))
  exact Nat.lt_of_le_of_lt (Nat.le_trans a b) (Nat.lt_of_lt_of_le U12 two7)
def lowP (x : Int × Int) : D := low x.1 x.2
def frP (x : Int × Int) : D := fr x.1 x.2
def prU : D → D → D
  | .tup [.int p0, .int p1], .tup [.int o0, .int o1] => fr (p0 * o0) (p1 * o1)
  | _, o => o
theorem add_step {x : Int × Int} {A B : Nat} {o m : D} (hx : 0 < x.2) (ho : Nb A o) (hm : Nb B m) : addD (lowP x) (mulD o m) = lowP (fs x (prU m o)) := by
  obtain ⟨p, q, rfl, N⟩ := ho
  obtain ⟨r, s, rfl, M⟩ := hm
  show addD (low x.1 x.2) (low (p * r) (q * s)) = low (x.1 * (s * q) + r * p * x.2) (x.2 * (s * q))
  rw [add_low hx (Int.mul_pos N.pos M.pos), Int.mul_comm r p, Int.mul_comm s q]
theorem bd_step {k : Nat} {x : Int × Int} {o m : D} (h : Bd U k x) (ho : Nb B80 o) (hm : Nb B80 m) : Bd U (k + 1) (fs x (prU m o)) := by
  obtain ⟨p, q, rfl, N⟩ := ho
  obtain ⟨r, s, rfl, M⟩ := hm
  have e : B80 * B80 = U := by rw [← Nat.pow_add]
  refine h.step (Int.mul_pos M.pos N.pos) ?_ ?_
  · have := natAbs_mul_lt M.top N.top
    rw [e] at this
    exact Nat.le_of_lt this
  · have := natAbs_mul_lt M.bot N.bot
    rw [e] at this
    exact Nat.le_of_lt this
theorem plus_step {k : Nat} {x : Int × Int} {o m : D} (h : Bd U k x) (hk : k ≤ 11) (ho : Nb B80 o) (hm : Nb B80 m) (st : S) : g_plus [lowP x, mulD o m] st = .ok (addD (lowP x) (mulD o m)) st := by
  have h2 := bd_step h ho hm
  obtain ⟨p, q, rfl, N⟩ := ho
  obtain ⟨r, s, rfl, M⟩ := hm
  obtain ⟨g, a, b, hg, e1, e2, hb, hr, e⟩ := low_spec (p := x.1) h.pos
  obtain ⟨g', c, d, hg', e3, e4, hd, hr', e'⟩ := low_spec (p := p * r) (q := q * s) (Int.mul_pos N.pos M.pos)
  have s1 := bd_sm1 h (by omega)
  have s2 := bd_sm2 h (by omega)
  have s3 : Sm (x.2 * (s * q)) := bd_sm2 h2 (by omega)
  have la : a.natAbs ≤ x.1.natAbs := by rw [e1, Int.natAbs_mul]; exact Nat.le_mul_of_pos_left _ (by omega)
  have lb : b.natAbs ≤ x.2.natAbs := by rw [e2, Int.natAbs_mul]; exact Nat.le_mul_of_pos_left _ (by omega)
  have lc : c.natAbs ≤ (p * r).natAbs := by rw [e3, Int.natAbs_mul]; exact Nat.le_mul_of_pos_left _ (by omega)
  have ld : d.natAbs ≤ (q * s).natAbs := by rw [e4, Int.natAbs_mul]; exact Nat.le_mul_of_pos_left _ (by omega)
  have lbd : (b * d).natAbs ≤ (x.2 * (s * q)).natAbs := by
    rw [Int.mul_comm s q, Int.natAbs_mul, Int.natAbs_mul x.2]
    exact Nat.mul_le_mul lb ld
  have t1 := sm_mul N.top M.top
  have t2 := sm_mul N.bot M.bot
  show g_plus [low x.1 x.2, low (p * r) (q * s)] st = .ok (addD (low x.1 x.2) (low (p * r) (q * s))) st
  rw [e, e']
  exact plus_ok hb hd (Nat.lt_of_le_of_lt la s1) (Nat.lt_of_le_of_lt lc t1) (Nat.lt_of_le_of_lt lb s2) (Nat.lt_of_le_of_lt ld t2) st (Nat.lt_of_le_of_lt lbd s3)
/-! ### facts with their multipliers -/
abbrev Tri := List D × Bool × D
def fcD (t : Tri) : D := .tup [.tup t.1, .bl t.2.1]
def wtD (t : Tri) : D := .tup (t.1.map (mulD · t.2.2))
def tf (t : Tri) : List D := t.1.map (prU t.2.2)
structure TOk (w : Nat) (t : Tri) : Prop where
  len : t.1.length = w + 1
  nb : ∀ d ∈ t.1, Nb B80 d
  m : Nb B80 t.2.2
def csum (T : List (List D)) (i : Nat) : Int × Int := (T.map fun f => f.getD i .non).foldl fs (0, 1)
theorem csum_app (T : List (List D)) (f : List D) (i : Nat) : csum (T ++ [f]) i = fs (csum T i) (f.getD i .non) := by
  unfold csum
  rw [List.map_append, List.foldl_append]
  rfl
theorem tf_at {w i : Nat} {t : Tri} (h : TOk w t) (hi : i < w + 1) : ∃ hi' : i < t.1.length, (tf t).getD i .non = prU t.2.2 (t.1[i]'hi') := by
  have := h.len
  refine ⟨by omega, ?_⟩
  unfold tf
  simp [show i < t.1.length by omega]
theorem csum_bd {w i : Nat} (hi : i < w + 1) : ∀ (Q don : List Tri), (∀ t ∈ don ++ Q, TOk w t) → Bd U don.length (csum (don.map tf) i) → Bd U (don ++ Q).length (csum ((don ++ Q).map tf) i)
  | [], don, h, b => by rw [List.append_nil]; exact b
  | t :: Q, don, h, b => by
    have ht := h t (by simp)
    obtain ⟨hi', e⟩ := tf_at ht hi
    have z := csum_bd hi Q (don ++ [t]) (by rw [List.append_assoc]; exact h) (by
      rw [List.map_append, List.map_singleton, csum_app, e, List.length_append, List.length_singleton]
      exact bd_step b (ht.nb _ (List.getElem_mem _)) ht.m)
    rw [List.append_assoc] at z
    exact z
theorem csum_bd' {w i : Nat} (hi : i < w + 1) {Q : List Tri} (h : ∀ t ∈ Q, TOk w t) : Bd U Q.length (csum (Q.map tf) i) := csum_bd hi Q [] h bd0
def colL (T : List (List D)) (w : Nat) : List D := (List.range (w + 1)).map fun i => lowP (csum T i)
theorem colL_len (T : List (List D)) (w : Nat) : (colL T w).length = w + 1 := by simp [colL]
theorem col_step {w : Nat} {don : List Tri} {t : Tri} (hd : ∀ t ∈ don, TOk w t) (ht : TOk w t) : List.zipWith addD (colL (don.map tf) w) (t.1.map (mulD · t.2.2)) = colL ((don ++ [t]).map tf) w := by
  have hl := ht.len
  refine List.ext_getElem (by simp [colL, hl]) fun i h1 h2 => ?_
  have hi : i < w + 1 := by rw [colL_len] at h2; exact h2
  obtain ⟨hi', e⟩ := tf_at ht hi
  have b := csum_bd' hi hd
  simp only [colL, List.getElem_zipWith, List.getElem_map, List.getElem_range, List.map_append, List.map_cons, List.map_nil, csum_app, e]
  exact add_step b.pos (ht.nb _ (List.getElem_mem _)) ht.m
theorem zip_at_mem {f g : List D} {d : D} (h : d ∈ zipD f g) : ∃ (i : Nat) (a b : D), f[i]? = some a ∧ g[i]? = some b ∧ d = .tup [a, b] := by
  obtain ⟨i, hi, e⟩ := List.mem_iff_getElem.mp h
  obtain ⟨a, b, h1, h2, h3⟩ := zipD_at (i := i) (d := d) (by rw [← e]; exact List.getElem?_eq_getElem hi)
  exact ⟨i, a, b, h1, h2, h3⟩
def un2 (F : D → D → D) : D → D
  | .tup [a, b] => F a b
  | d => d
theorem zip_un (F : D → D → D) : ∀ f g : List D, (zipD f g).map (un2 F) = List.zipWith F f g
  | [], g => by simp [zipD]
  | a :: f, [] => by simp [zipD]
  | a :: f, b :: g => by
    have z := zip_un F f g
    unfold zipD at z ⊢
    simp only [List.zip_cons_cons, List.map_cons, List.zipWith_cons_cons]
    rw [z]
    rfl
theorem zip_short {f g : List D} (h : f.length ≤ 1000) : (zipD f g).length < sizeLine := by
  have : sizeLine = 16777216 := sizeLine_eq
  rw [zipD_len]
  omega
theorem form_plus_ok {f g : List D} (hp : ∀ (i : Nat) (a b : D), f[i]? = some a → g[i]? = some b → ∀ st, g_plus [a, b] st = .ok (addD a b) st) (hl : f.length ≤ 1000) (st : S) : ∃ st', g_form_plus [.tup f, .tup g] st = .ok (.tup (List.zipWith addD f g)) st' ∧ Gr st st' := by
  have e := fLc_map (own := [2, 3]) (fi := fZip2 (fCons (fVar 0) (fCons (fVar 1) (fNil)))) (g := tgTup [tgN 2, tgN 3]) (fe := fCall g_plus (fCons (fVar 2) (fCons (fVar 3) (fNil)))) (ρ := [some (.tup f), some (.tup g), none, none]) (st := st) (st1 := st) (ds := zipD f g) (chk := fun _ => true) (F := un2 addD)
    rfl (zip_short hl) (fun _ => rfl) (fun d hd xs => by
      obtain ⟨i, a, b, ha, hb, rfl⟩ := zip_at_mem hd
      exact ⟨_, rfl, by simpa [wipeE, un2] using hp i a b ha hb _⟩)
  rw [zip_un] at e
  refine ⟨st ++ [.lst (List.zipWith addD f g)], ?_, Gr.app _⟩
  simp [g_form_plus, arN, den_ap, m_form_plus, e, gTuple_loc (lstAt_lst app_new)]
theorem form_times_ok {f : List D} {x : D} (hf : ∀ d ∈ f, Nb B80 d) (hx : Nb B80 x) (hl : f.length ≤ 1000) (st : S) : ∃ st', g_form_times [.tup f, x] st = .ok (.tup (f.map (mulD · x))) st' ∧ Gr st st' := by
  have e := fLc_map (own := [2]) (fi := fSeq (fVar 0)) (g := tgN 2) (fe := fCall g_times (fCons (fVar 2) (fCons (fVar 1) (fNil)))) (ρ := [some (.tup f), some x, none]) (st := st) (st1 := st) (ds := f) (chk := fun _ => true) (F := (mulD · x))
    rfl (short hl) (fun _ => rfl) (fun d hd xs => ⟨_, rfl, by simpa [wipeE] using times_nb (hf d hd) hx _⟩)
  refine ⟨st ++ [.lst (f.map (mulD · x))], ?_, Gr.app _⟩
  simp [g_form_times, arN, den_ap, m_form_times, e, gTuple_loc (lstAt_lst app_new)]
noncomputable abbrev ftB : FS := sSet 2 (fCall g_form_plus (fCons (fVar 2) (fCons (fVar 3) (fNil))))
theorem total_loop {w : Nat} {X : D} {chk : S → Bool} (hw : w ≤ 100) : ∀ (Q don : List Tri) (x : Option D) (s : S), (∀ t ∈ don ++ Q, TOk w t) → don.length + Q.length ≤ 12 → (∀ s', Gr s s' → chk s' = true) →
    ∃ y s', sLoop chk (tgN 3) ftB (Q.map wtD) [some X, some (.int w), some (.tup (colL (don.map tf) w)), x] s = .nx [some X, some (.int w), some (.tup (colL ((don ++ Q).map tf) w)), y] s' ∧ Gr s s'
  | [], don, x, s, h, hl, hc => ⟨x, s, by rw [List.map_nil, sLoop_nil, if_pos (hc s Gr.refl), List.append_nil], Gr.refl⟩
  | t :: Q, don, x, s, h, hl, hc => by
    have ht := h t (by simp)
    have hd : ∀ t ∈ don, TOk w t := fun t h' => h t (List.mem_append_left _ h')
    rw [List.length_cons] at hl
    obtain ⟨s1, e1, g1⟩ := form_plus_ok (f := colL (don.map tf) w) (g := t.1.map (mulD · t.2.2)) (fun i a b ha hb st => by
      obtain ⟨hi, e⟩ := List.getElem?_eq_some_iff.mp ha
      rw [colL_len] at hi
      obtain ⟨hi', e'⟩ := tf_at ht hi
      rw [List.getElem?_map, List.getElem?_eq_getElem hi'] at hb
      cases hb
      simp only [colL, List.getElem_map, List.getElem_range] at e
      rw [← e]
      exact plus_step (csum_bd' hi hd) (by omega) (ht.nb _ (List.getElem_mem _)) ht.m st) (by rw [colL_len]; omega) s
    rw [col_step hd ht] at e1
    obtain ⟨y, s2, e2, g2⟩ := total_loop (X := X) (chk := chk) hw Q (don ++ [t]) (some (wtD t)) s1 (by rw [List.append_assoc]; exact h) (by rw [List.length_append, List.length_singleton]; omega) (fun s' g => hc s' (g1.trans g))
    rw [List.append_assoc] at e2
    refine ⟨y, s2, ?_, g1.trans g2⟩
    have b1 : ftB [some X, some (.int w), some (.tup (colL (don.map tf) w)), some (wtD t)] s = .nx [some X, some (.int w), some (.tup (colL ((don ++ [t]).map tf) w)), some (wtD t)] s1 := set_ok (call_ok (cons_ok rfl (cons_ok rfl nil_ok)) e1)
    rw [List.map_cons]
    conv => lhs; unfold sLoop
    rw [if_pos (hc s Gr.refl)]
    show (match ftB [some X, some (.int w), some (.tup (colL (don.map tf) w)), some (wtD t)] s with
      | .nx ρ2 st2 => sLoop chk (tgN 3) ftB (Q.map wtD) ρ2 st2
      | .ct ρ2 st2 => sLoop chk (tgN 3) ftB (Q.map wtD) ρ2 st2
      | .bk ρ2 st2 => .nx ρ2 st2
      | .rt d st2 => .rt d st2
      | .ex e ρ2 st2 => .ex e ρ2 st2
      | .bad => .bad) = _
    rw [b1]
    exact e2
theorem col_zero (w : Nat) : colL [] w = fr 0 1 :: List.replicate w (fr 0 1) := by
  have h : lowP (csum [] 0) = fr 0 1 := by
    show low 0 1 = _
    exact low_one 0
  rw [← List.replicate_succ]
  unfold colL
  refine List.ext_getElem (by simp) fun i h1 h2 => ?_
  simp only [List.getElem_map, List.getElem_range, List.getElem_replicate]
  exact low_one 0
theorem form_total_ok {w k : Nat} {Q : List Tri} {st : S} (hw : w ≤ 100) (hk : lstAt st k = some (Q.map wtD)) (hQ : ∀ t ∈ Q, TOk w t) (hl : Q.length ≤ 12) : ∃ st', g_form_total [.loc k, .int w] st = .ok (.tup (colL (Q.map tf) w)) st' ∧ Gr st st' := by
  obtain ⟨y, s', e, g⟩ := total_loop (X := .loc k) (chk := fun s => decide (lstAt s k = some (Q.map wtD))) hw Q [] none st hQ (by simpa using hl) (fun s' g => decide_eq_true (g.lst hk))
  refine ⟨s', ?_, g⟩
  unfold g_form_total arN
  rw [if_pos (show [D.loc k, D.int w].length = 2 from rfl), den_ap]
  show ((sSeq (sSet 2 (fCall g_flat (fCons (fC c_ZERO) (fCons (fVar 1) (fNil))))) (sSeq (sFor (fVar 0) (tgN 3) ftB) (sRet (fVar 2)))) [some (.loc k), some (.int w), none, none] st).out = _
  have fl : g_flat [c_ZERO, .int w] st = .ok (.tup (colL [] w)) st := by
    rw [col_zero]
    have h1 : (-1000 : Int) ≤ w := by omega
    have h2 : (w : Int) ≤ 1000 := by omega
    have h3 : 1 + w ≤ sizeLine := by
      have : sizeLine = 16777216 := sizeLine_eq
      omega
    simp [g_flat, arN, den_ap, m_flat, h1, h2, rep_one, h3]
  have f1 : (sSet 2 (fCall g_flat (fCons (fC c_ZERO) (fCons (fVar 1) (fNil))))) [some (.loc k), some (.int w), none, none] st = .nx [some (.loc k), some (.int w), some (.tup (colL [] w)), none] st := set_ok (call_ok (cons_ok rfl (cons_ok rfl nil_ok)) fl)
  rw [sSeq_ap, f1, then_nx, sSeq_ap, sFor_loc (n := k) (st1 := st) (ds := Q.map wtD) rfl hk]
  refine (congrArg (fun o : SO => (o.then_ (sRet (fVar 2))).out) e).trans ?_
  rfl
end K04

set_option Elab.async false
set_option linter.all false
set_option maxRecDepth 100000
set_option maxHeartbeats 4000000
namespace K04
open PySem MP
theorem gAny_loc {st : S} {n : Nat} {xs : List D} {bs : List Bool} (h : lstAt st n = some xs) (e : bolsD xs = some bs) : gAny [.loc n] st = some (.bl (bs.any id), st) := by
  unfold gAny
  simp only [h, e, Option.map_some]
theorem any_map {α : Type} (ds : List α) (f : α → Bool) : (ds.map f).any id = ds.any f := by
  induction ds with
  | nil => rfl
  | cons d ds ih => simp [List.any_cons, ih]
def topD : D → Int
  | .tup [.int p, _] => p
  | _ => 0
theorem sgI_mul {g a : Int} (hg : 0 < g) : sgI (g * a) = sgI a := by
  rcases Int.lt_trichotomy a 0 with h | h | h
  · have := Int.mul_neg_of_pos_of_neg hg h
    rw [show sgI (g * a) = -1 from by unfold sgI; rw [if_neg (by omega), if_pos this], show sgI a = -1 from by unfold sgI; rw [if_neg (by omega), if_pos h]]
  · subst h
    rw [Int.mul_zero]
  · have := Int.mul_pos hg h
    unfold sgI
    rw [if_pos this, if_pos h]
/-- a sum as a number: its sign -/
theorem low_sign {x : Int × Int} (h : 0 < x.2) : ∃ a b : Int, lowP x = fr a b ∧ sgI a = sgI x.1 := by
  obtain ⟨g, a, b, hg, e1, e2, hb, hr, e⟩ := low_spec (p := x.1) h
  exact ⟨a, b, e, by rw [e1, sgI_mul hg]⟩
def zq (t : Tri) : D := .tup [fcD t, t.2.2]
theorem zip_tri : ∀ Q : List Tri, zipD (Q.map fcD) (Q.map (·.2.2)) = Q.map zq
  | [] => rfl
  | t :: Q => by
    have z := zip_tri Q
    unfold zipD at z ⊢
    simp only [List.map_cons, List.zip_cons_cons]
    rw [z]
    rfl
theorem fc_fact {w : Nat} {t : Tri} (h : TOk w t) (hw : w ≤ 100) : EFact (fcD t) ∧ factB w (fcD t) = true := by
  refine ⟨⟨⟨by have := h.len; omega, fun d hd s => nb_ent (h.nb d hd) s⟩, trivial⟩, ?_⟩
  have a : t.1.all numB = true := List.all_eq_true.mpr fun d hd => numB_nb (h.nb d hd)
  simp [fcD, factB, formB, isBl, h.len, a]
theorem zip2_src {X : D} {ds es : List D} {ρ : En} {st : S} {i j : Nat} (h : Src st X ds) (hi : ρ[i]? = some (some X)) (hj : ρ[j]? = some (some (.tup es))) :
    ∃ chk : S → Bool, fZip2 (fCons (fVar i) (fCons (fVar j) (fNil))) ρ st = .ok (zipD ds es, chk) st ∧ ∀ s', Gr st s' → chk s' = true := by
  obtain ⟨chk, e, hc⟩ := h.sq
  refine ⟨fun s => chk s && true, ?_, fun s' g => by show (chk s' && true) = true; rw [hc s' g]; rfl⟩
  unfold fZip2
  have e2 : sqD st (.tup es) = some (es, fun _ => true) := rfl
  simp only [fCons_ap, fVar_ap, hi, hj, Out.bind_ok, fNil_ap, e, e2]
noncomputable abbrev wtB : FE := fCall g_form_times (fCons (fBin gIx (fVar 7) (fC (.int 0))) (fCons (fVar 8) (fNil)))
theorem weighted_ok {w : Nat} {X : D} {Q : List Tri} {st : S} {ρ : En} (hX : Src st X (Q.map fcD)) (hQ : ∀ t ∈ Q, TOk w t) (hl : Q.length ≤ 12) (hw : w ≤ 100) (h0 : ρ[0]? = some (some X)) (h2 : ρ[2]? = some (some (.tup (Q.map (·.2.2))))) (hρ : ρ.length = 10) :
    ∃ s', fLc [7, 8] (fZip2 (fCons (fVar 0) (fCons (fVar 2) (fNil)))) (tgTup [tgN 7, tgN 8]) (fYes) wtB ρ st = .ok (.loc st.length) s' ∧ Gr st s' ∧ s'[st.length]? = some (.lst (Q.map wtD)) := by
  obtain ⟨chk, e, hc⟩ := zip2_src hX h0 h2
  rw [zip_tri] at e
  obtain ⟨s', e', g, n⟩ := fLc_gr (own := [7, 8]) (fi := fZip2 (fCons (fVar 0) (fCons (fVar 2) (fNil)))) (g := tgTup [tgN 7, tgN 8]) (fe := wtB) (ρ := ρ) (st := st) (st1 := st) (ds := Q.map zq) (chk := chk)
    (fun d => match d with
      | .tup [.tup [.tup f, _], m] => .tup (f.map (mulD · m))
      | _ => .non) e (short (by rw [List.length_map]; omega)) hc (fun d hd s gs => by
        obtain ⟨t, ht, rfl⟩ := List.mem_map.mp hd
        have T := hQ t ht
        obtain ⟨s1, e1, g1⟩ := form_times_ok T.nb T.m (by have := T.len; omega) s
        refine ⟨((wipeE ρ [7, 8]).set 7 (some (fcD t))).set 8 (some t.2.2), rfl, s1, ?_, g1⟩
        have r7 : (((wipeE ρ [7, 8]).set 7 (some (fcD t))).set 8 (some t.2.2))[7]? = some (some (fcD t)) := by
          rw [List.getElem?_set_ne (by decide), List.getElem?_set_self (by simp [wipeE, hρ])]
        have r8 : (((wipeE ρ [7, 8]).set 7 (some (fcD t))).set 8 (some t.2.2))[8]? = some (some t.2.2) := by
          rw [List.getElem?_set_self (by simp [wipeE, hρ])]
        exact call_ok (cons_ok (bin_ok (v_ok r7) c_ok (by simp [fcD])) (cons_ok (v_ok r8) nil_ok)) e1)
  rw [List.map_map] at n
  exact ⟨s', e', g, n⟩
noncomputable abbrev stB : FE := fAndV (fBin gIx (fVar 7) (fC (.int 1))) (fBin gGt (fCall g_sign (fCons (fVar 8) (fNil))) (fC (.int 0)))
def strB (t : Tri) : Bool := t.2.1 && decide (0 < topD t.2.2)
theorem strict_ok {w : Nat} {X : D} {Q : List Tri} {st : S} {ρ : En} (hX : Src st X (Q.map fcD)) (hQ : ∀ t ∈ Q, TOk w t) (hl : Q.length ≤ 12) (h0 : ρ[0]? = some (some X)) (h2 : ρ[2]? = some (some (.tup (Q.map (·.2.2))))) (hρ : ρ.length = 10) :
    ∃ s', fArgs gAny (fCons (fLc [7, 8] (fZip2 (fCons (fVar 0) (fCons (fVar 2) (fNil)))) (tgTup [tgN 7, tgN 8]) (fYes) stB) (fNil)) ρ st = .ok (.bl (Q.any strB)) s' ∧ Gr st s' := by
  obtain ⟨chk, e, hc⟩ := zip2_src hX h0 h2
  rw [zip_tri] at e
  obtain ⟨s', e', g, n⟩ := fLc_gr (own := [7, 8]) (fi := fZip2 (fCons (fVar 0) (fCons (fVar 2) (fNil)))) (g := tgTup [tgN 7, tgN 8]) (fe := stB) (ρ := ρ) (st := st) (st1 := st) (ds := Q.map zq) (chk := chk)
    (fun d => match d with
      | .tup [.tup [_, .bl b], m] => .bl (b && decide (0 < topD m))
      | _ => .non) e (short (by rw [List.length_map]; omega)) hc (fun d hd s gs => by
        obtain ⟨t, ht, rfl⟩ := List.mem_map.mp hd
        obtain ⟨p, q, em, M⟩ := (hQ t ht).m
        refine ⟨((wipeE ρ [7, 8]).set 7 (some (fcD t))).set 8 (some t.2.2), rfl, s, ?_, Gr.refl⟩
        have r7 : (((wipeE ρ [7, 8]).set 7 (some (fcD t))).set 8 (some t.2.2))[7]? = some (some (fcD t)) := by
          rw [List.getElem?_set_ne (by decide), List.getElem?_set_self (by simp [wipeE, hρ])]
        have r8 : (((wipeE ρ [7, 8]).set 7 (some (fcD t))).set 8 (some t.2.2))[8]? = some (some t.2.2) := by
          rw [List.getElem?_set_self (by simp [wipeE, hρ])]
        have es := sign_ok (p := p) (q := q) s
        have hs := sg_gt p
        generalize ((wipeE ρ [7, 8]).set 7 (some (fcD t))).set 8 (some t.2.2) = ρ1 at r7 r8
        rw [em] at r8
        show stB ρ1 s = .ok (.bl (t.2.1 && decide (0 < topD t.2.2))) s
        cases c : t.2.1 with
        | false => simp [r7, fcD, c]
        | true => simp [r7, r8, fcD, c, es, em, topD, hs])
  rw [List.map_map] at n
  have n' : s'[st.length]? = some (.lst (Q.map fun t => .bl (strB t))) := n
  have a := gAny_loc (lstAt_lst n') (bols_map strB Q)
  rw [any_map] at a
  exact ⟨s', args_ok (cons_ok e' nil_ok) a, g⟩
theorem colL_cons (T : List (List D)) (w : Nat) : colL T w = lowP (csum T 0) :: (List.range w).map fun i => lowP (csum T (i + 1)) := by
  unfold colL
  rw [List.range_succ_eq_map, List.map_cons, List.map_map]
  rfl
noncomputable abbrev neB : FE := fBin gNe (fCall g_sign (fCons (fVar 9) (fNil))) (fC (.int 0))
theorem flat_ok {w : Nat} {Q : List Tri} {st : S} {ρ : En} (hQ : ∀ t ∈ Q, TOk w t) (hw : w ≤ 100) (h4 : ρ[4]? = some (some (.tup (colL (Q.map tf) w)))) (hρ : ρ.length = 10) :
    ∃ s', fArgs gAny (fCons (fLc [9] (fSeq (fSl gSl (fVar 4) (fPart (fC (.int 1))) (fNo))) (tgN 9) (fYes) neB) (fNil)) ρ st = .ok (.bl ((List.range w).any fun i => decide ((csum (Q.map tf) (i + 1)).1 ≠ 0))) s' ∧ Gr st s' := by
  have e : fSeq (fSl gSl (fVar 4) (fPart (fC (.int 1))) (fNo)) ρ st = .ok ((List.range w).map (fun i => lowP (csum (Q.map tf) (i + 1))), fun _ => true) st := by
    simp [h4, colL_cons, cut_tl]
  obtain ⟨s', e', g, n⟩ := fLc_gr (own := [9]) (fi := fSeq (fSl gSl (fVar 4) (fPart (fC (.int 1))) (fNo))) (g := tgN 9) (fe := neB) (ρ := ρ) (st := st) (st1 := st) (ds := (List.range w).map (fun i => lowP (csum (Q.map tf) (i + 1)))) (chk := fun _ => true)
    (fun d => .bl (!decide (topD d = 0))) e (short (by simp; omega)) (fun _ _ => rfl) (fun d hd s gs => by
        obtain ⟨i, hi, rfl⟩ := List.mem_map.mp hd
        rw [List.mem_range] at hi
        obtain ⟨a, b, ea, es⟩ := low_sign (csum_bd' (i := i + 1) (by omega) hQ).pos
        refine ⟨(wipeE ρ [9]).set 9 (some (lowP (csum (Q.map tf) (i + 1)))), rfl, s, ?_, Gr.refl⟩
        have r9 : ((wipeE ρ [9]).set 9 (some (lowP (csum (Q.map tf) (i + 1)))))[9]? = some (some (lowP (csum (Q.map tf) (i + 1)))) := by
          rw [List.getElem?_set_self (by simp [wipeE, hρ])]
        rw [ea] at r9 ⊢
        have e1 := sign_ok (p := a) (q := b) s
        have hs := sg_eq a
        simp [r9, e1, topD, hs]
        exact decide_eq_decide.mpr Iff.rfl)
  rw [List.map_map] at n
  have n' : s'[st.length]? = some (.lst ((List.range w).map fun i => .bl ((!decide (topD (lowP (csum (Q.map tf) (i + 1))) = 0))))) := n
  have a := gAny_loc (lstAt_lst n') (bols_map (fun i => (!decide (topD (lowP (csum (Q.map tf) (i + 1))) = 0))) (List.range w))
  rw [any_map] at a
  refine ⟨s', ?_, g⟩
  have cg : (List.range w).any (fun i => (!decide (topD (lowP (csum (Q.map tf) (i + 1))) = 0))) = (List.range w).any (fun i => decide ((csum (Q.map tf) (i + 1)).1 ≠ 0)) := by
    rw [Bool.eq_iff_iff, List.any_eq_true, List.any_eq_true]
    have q : ∀ i ∈ List.range w, ((!decide (topD (lowP (csum (Q.map tf) (i + 1))) = 0)) = true ↔ decide ((csum (Q.map tf) (i + 1)).1 ≠ 0) = true) := fun i hi => by
      rw [List.mem_range] at hi
      obtain ⟨a, b, ea, es⟩ := low_sign (csum_bd' (i := i + 1) (by omega) hQ).pos
      have h1 := sg_eq a
      have h2 := sg_eq (csum (Q.map tf) (i + 1)).1
      rw [ea, decide_eq_true_eq, Bool.not_eq_true', decide_eq_false_iff_not]
      show ¬ a = 0 ↔ _
      rw [← h1, es, h2]
    exact ⟨fun ⟨i, hi, h⟩ => ⟨i, hi, (q i hi).mp h⟩, fun ⟨i, hi, h⟩ => ⟨i, hi, (q i hi).mpr h⟩⟩
  rw [cg] at a
  exact args_ok (cons_ok e' nil_ok) a
theorem seq_rt {ρ : En} {st st1 : S} {d : D} {f g : FS} (h1 : f ρ st = .rt d st1) : sSeq f g ρ st = .rt d st1 := by rw [sSeq_ap, h1, then_rt]
def showsB (w : Nat) (Q : List Tri) : Bool :=
  if ((List.range w).any fun i => decide ((csum (Q.map tf) (i + 1)).1 ≠ 0)) = true then false
  else if (csum (Q.map tf) 0).1 ≠ 0 then decide ((csum (Q.map tf) 0).1 < 0) else Q.any strB
theorem shows_ok {w : Nat} {X : D} {Q : List Tri} {st : S} (hX : Src st X (Q.map fcD)) (hQ : ∀ t ∈ Q, TOk w t) (hl : Q.length ≤ 12) (hw : w ≤ 100) (hm : ∀ t ∈ Q, mulB t.2.2 = true) :
    ∃ st', g_shows_empty [X, .int w, .tup (Q.map (·.2.2))] st = .ok (.bl (showsB w Q)) st' ∧ Gr st st' := by
  generalize hP : D.tup (Q.map (·.2.2)) = P
  obtain ⟨s1, e1, g1⟩ := check_ok (w := w) hX (fun d hd => by obtain ⟨t, ht, rfl⟩ := List.mem_map.mp hd; exact (fc_fact (hQ t ht) hw).1) (fbad_none fun d hd => by obtain ⟨t, ht, rfl⟩ := List.mem_map.mp hd; exact (fc_fact (hQ t ht) hw).2)
  have hX1 := hX.gr g1
  have hE : EPap s1 P := by
    rw [← hP]
    refine ⟨by rw [List.length_map]; omega, fun d hd => ?_, fun d hd _ => ?_⟩
    · obtain ⟨t, ht, rfl⟩ := List.mem_map.mp hd
      exact nb_ent (hQ t ht).m s1
    · obtain ⟨t, ht, rfl⟩ := List.mem_map.mp hd
      exact (hQ t ht).m
  obtain ⟨s2, e2, g2⟩ := are_mult_ok (n := Q.length) hE
  have hpb : papB Q.length P = true := by
    rw [← hP]
    have : (Q.map (·.2.2)).all mulB = true := List.all_eq_true.mpr fun d hd => by obtain ⟨t, ht, rfl⟩ := List.mem_map.mp hd; exact hm t ht
    simp only [papB, List.length_map, decide_true, Bool.true_and, this]
  rw [hpb] at e2
  have hX2 := hX1.gr g2
  have ln := hX1.len
  rw [List.length_map] at ln
  obtain ⟨s3, e3, g3, n3⟩ := weighted_ok (ρ := [some X, some (.int w), some P, none, none, none, none, none, none, none]) hX2 hQ hl hw rfl (by rw [hP]; rfl) rfl
  obtain ⟨s4, e4, g4⟩ := form_total_ok hw (lstAt_lst n3) hQ hl
  have hX4 := (hX2.gr g3).gr g4
  obtain ⟨s5, e5, g5⟩ := flat_ok (st := s4) (ρ := [some X, some (.int w), some P, some (.loc s2.length), some (.tup (colL (Q.map tf) w)), none, none, none, none, none]) hQ hw rfl rfl
  have hX5 := hX4.gr g5
  obtain ⟨s6, e6, g6⟩ := strict_ok (ρ := [some X, some (.int w), some P, some (.loc s2.length), some (.tup (colL (Q.map tf) w)), none, none, none, none, none]) hX5 hQ hl rfl (by rw [hP]; rfl) rfl
  obtain ⟨a, b, ea, es⟩ := low_sign (csum_bd' (i := 0) (by omega) hQ).pos
  have c1 := (((g1.trans g2).trans g3).trans g4).trans g5
  unfold showsB
  by_cases c : ((List.range w).any fun i => decide ((csum (Q.map tf) (i + 1)).1 ≠ 0)) = true
  · rw [if_pos c]
    rw [c] at e5
    refine ⟨s5, ?_, c1⟩
    refine den_end rfl ?_
    refine seq_nx (ρ1 := [some X, some (.int w), some P, none, none, none, none, none, none, none]) (st1 := s1) (by rw [sExpr_ap]; exact congrArg (fun o : Out D => o.so _ _) (call_ok (cons_ok rfl (cons_ok rfl nil_ok)) e1)) ?_
    refine seq_nx (ρ1 := [some X, some (.int w), some P, none, none, none, none, none, none, none]) (st1 := s2) (if_f (not_ok (tru_ok (call_ok (cons_ok rfl (cons_ok (args_ok (cons_ok rfl nil_ok) ln) nil_ok)) e2))) rfl) ?_
    refine seq_nx (set_ok e3) ?_
    refine seq_nx (set_ok (call_ok (cons_ok rfl (cons_ok rfl nil_ok)) e4)) ?_
    exact seq_rt (if_t (tru_ok e5) (ret_ok c_ok))
  · rw [if_neg c]
    have c' : ((List.range w).any fun i => decide ((csum (Q.map tf) (i + 1)).1 ≠ 0)) = false := by simpa using c
    rw [c'] at e5
    refine ⟨s6, ?_, c1.trans g6⟩
    refine den_end rfl ?_
    refine seq_nx (ρ1 := [some X, some (.int w), some P, none, none, none, none, none, none, none]) (st1 := s1) (by rw [sExpr_ap]; exact congrArg (fun o : Out D => o.so _ _) (call_ok (cons_ok rfl (cons_ok rfl nil_ok)) e1)) ?_
    refine seq_nx (ρ1 := [some X, some (.int w), some P, none, none, none, none, none, none, none]) (st1 := s2) (if_f (not_ok (tru_ok (call_ok (cons_ok rfl (cons_ok (args_ok (cons_ok rfl nil_ok) ln) nil_ok)) e2))) rfl) ?_
    refine seq_nx (set_ok e3) ?_
    refine seq_nx (set_ok (call_ok (cons_ok rfl (cons_ok rfl nil_ok)) e4)) ?_
    refine seq_nx (if_f (tru_ok e5) rfl) ?_
    refine seq_nx (set_ok e6) ?_
    refine seq_nx (set_ok (call_ok (cons_ok (bin_ok (v_ok rfl) c_ok (d := fr a b) (st3 := s6) (by rw [colL_cons, ea]; simp)) nil_ok) (sign_ok s6))) ?_
    have h1 := sg_lt a
    have h2 := sg_eq a
    have k1 := sg_lt (csum (Q.map tf) 0).1
    have k2 := sg_eq (csum (Q.map tf) 0).1
    rw [← es] at k1 k2
    generalize csum (Q.map tf) 0 = z at k1 k2 ⊢
    by_cases q1 : z.1 = 0
    · have q2 : sgI a = 0 := k2.mpr q1
      rw [if_neg (by omega)]
      simp [q2]
    · rw [if_pos q1]
      have q2 : ¬ sgI a = 0 := fun h => q1 (k2.mp h)
      by_cases q3 : z.1 < 0
      · have q4 : sgI a < 0 := k1.mpr q3
        simp [q4, q3]
      · have q4 : ¬ sgI a < 0 := fun h => q3 (k1.mp h)
        simp [q4, q3, q2]
end K04

set_option Elab.async false
set_option linter.all false
set_option maxRecDepth 100000
set_option maxHeartbeats 4000000
namespace K04
open PySem MP
def rngK : Nat → Nat → List D
  | _, 0 => []
  | j, m + 1 => .int (j : Int) :: rngK (j + 1) m
theorem rngK_eq : ∀ (m j : Nat), rngK j m = (List.range m).map fun i => D.int ((j + i : Nat) : Int)
  | 0, j => rfl
  | m + 1, j => by
    rw [List.range_succ_eq_map, List.map_cons, List.map_map]
    show D.int (j : Int) :: rngK (j + 1) m = _
    rw [rngK_eq m (j + 1)]
    congr 1
    refine List.map_congr_left fun i _ => ?_
    show D.int ((j + 1 + i : Nat) : Int) = D.int ((j + (i + 1) : Nat) : Int)
    rw [show j + 1 + i = j + (i + 1) by omega]
theorem rng_k (n : Nat) : rangeD 0 (n : Int) = rngK 0 n := by
  rw [rngK_eq]
  unfold rangeD
  rw [show ((n : Int) - 0).toNat = n by omega]
  refine List.map_congr_left fun i _ => ?_
  show D.int (0 + (i : Int)) = _
  rw [Int.zero_add, Nat.zero_add]
/-- the law's sums while fact t is being added, j of them done -/
def LS (w : Nat) (don : List Tri) (t : Tri) (j : Nat) : List D := (List.range (w + 1)).map fun i => frP (if i < j then csum ((don ++ [t]).map tf) i else csum (don.map tf) i)
def LZ (w : Nat) (don : List Tri) : List D := (List.range (w + 1)).map fun i => frP (csum (don.map tf) i)
theorem LS_0 (w : Nat) (don : List Tri) (t : Tri) : LS w don t 0 = LZ w don := by
  unfold LS LZ
  refine List.map_congr_left fun i _ => ?_
  rw [if_neg (by omega)]
theorem LS_all (w : Nat) (don : List Tri) (t : Tri) : LS w don t (w + 1) = LZ w (don ++ [t]) := by
  unfold LS LZ
  refine List.map_congr_left fun i hi => ?_
  rw [if_pos (by rw [List.mem_range] at hi; exact hi)]
theorem LS_len (w : Nat) (don : List Tri) (t : Tri) (j : Nat) : (LS w don t j).length = w + 1 := by simp [LS]
theorem LS_at {w : Nat} {don : List Tri} {t : Tri} {j : Nat} (h : j < w + 1) : (LS w don t j)[j]? = some (frP (csum (don.map tf) j)) := by
  unfold LS
  rw [List.getElem?_map, List.getElem?_range h]
  show some (frP (if j < j then _ else _)) = _
  rw [if_neg (by omega)]
theorem LS_set {w : Nat} {don : List Tri} {t : Tri} {j : Nat} (h : j < w + 1) : (LS w don t j).set j (frP (csum ((don ++ [t]).map tf) j)) = LS w don t (j + 1) := by
  refine List.ext_getElem (by simp [LS]) fun i h1 h2 => ?_
  rw [List.getElem_set]
  simp only [LS, List.getElem_map, List.getElem_range]
  by_cases c : j = i
  · subst c
    rw [if_pos rfl, if_pos (by omega)]
  · rw [if_neg c]
    by_cases c2 : i < j
    · rw [if_pos c2, if_pos (by omega)]
    · rw [if_neg c2, if_neg (by omega)]
noncomputable abbrev wiB : FS := sSeq (sSet 6 (fBin gIx (fBin gIx (fBin gIx (fVar 0) (fVar 4)) (fC (.int 0))) (fVar 5)))
  (sSeq (sSet 7 (fBin gMul (fBin gIx (fBin gIx (fVar 1) (fVar 4)) (fC (.int 1))) (fBin gIx (fVar 6) (fC (.int 1)))))
  (sStore (fVar 3) (fVar 5) (fTup (fCons (fBin gAdd (fBin gMul (fBin gIx (fBin gIx (fVar 3) (fVar 5)) (fC (.int 0))) (fVar 7)) (fBin gMul (fBin gMul (fBin gIx (fBin gIx (fVar 1) (fVar 4)) (fC (.int 0))) (fBin gIx (fVar 6) (fC (.int 0)))) (fBin gIx (fBin gIx (fVar 3) (fVar 5)) (fC (.int 1))))) (fCons (fBin gMul (fBin gIx (fBin gIx (fVar 3) (fVar 5)) (fC (.int 1))) (fVar 7)) (fNil))))))
theorem wi_turn {w nf n j : Nat} {don rest : List Tri} {t : Tri} {st0 s : S} {x5 x6 x7 : Option D} (hn : st0.length ≤ n) (hf : lstAt st0 nf = some ((don ++ t :: rest).map fcD)) (hQ : ∀ u ∈ don ++ t :: rest, TOk w u) (hl : (don ++ t :: rest).length ≤ 12)
    (hj : j < w + 1) (g : Gr st0 s) (hs : s[n]? = some (.lst (LS w don t j))) :
    ∃ y6 y7, wiB [some (.loc nf), some (.tup ((don ++ t :: rest).map (·.2.2))), some (.int w), some (.loc n), some (.int (don.length : Nat)), some (.int j), x6, x7] s = .nx [some (.loc nf), some (.tup ((don ++ t :: rest).map (·.2.2))), some (.int w), some (.loc n), some (.int (don.length : Nat)), some (.int j), y6, y7] (s.set n (.lst (LS w don t (j + 1)))) := by
  have ht := hQ t (by simp)
  have hd : ∀ u ∈ don, TOk w u := fun u h' => hQ u (List.mem_append_left _ h')
  obtain ⟨hj', e⟩ := tf_at ht hj
  rw [List.length_append, List.length_cons] at hl
  have b := csum_bd' hj hd
  have s1 := bd_sm1 b (by omega)
  have s2 := bd_sm2 b (by omega)
  have i1 : L2.atI ((don ++ t :: rest).map fcD) ((don.length : Nat) : Int) = some (fcD t) := atI_nat (by simp)
  have i2 : L2.atI ((don ++ t :: rest).map (·.2.2)) ((don.length : Nat) : Int) = some t.2.2 := atI_nat (by simp)
  have i3 : L2.atI t.1 ((j : Nat) : Int) = some t.1[j] := atI_nat (List.getElem?_eq_getElem hj')
  have i4 : L2.atI (LS w don t j) ((j : Nat) : Int) = some (frP (csum (don.map tf) j)) := atI_nat (LS_at hj)
  have l1 := g.lst hf
  have l2 := lstAt_lst hs
  have v : csum ((don ++ [t]).map tf) j = fs (csum (don.map tf) j) (prU t.2.2 t.1[j]) := by
    rw [List.map_append, List.map_singleton, csum_app, e]
  have st : ∀ d, gStore (.loc n) (.int (j : Nat)) d s = some (s.set n (.lst ((LS w don t j).set j d))) := fun d => gStore_loc hs (by
    unfold L2.ixN
    rw [LS_len, if_pos (by omega), if_pos (by omega)]
    simp)
  obtain ⟨o0, o1, eo, N⟩ := ht.nb t.1[j] (List.getElem_mem _)
  obtain ⟨p0, p1, em, M⟩ := ht.m
  rw [← LS_set hj, v]
  rw [eo] at i3
  rw [em] at i2
  have q1 : Sm (p1 * o1) := sm_mul M.bot N.bot
  have q2 : Sm (p0 * o0) := sm_mul M.top N.top
  have m1 := mm (nq_sm M).2 (nq_sm N).2
  have m2 := mm s1 q1
  have m3 := mm (nq_sm M).1 (nq_sm N).1
  have m4 := mm q2 s2
  have m5 := mm s2 q1
  refine ⟨some (fr o0 o1), some (.int (p1 * o1)), ?_⟩
  rw [eo, em]
  generalize (don ++ t :: rest).map (·.2.2) = P at i2
  generalize csum (don.map tf) j = x at i4 m2 m4 m5
  show _ = SO.nx _ (s.set n (.lst ((LS w don t j).set j (fr (x.1 * (p1 * o1) + p0 * o0 * x.2) (x.2 * (p1 * o1))))))
  refine seq_nx (set_ok (bin_ok (bin_ok (bin_ok rfl rfl (d := fcD t) (st3 := s) (by rw [gIx_loc _ _ l1, i1]; rfl)) c_ok (d := .tup t.1) (st3 := s) (by simp [fcD])) rfl (d := fr o0 o1) (st3 := s) (by simp [i3]))) ?_
  refine seq_nx (set_ok (bin_ok (bin_ok (bin_ok rfl rfl (d := fr p0 p1) (st3 := s) (by simp [i2])) c_ok (d := .int p1) (st3 := s) (by simp)) (bin_ok rfl c_ok (d := .int o1) (st3 := s) (by simp)) (d := .int (p1 * o1)) (st3 := s) (by simp [m1]))) ?_
  have a1 : (fBin gIx (fVar 3) (fVar 5)) [some (.loc nf), some (.tup P), some (.int w), some (.loc n), some (.int (don.length : Nat)), some (.int j), some (fr o0 o1), some (.int (p1 * o1))] s = .ok (fr x.1 x.2) s := bin_ok rfl rfl (by rw [gIx_loc _ _ l2, i4]; rfl)
  show (sStore (fVar 3) (fVar 5) _) [some (.loc nf), some (.tup P), some (.int w), some (.loc n), some (.int (don.length : Nat)), some (.int j), some (fr o0 o1), some (.int (p1 * o1))] s = _
  have a2 : (fBin gIx (fBin gIx (fVar 1) (fVar 4)) (fC (.int 0))) [some (.loc nf), some (.tup P), some (.int w), some (.loc n), some (.int (don.length : Nat)), some (.int j), some (fr o0 o1), some (.int (p1 * o1))] s = .ok (.int p0) s := bin_ok (bin_ok rfl rfl (d := fr p0 p1) (st3 := s) (by simp [i2])) c_ok (d := .int p0) (st3 := s) (by simp)
  have a3 : (fBin gIx (fVar 6) (fC (.int 0))) [some (.loc nf), some (.tup P), some (.int w), some (.loc n), some (.int (don.length : Nat)), some (.int j), some (fr o0 o1), some (.int (p1 * o1))] s = .ok (.int o0) s := bin_ok rfl c_ok (by simp)
  have a4 : (fTup (fCons (fBin gAdd (fBin gMul (fBin gIx (fBin gIx (fVar 3) (fVar 5)) (fC (.int 0))) (fVar 7)) (fBin gMul (fBin gMul (fBin gIx (fBin gIx (fVar 1) (fVar 4)) (fC (.int 0))) (fBin gIx (fVar 6) (fC (.int 0)))) (fBin gIx (fBin gIx (fVar 3) (fVar 5)) (fC (.int 1))))) (fCons (fBin gMul (fBin gIx (fBin gIx (fVar 3) (fVar 5)) (fC (.int 1))) (fVar 7)) (fNil)))) [some (.loc nf), some (.tup P), some (.int w), some (.loc n), some (.int (don.length : Nat)), some (.int j), some (fr o0 o1), some (.int (p1 * o1))] s = .ok (fr (x.1 * (p1 * o1) + p0 * o0 * x.2) (x.2 * (p1 * o1))) s :=
    tup_ok (cons_ok (bin_ok (bin_ok (bin_ok a1 c_ok (d := .int x.1) (st3 := s) (by simp)) rfl (d := .int (x.1 * (p1 * o1))) (st3 := s) (by simp [m2])) (bin_ok (bin_ok a2 a3 (d := .int (p0 * o0)) (st3 := s) (by simp [m3])) (bin_ok a1 c_ok (d := .int x.2) (st3 := s) (by simp)) (d := .int (p0 * o0 * x.2)) (st3 := s) (by simp [m4])) (by simp)) (cons_ok (bin_ok (bin_ok a1 c_ok (d := .int x.2) (st3 := s) (by simp)) rfl (d := .int (x.2 * (p1 * o1))) (st3 := s) (by simp [m5])) nil_ok))
  rw [sStore_ap, a4]
  simp only [Out.so_ok, fVar_ap, List.getElem?_cons_succ, List.getElem?_cons_zero, st]
theorem wi_loop {w nf n : Nat} {don rest : List Tri} {t : Tri} {st0 : S} (hn : st0.length ≤ n) (hf : lstAt st0 nf = some ((don ++ t :: rest).map fcD)) (hQ : ∀ u ∈ don ++ t :: rest, TOk w u) (hl : (don ++ t :: rest).length ≤ 12) :
    ∀ (m j : Nat) (s : S) (x5 x6 x7 : Option D), j + m = w + 1 → Gr st0 s → s[n]? = some (.lst (LS w don t j)) →
    ∃ y5 y6 y7 s', sLoop (fun _ => true) (tgN 5) wiB (rngK j m) [some (.loc nf), some (.tup ((don ++ t :: rest).map (·.2.2))), some (.int w), some (.loc n), some (.int (don.length : Nat)), x5, x6, x7] s = .nx [some (.loc nf), some (.tup ((don ++ t :: rest).map (·.2.2))), some (.int w), some (.loc n), some (.int (don.length : Nat)), y5, y6, y7] s' ∧ Gr st0 s' ∧ s'[n]? = some (.lst (LS w don t (w + 1)))
  | 0, j, s, x5, x6, x7, h, g, hs => ⟨x5, x6, x7, s, rfl, g, by rw [← h]; exact hs⟩
  | m + 1, j, s, x5, x6, x7, h, g, hs => by
    obtain ⟨y6, y7, e⟩ := wi_turn (j := j) (s := s) (x5 := x5) (x6 := x6) (x7 := x7) hn hf hQ hl (by omega) g hs
    obtain ⟨z5, z6, z7, s', e2, g2, n2⟩ := wi_loop hn hf hQ hl m (j + 1) (s.set n (.lst (LS w don t (j + 1)))) (some (.int j)) y6 y7 (by omega) (g.wr hn) (set_at (lt_of_at hs))
    refine ⟨z5, z6, z7, s', ?_, g2, n2⟩
    exact (sLoop_nx rfl rfl e).trans e2
noncomputable def woB : FS := sForR1 (fCons (fBin gAdd (fVar 2) (fC (.int 1))) (fNil)) (tgN 5) wiB
theorem wo_loop {w nf n : Nat} {st0 : S} (hw : w ≤ 100) (hn : st0.length ≤ n) : ∀ (Q don : List Tri) (s : S) (x4 x5 x6 x7 : Option D), lstAt st0 nf = some ((don ++ Q).map fcD) → (∀ u ∈ don ++ Q, TOk w u) → (don ++ Q).length ≤ 12 → Gr st0 s → s[n]? = some (.lst (LZ w don)) →
    ∃ y4 y5 y6 y7 s', sLoop (fun _ => true) (tgN 4) woB (rngK don.length Q.length) [some (.loc nf), some (.tup ((don ++ Q).map (·.2.2))), some (.int w), some (.loc n), x4, x5, x6, x7] s = .nx [some (.loc nf), some (.tup ((don ++ Q).map (·.2.2))), some (.int w), some (.loc n), y4, y5, y6, y7] s' ∧ Gr st0 s' ∧ s'[n]? = some (.lst (LZ w (don ++ Q)))
  | [], don, s, x4, x5, x6, x7, hf, hQ, hl, g, hs => ⟨x4, x5, x6, x7, s, rfl, g, by rw [List.append_nil]; exact hs⟩
  | t :: Q, don, s, x4, x5, x6, x7, hf, hQ, hl, g, hs => by
    rw [← LS_0 w don t] at hs
    obtain ⟨y5, y6, y7, s1, e1, g1, n1⟩ := wi_loop hn hf hQ hl (w + 1) 0 s x5 x6 x7 (by omega) g hs
    rw [LS_all] at n1
    have as : don ++ t :: Q = don ++ [t] ++ Q := by rw [List.append_assoc]; rfl
    have e0 : woB [some (.loc nf), some (.tup ((don ++ t :: Q).map (·.2.2))), some (.int w), some (.loc n), some (.int (don.length : Nat)), x5, x6, x7] s = .nx [some (.loc nf), some (.tup ((don ++ t :: Q).map (·.2.2))), some (.int w), some (.loc n), some (.int (don.length : Nat)), y5, y6, y7] s1 := by
      unfold woB
      rw [sForR1_ok (j := ((w + 1 : Nat) : Int)) (st1 := s) (by simp) (small_nat (by omega)), rng_k]
      exact e1
    rw [as] at e0 hf hQ hl ⊢
    obtain ⟨z4, z5, z6, z7, s', e2, g2, n2⟩ := wo_loop hw hn Q (don ++ [t]) s1 (some (.int (don.length : Nat))) y5 y6 y7 hf hQ hl g1 n1
    refine ⟨z4, z5, z6, z7, s', ?_, g2, n2⟩
    rw [List.length_cons, show rngK don.length (Q.length + 1) = .int (don.length : Nat) :: rngK (don.length + 1) Q.length from rfl]
    rw [show (don ++ [t]).length = don.length + 1 by simp] at e2
    exact (sLoop_nx rfl rfl e0).trans e2
theorem LZ_0 (w : Nat) : LZ w [] = List.replicate (w + 1) (fr 0 1) := by
  refine List.ext_getElem (by simp [LZ]) fun i h1 h2 => ?_
  simp only [LZ, List.getElem_map, List.getElem_range, List.getElem_replicate]
  rfl
theorem rng_const (w : Nat) : (rangeD 0 ((w + 1 : Nat) : Int)).map (fun _ => fr 0 1) = LZ w [] := by
  rw [LZ_0]
  refine List.ext_getElem (by rw [List.length_map, rangeD_len, List.length_replicate]) fun i h1 h2 => ?_
  rw [List.getElem_map, List.getElem_replicate]
theorem rng1_ok {w i : Nat} {ρ : En} {st : S} (hw : w ≤ 100) (h : ρ[i]? = some (some (.int (w : Int)))) : fRng1 (fCons (fBin gAdd (fVar i) (fC (.int 1))) (fNil)) ρ st = .ok (rangeD 0 ((w + 1 : Nat) : Int), fun _ => true) st := by
  have hs : Small62 ((w + 1 : Nat) : Int) := small_nat (by omega)
  rw [Int.natCast_add, show ((1 : Nat) : Int) = 1 from rfl] at hs ⊢
  have e : (fCons (fBin gAdd (fVar i) (fC (.int 1))) (fNil)) ρ st = .ok [.int ((w : Int) + 1)] st := cons_ok (bin_ok (v_ok h) c_ok rfl) nil_ok
  unfold fRng1
  rw [e, Out.bind_ok]
  simp only
  rw [if_pos hs]
theorem zeros_ok {w : Nat} {ρ : En} {st : S} (hw : w ≤ 100) (h : ρ[2]? = some (some (.int (w : Int)))) : fLc [4] (fRng1 (fCons (fBin gAdd (fVar 2) (fC (.int 1))) (fNil))) (tgN 4) (fYes) (fTup (fCons (fC (.int 0)) (fCons (fC (.int 1)) (fNil)))) ρ st = .ok (.loc st.length) (st ++ [.lst (LZ w [])]) := by
  have e1 := fLc_map (own := [4]) (g := tgN 4) (fe := fTup (fCons (fC (.int 0)) (fCons (fC (.int 1)) (fNil)))) (chk := fun _ => true) (F := fun _ => fr 0 1) (rng1_ok (i := 2) (st := st) hw h)
    (by rw [rangeD_len]; exact short (by omega)) (fun _ => rfl) (fun d hd xs => ⟨(wipeE ρ [4]).set 4 (some d), rfl, tup_ok (cons_ok c_ok (cons_ok c_ok nil_ok))⟩)
  rw [rng_const] at e1
  exact e1
theorem law_weighted_ok {w nf : Nat} {Q : List Tri} {st : S} (hw : w ≤ 100) (hf : lstAt st nf = some (Q.map fcD)) (hQ : ∀ u ∈ Q, TOk w u) (hl : Q.length ≤ 12) :
    ∃ s', g__law_weighted [.loc nf, .tup (Q.map (·.2.2)), .int w] st = .ok (.loc st.length) s' ∧ Gr st s' ∧ s'[st.length]? = some (.lst (LZ w Q)) := by
  have e1 := zeros_ok (w := w) (ρ := [some (.loc nf), some (.tup (Q.map (·.2.2))), some (.int w), none, none, none, none, none]) (st := st) hw rfl
  obtain ⟨y4, y5, y6, y7, s', e2, g2, n2⟩ := wo_loop (nf := nf) (n := st.length) hw (Nat.le_refl st.length) Q [] (st ++ [.lst (LZ w [])]) none none none none hf hQ hl (Gr.app _) app_new
  rw [List.nil_append] at e2 n2
  refine ⟨s', ?_, g2, n2⟩
  have ln := gLen_loc (st ++ [.lst (LZ w [])]) (Gr.lst (Gr.app [.lst (LZ w [])]) hf)
  rw [List.length_map] at ln
  have e3 : (sForR1 (fCons (fArgs gLen (fCons (fVar 0) (fNil))) (fNil)) (tgN 4) woB) [some (.loc nf), some (.tup (Q.map (·.2.2))), some (.int w), some (.loc st.length), none, none, none, none] (st ++ [.lst (LZ w [])]) = .nx [some (.loc nf), some (.tup (Q.map (·.2.2))), some (.int w), some (.loc st.length), y4, y5, y6, y7] s' := by
    rw [sForR1_ok (j := ((Q.length : Nat) : Int)) (st1 := st ++ [.lst (LZ w [])]) (cons_ok (args_ok (cons_ok rfl nil_ok) ln) nil_ok) (small_nat (by omega)), rng_k]
    exact e2
  have e4 : m__law_weighted [some (.loc nf), some (.tup (Q.map (·.2.2))), some (.int w), none, none, none, none, none] st = .rt (.loc st.length) s' := by
    unfold m__law_weighted
    refine seq_nx (set_ok e1) ?_
    rw [show (sForR1 (fCons (fBin gAdd (fVar 2) (fC (.int 1))) (fNil)) (tgN 5) wiB) = woB from rfl]
    refine seq_nx e3 ?_
    exact ret_ok (v_ok rfl)
  exact den_end rfl e4
end K04

set_option Elab.async false
set_option linter.all false
set_option maxRecDepth 100000
set_option maxHeartbeats 4000000
namespace K04
open PySem MP
abbrev Fac := List D × Bool
def fD (f : Fac) : D := .tup [.tup f.1, .bl f.2]
structure FOk (w : Nat) (f : Fac) : Prop where
  len : f.1.length = w + 1
  nb : ∀ d ∈ f.1, Nb B80 d
def mk (F : List Fac) (ds : List D) : List Tri := List.zipWith (fun f d => (f.1, f.2, d)) F ds
theorem mk_fc : ∀ {F : List Fac} {ds : List D}, ds.length = F.length → (mk F ds).map fcD = F.map fD
  | [], ds, h => by cases ds <;> rfl
  | f :: F, [], h => by simp at h
  | f :: F, d :: ds, h => by
    have z := mk_fc (F := F) (ds := ds) (by simpa using h)
    unfold mk at z ⊢
    rw [List.zipWith_cons_cons, List.map_cons, List.map_cons, z]
    rfl
theorem mk_ms : ∀ {F : List Fac} {ds : List D}, ds.length = F.length → (mk F ds).map (·.2.2) = ds
  | [], ds, h => by cases ds with
    | nil => rfl
    | cons d ds => simp at h
  | f :: F, [], h => by simp at h
  | f :: F, d :: ds, h => by
    have z := mk_ms (F := F) (ds := ds) (by simpa using h)
    unfold mk at z ⊢
    rw [List.zipWith_cons_cons, List.map_cons, z]
theorem mk_ok {w : Nat} : ∀ {F : List Fac} {ds : List D}, (∀ f ∈ F, FOk w f) → (∀ d ∈ ds, Nb B80 d) → ∀ t ∈ mk F ds, TOk w t
  | [], ds, hF, hd, t, ht => by unfold mk at ht; simp at ht
  | f :: F, [], hF, hd, t, ht => by unfold mk at ht; simp at ht
  | f :: F, d :: ds, hF, hd, t, ht => by
    unfold mk at ht
    rw [List.zipWith_cons_cons] at ht
    rcases List.mem_cons.mp ht with e | e
    · rw [e]
      have h := hF f List.mem_cons_self
      exact ⟨h.len, h.nb, hd d List.mem_cons_self⟩
    · exact mk_ok (F := F) (ds := ds) (fun f h => hF f (List.mem_cons_of_mem _ h)) (fun d h => hd d (List.mem_cons_of_mem _ h)) t e
theorem mk_len {F : List Fac} {ds : List D} (h : ds.length = F.length) : (mk F ds).length = F.length := by
  unfold mk
  rw [List.length_zipWith, h, Nat.min_self]
def resB (w : Nat) (F : List Fac) (p : D) : Bool := papB F.length p && match p with
  | .tup ds => showsB w (mk F ds)
  | _ => false
theorem f_fact {w : Nat} {f : Fac} (h : FOk w f) (hw : w ≤ 100) : EFact (fD f) ∧ factB w (fD f) = true := by
  refine ⟨⟨⟨by have := h.len; omega, fun d hd s => nb_ent (h.nb d hd) s⟩, trivial⟩, ?_⟩
  have a : f.1.all numB = true := List.all_eq_true.mpr fun d hd => numB_nb (h.nb d hd)
  simp [fD, factB, formB, isBl, h.len, a]
theorem pap_true {n : Nat} {p : D} (h : papB n p = true) : ∃ ds, p = .tup ds ∧ ds.length = n ∧ ∀ d ∈ ds, mulB d = true := by
  unfold papB at h
  split at h
  · rw [Bool.and_eq_true] at h
    exact ⟨_, rfl, of_decide_eq_true h.1, List.all_eq_true.mp h.2⟩
  · cases h
theorem mul_num {d : D} (h : mulB d = true) : numB d = true := by
  unfold mulB at h
  rw [Bool.and_eq_true] at h
  exact h.1
theorem prog_ok {w : Nat} {X p : D} {F : List Fac} {st : S} (hX : Src st X (F.map fD)) (hF : ∀ f ∈ F, FOk w f) (hl : F.length ≤ 12) (hw : w ≤ 100) (hp : EPap st p) :
    ∃ st', g_shows_empty [X, .int w, p] st = .ok (.bl (resB w F p)) st' ∧ Gr st st' := by
  cases c : papB F.length p with
  | true =>
    obtain ⟨ds, rfl, hd, hm⟩ := pap_true c
    have hX' := hX
    rw [← mk_fc hd] at hX'
    have z := shows_ok (w := w) hX' (mk_ok hF fun d h => hp.2.2 d h (mul_num (hm d h))) (by rw [mk_len hd]; exact hl) hw (fun t ht => hm _ (by rw [← mk_ms hd]; exact List.mem_map_of_mem ht))
    rw [mk_ms hd] at z
    unfold resB
    rw [c]
    exact z
  | false =>
    obtain ⟨s1, e1, g1⟩ := check_ok (w := w) hX (fun d hd => by obtain ⟨t, ht, rfl⟩ := List.mem_map.mp hd; exact (f_fact (hF t ht) hw).1) (fbad_none fun d hd => by obtain ⟨t, ht, rfl⟩ := List.mem_map.mp hd; exact (f_fact (hF t ht) hw).2)
    obtain ⟨s2, e2, g2⟩ := are_mult_ok (n := F.length) (hp.gr g1)
    rw [c] at e2
    have ln := (hX.gr g1).len
    rw [List.length_map] at ln
    refine ⟨s2, ?_, g1.trans g2⟩
    unfold resB
    rw [c]
    have e4 : m_shows_empty [some X, some (.int w), some p, none, none, none, none, none, none, none] st = .rt (.bl false) s2 := by
      unfold m_shows_empty
      refine seq_nx (ρ1 := [some X, some (.int w), some p, none, none, none, none, none, none, none]) (st1 := s1) (by rw [sExpr_ap]; exact congrArg (fun o : Out D => o.so _ _) (call_ok (cons_ok rfl (cons_ok rfl nil_ok)) e1)) ?_
      exact seq_rt (if_t (not_ok (tru_ok (call_ok (cons_ok rfl (cons_ok (args_ok (cons_ok rfl nil_ok) ln) nil_ok)) e2))) (ret_ok c_ok))
    exact den_end rfl e4
/-! ### the law's own test -/
noncomputable abbrev l1B : FS := sIf (fOr (fNot (fTru (fCall g__law_is_number (fCons (fVar 3) (fNil))))) (fIsB (fBin gLt (fBin gIx (fVar 3) (fC (.int 0))) (fC (.int 0))))) (sRet (fC (.bl false))) (sSkip)
theorem l1_turn {X W P d : D} {x4 x5 : Option D} {s : S} (h : Ent s d) : (mulB d = true ∧ l1B [X, W, P, some d, x4, x5] s = .nx [X, W, P, some d, x4, x5] s) ∨ (mulB d = false ∧ l1B [X, W, P, some d, x4, x5] s = .rt (.bl false) s) := by
  have e := lis_number_ok h
  cases c : numB d with
  | false =>
    rw [c] at e
    exact .inr ⟨by simp [mulB, c], if_t (or_t (not_ok (tru_ok (call_ok (cons_ok rfl nil_ok) e)))) rfl⟩
  | true =>
    rw [c] at e
    obtain ⟨p, q, rfl, h1, h2⟩ := num_fr c
    by_cases hp : p < 0
    · refine .inr ⟨by simp [mulB, nneg, hp], if_t (or_f (not_ok (tru_ok (call_ok (cons_ok rfl nil_ok) e))) (isb_ok (bin_ok (bin_ok rfl c_ok (d := .int p) (st3 := s) (by simp)) c_ok (by simp [hp])))) rfl⟩
    · refine .inl ⟨by simp [mulB, c, nneg]; omega, if_f (or_f (not_ok (tru_ok (call_ok (cons_ok rfl nil_ok) e))) (isb_ok (v := false) (bin_ok (bin_ok rfl c_ok (d := .int p) (st3 := s) (by simp)) c_ok (by simp [hp])))) rfl⟩
noncomputable abbrev l2B : FS := sIf (fIsB (fBin gNe (fBin gIx (fVar 3) (fC (.int 0))) (fC (.int 0)))) (sRet (fC (.bl false))) (sSkip)
noncomputable abbrev l3B : FS := sIf (fAnd (fTru (fBin gIx (fBin gIx (fVar 0) (fVar 5)) (fC (.int 1)))) (fIsB (fBin gGt (fBin gIx (fBin gIx (fVar 2) (fVar 5)) (fC (.int 0))) (fC (.int 0))))) (sRet (fC (.bl true))) (sSkip)
theorem LZ_cons (w : Nat) (Q : List Tri) : LZ w Q = frP (csum (Q.map tf) 0) :: (List.range w).map fun i => frP (csum (Q.map tf) (i + 1)) := by
  unfold LZ
  rw [List.range_succ_eq_map, List.map_cons, List.map_map]
  rfl
theorem l2_loop {w : Nat} {Q : List Tri} {X W P M x5 x3 : Option D} {chk : S → Bool} {s : S} (hc : chk s = true) :
    (((List.range w).any fun i => decide ((csum (Q.map tf) (i + 1)).1 ≠ 0)) = false ∧ ∃ y, sLoop chk (tgN 3) l2B ((List.range w).map fun i => frP (csum (Q.map tf) (i + 1))) [X, W, P, x3, M, x5] s = .nx [X, W, P, y, M, x5] s) ∨
    (((List.range w).any fun i => decide ((csum (Q.map tf) (i + 1)).1 ≠ 0)) = true ∧ sLoop chk (tgN 3) l2B ((List.range w).map fun i => frP (csum (Q.map tf) (i + 1))) [X, W, P, x3, M, x5] s = .rt (.bl false) s) := by
  have z := loop_sel (i := 3) (body := l2B) (ρ0 := [X, W, P, none, M, x5]) (chk := chk) (s0 := s) (r := .bl false) (fun d => decide (topD d = 0)) hc ((List.range w).map fun i => frP (csum (Q.map tf) (i + 1))) x3 (fun d hd => by
    obtain ⟨i, hi, rfl⟩ := List.mem_map.mp hd
    generalize csum (Q.map tf) (i + 1) = x
    by_cases c : x.1 = 0
    · exact .inl ⟨by simp [frP, topD, c], if_f (isb_ok (v := false) (bin_ok (bin_ok rfl c_ok (d := .int x.1) (st3 := s) (by simp [frP])) c_ok (by simp [c]))) rfl⟩
    · exact .inr ⟨by simp [frP, topD, c], if_t (isb_ok (bin_ok (bin_ok rfl c_ok (d := .int x.1) (st3 := s) (by simp [frP])) c_ok (by simp [c]))) rfl⟩)
  have q : ((List.range w).map fun i => frP (csum (Q.map tf) (i + 1))).all (fun d => decide (topD d = 0)) = !((List.range w).any fun i => decide ((csum (Q.map tf) (i + 1)).1 ≠ 0)) := by
    rw [List.all_map, List.all_eq_not_any_not]
    congr 1
    refine congrArg (fun f => (List.range w).any f) ?_
    funext i
    show (!decide ((csum (Q.map tf) (i + 1)).1 = 0)) = _
    by_cases c : (csum (Q.map tf) (i + 1)).1 = 0 <;> simp [c]
  rw [q] at z
  rcases z with ⟨h, y, e⟩ | ⟨h, e⟩
  · exact .inl ⟨by simpa using h, y, e⟩
  · exact .inr ⟨by simpa using h, e⟩
theorem l3_loop {w nf : Nat} {Q : List Tri} {W M x5 x3 : Option D} {s : S} (hf : lstAt s nf = some (Q.map fcD)) (hQ : ∀ t ∈ Q, TOk w t) :
    (Q.any strB = false ∧ ∃ y, sLoop (fun _ => true) (tgN 5) l3B (rngK 0 Q.length) [some (.loc nf), W, some (.tup (Q.map (·.2.2))), x3, M, x5] s = .nx [some (.loc nf), W, some (.tup (Q.map (·.2.2))), x3, M, y] s) ∨
    (Q.any strB = true ∧ sLoop (fun _ => true) (tgN 5) l3B (rngK 0 Q.length) [some (.loc nf), W, some (.tup (Q.map (·.2.2))), x3, M, x5] s = .rt (.bl true) s) := by
  have z := loop_sel (i := 5) (body := l3B) (ρ0 := [some (.loc nf), W, some (.tup (Q.map (·.2.2))), x3, M, none]) (chk := fun _ => true) (s0 := s) (r := .bl true) (fun d => match d with
    | .int k => !((Q.map strB).getD k.toNat false)
    | _ => true) rfl (rngK 0 Q.length) x5 (fun d hd => by
    rw [rngK_eq] at hd
    obtain ⟨k, hk, rfl⟩ := List.mem_map.mp hd
    rw [List.mem_range] at hk
    rw [Nat.zero_add]
    have i1 : L2.atI (Q.map fcD) ((k : Nat) : Int) = some (fcD Q[k]) := atI_nat (by simp [hk])
    have i2 : L2.atI (Q.map (·.2.2)) ((k : Nat) : Int) = some (Q[k]).2.2 := atI_nat (by simp [hk])
    obtain ⟨p, q, em, M'⟩ := (hQ Q[k] (List.getElem_mem _)).m
    have sb : (Q.map strB).getD ((k : Nat) : Int).toNat false = strB Q[k] := by simp [hk]
    have st : strB Q[k] = ((Q[k]).2.1 && decide (0 < p)) := by
      unfold strB
      rw [em]
      rfl
    generalize hP : Q.map (·.2.2) = P at i2
    have a1 : (fBin gIx (fBin gIx (fVar 0) (fVar 5)) (fC (.int 1))) [some (.loc nf), W, some (.tup P), x3, M, some (.int (k : Int))] s = .ok (.bl (Q[k]).2.1) s := bin_ok (bin_ok rfl rfl (d := fcD Q[k]) (st3 := s) (by rw [gIx_loc _ _ hf, i1]; rfl)) c_ok (by simp [fcD])
    have a2 : (fBin gIx (fBin gIx (fVar 2) (fVar 5)) (fC (.int 0))) [some (.loc nf), W, some (.tup P), x3, M, some (.int (k : Int))] s = .ok (.int p) s := bin_ok (bin_ok rfl rfl (d := fr p q) (st3 := s) (by simp [i2, em])) c_ok (by simp)
    show ((!((Q.map strB).getD ((k : Nat) : Int).toNat false)) = true ∧ l3B [some (.loc nf), W, some (.tup P), x3, M, some (.int (k : Int))] s = .nx [some (.loc nf), W, some (.tup P), x3, M, some (.int (k : Int))] s) ∨ ((!((Q.map strB).getD ((k : Nat) : Int).toNat false)) = false ∧ l3B [some (.loc nf), W, some (.tup P), x3, M, some (.int (k : Int))] s = .rt (.bl true) s)
    rw [sb, st]
    cases c : (Q[k]).2.1 with
    | false =>
      rw [c] at a1
      exact .inl ⟨rfl, if_f (and_f (tru_ok a1)) rfl⟩
    | true =>
      rw [c] at a1
      by_cases hp : 0 < p
      · exact .inr ⟨by simp [hp], if_t (and_t (tru_ok a1) (isb_ok (bin_ok a2 c_ok (by simp [hp])))) rfl⟩
      · exact .inl ⟨by simp [hp], if_f (and_t (tru_ok a1) (isb_ok (v := false) (bin_ok a2 c_ok (by simp [hp])))) rfl⟩)
  have q : (rngK 0 Q.length).all (fun d => match d with
    | .int k => !((Q.map strB).getD k.toNat false)
    | _ => true) = !(Q.any strB) := by
    rw [rngK_eq, List.all_map, List.all_eq_not_any_not]
    congr 1
    rw [Bool.eq_iff_iff, List.any_eq_true, List.any_eq_true]
    constructor
    · rintro ⟨k, hk, h⟩
      rw [List.mem_range] at hk
      refine ⟨Q[k], List.getElem_mem _, ?_⟩
      have h : (!(!((Q.map strB).getD (((0 + k : Nat)) : Int).toNat false))) = true := h
      rw [Nat.zero_add, Bool.not_not] at h
      simpa [hk] using h
    · rintro ⟨t, ht, h⟩
      obtain ⟨k, hk, rfl⟩ := List.mem_iff_getElem.mp ht
      refine ⟨k, List.mem_range.mpr hk, ?_⟩
      show (!(!((Q.map strB).getD (((0 + k : Nat)) : Int).toNat false))) = true
      rw [Nat.zero_add, Bool.not_not]
      simpa [hk] using h
  rw [q] at z
  rcases z with ⟨h, y, e⟩ | ⟨h, e⟩
  · exact .inl ⟨by simpa using h, y, e⟩
  · exact .inr ⟨by simpa using h, e⟩
end K04

set_option Elab.async false
set_option linter.all false
set_option maxRecDepth 100000
set_option maxHeartbeats 4000000
namespace K04
open PySem MP
theorem law_shows_q {w nf : Nat} {Q : List Tri} {st : S} (hf : lstAt st nf = some (Q.map fcD)) (hQ : ∀ t ∈ Q, TOk w t) (hl : Q.length ≤ 12) (hw : w ≤ 100) (hm : ∀ t ∈ Q, mulB t.2.2 = true) :
    ∃ st', g__law_shows [.loc nf, .int w, .tup (Q.map (·.2.2))] st = .ok (.bl (showsB w Q)) st' ∧ Gr st st' := by
  obtain ⟨s1, e1, g1, n1⟩ := law_weighted_ok hw hf hQ hl
  have lZ := lstAt_lst n1
  have ln := gLen_loc st hf
  rw [List.length_map] at ln
  have ge : ∀ d ∈ Q.map (·.2.2), Ent st d := fun d hd => by obtain ⟨t, ht, rfl⟩ := List.mem_map.mp hd; exact nb_ent (hQ t ht).m st
  have am : (Q.map (·.2.2)).all mulB = true := List.all_eq_true.mpr fun d hd => by obtain ⟨t, ht, rfl⟩ := List.mem_map.mp hd; exact hm t ht
  have ll : (Q.map (fun t => t.2.2)).length = Q.length := List.length_map ..
  generalize hms : Q.map (fun t => t.2.2) = ms at e1 ge am ll
  have h1 : (sIf (fOr (fNot (fTru (fUn (gIsi "tuple") (fVar 2)))) (fIsB (fBin gNe (fArgs gLen (fCons (fVar 2) (fNil))) (fArgs gLen (fCons (fVar 0) (fNil)))))) (sRet (fC (.bl false))) (sSkip)) [some (.loc nf), some (.int w), some (.tup ms), none, none, none] st = .nx [some (.loc nf), some (.int w), some (.tup ms), none, none, none] st :=
    if_f (or_f (not_ok (tru_ok (v := true) (un_ok rfl (by simp)))) (isb_ok (v := false) (bin_ok (args_ok (cons_ok rfl nil_ok) (gLen_tup ..)) (args_ok (cons_ok rfl nil_ok) ln) (by simp [ll])))) rfl
  obtain ⟨y3, h2⟩ : ∃ y, sLoop (fun _ => true) (tgN 3) l1B ms [some (.loc nf), some (.int w), some (.tup ms), none, none, none] st = .nx [some (.loc nf), some (.int w), some (.tup ms), y, none, none] st := by
    have z := loop_sel (i := 3) (body := l1B) (ρ0 := [some (.loc nf), some (.int w), some (.tup ms), none, none, none]) (chk := fun _ => true) (s0 := st) (r := .bl false) mulB rfl ms none (fun d hd => l1_turn (ge d hd))
    rw [am] at z
    rcases z with ⟨_, y, e⟩ | ⟨h, _⟩
    · exact ⟨y, e⟩
    · cases h
  have h2' : (sFor (fVar 2) (tgN 3) l1B) [some (.loc nf), some (.int w), some (.tup ms), none, none, none] st = .nx [some (.loc nf), some (.int w), some (.tup ms), y3, none, none] st := by
    rw [sFor_tup (ds := ms) (st1 := st) rfl]
    exact h2
  have h3 : (sSet 4 (fCall g__law_weighted (fCons (fVar 0) (fCons (fVar 2) (fCons (fVar 1) (fNil)))))) [some (.loc nf), some (.int w), some (.tup ms), y3, none, none] st = .nx [some (.loc nf), some (.int w), some (.tup ms), y3, some (.loc st.length), none] s1 := set_ok (call_ok (cons_ok rfl (cons_ok rfl (cons_ok rfl nil_ok))) e1)
  have ct : cutD (LZ w Q) (some 1) none = (List.range w).map fun i => frP (csum (Q.map tf) (i + 1)) := by rw [LZ_cons, cut_tl]
  have h4e : (fSl gSl (fVar 4) (fPart (fC (.int 1))) (fNo)) [some (.loc nf), some (.int w), some (.tup ms), y3, some (.loc st.length), none] s1 = .ok (.loc s1.length) (s1 ++ [.lst ((List.range w).map fun i => frP (csum (Q.map tf) (i + 1)))]) := by
    have gs := gSl_loc (lo := some 1) (hi := none) lZ
    rw [ct] at gs
    show ((Out.ok (some 1) s1).bind fun l st2 => (Out.ok none st2).bind fun u st3 => ofO (gSl (.loc st.length) l u st3)) = _
    rw [Out.bind_ok, Out.bind_ok, gs]
    rfl
  have l2 : lstAt (s1 ++ [Ob.lst ((List.range w).map fun i => frP (csum (Q.map tf) (i + 1)))]) s1.length = some ((List.range w).map fun i => frP (csum (Q.map tf) (i + 1))) := lstAt_lst app_new
  have g2 : Gr s1 (s1 ++ [Ob.lst ((List.range w).map fun i => frP (csum (Q.map tf) (i + 1)))]) := Gr.app _
  have hf2 := (g1.trans g2).lst hf
  have lZ2 := g2.lst lZ
  have h4 := l2_loop (w := w) (Q := Q) (X := some (.loc nf)) (W := some (.int w)) (P := some (.tup ms)) (M := some (.loc st.length)) (x5 := none) (x3 := y3) (chk := fun s => decide (lstAt s s1.length = some ((List.range w).map fun i => frP (csum (Q.map tf) (i + 1))))) (s := s1 ++ [Ob.lst ((List.range w).map fun i => frP (csum (Q.map tf) (i + 1)))]) (decide_eq_true l2)
  rw [← sFor_loc (n := s1.length) h4e l2] at h4
  unfold showsB
  generalize hs2 : s1 ++ [Ob.lst ((List.range w).map fun i => frP (csum (Q.map tf) (i + 1)))] = s2 at h4 g2 hf2 lZ2
  refine ⟨s2, ?_, g1.trans g2⟩
  refine den_end (f := m__law_shows) rfl ?_
  show m__law_shows [some (.loc nf), some (.int w), some (.tup ms), none, none, none] st = _
  unfold m__law_shows
  refine seq_nx h1 (seq_nx h2' (seq_nx h3 ?_))
  rcases h4 with ⟨c, y, e4⟩ | ⟨c, e4⟩
  · rw [c]
    refine seq_nx e4 ?_
    have a0 : (fBin gIx (fBin gIx (fVar 4) (fC (.int 0))) (fC (.int 0))) [some (.loc nf), some (.int w), some (.tup ms), y, some (.loc st.length), none] s2 = .ok (.int (csum (Q.map tf) 0).1) s2 :=
      bin_ok (bin_ok rfl c_ok (d := frP (csum (Q.map tf) 0)) (st3 := s2) (by rw [gIx_loc _ _ lZ2, LZ_cons]; simp)) c_ok (by simp [frP])
    generalize csum (Q.map tf) 0 = x at a0
    by_cases q1 : x.1 = 0
    · have ln2 := gLen_loc s2 hf2
      rw [List.length_map] at ln2
      refine seq_nx (if_f (isb_ok (v := false) (bin_ok a0 c_ok (st3 := s2) (by simp [q1]))) rfl) ?_
      have h5 := l3_loop (w := w) (W := some (.int w)) (M := some (.loc st.length)) (x5 := none) (x3 := y) hf2 hQ
      rw [hms] at h5
      have e5 : ∀ o, sLoop (fun _ => true) (tgN 5) l3B (rngK 0 Q.length) [some (.loc nf), some (.int w), some (.tup ms), y, some (.loc st.length), none] s2 = o → (sForR1 (fCons (fArgs gLen (fCons (fVar 0) (fNil))) (fNil)) (tgN 5) l3B) [some (.loc nf), some (.int w), some (.tup ms), y, some (.loc st.length), none] s2 = o := fun o h => by
        rw [sForR1_ok (j := ((Q.length : Nat) : Int)) (st1 := s2) (cons_ok (args_ok (cons_ok rfl nil_ok) ln2) nil_ok) (small_nat (by omega)), rng_k]
        exact h
      rw [if_neg (by simp), if_neg (by simp [q1])]
      rcases h5 with ⟨c5, y5, e6⟩ | ⟨c5, e6⟩
      · rw [c5]
        exact seq_nx (e5 _ e6) (ret_ok c_ok)
      · rw [c5]
        exact seq_rt (e5 _ e6)
    · rw [if_neg (by simp), if_pos q1]
      exact seq_rt (if_t (isb_ok (bin_ok a0 c_ok (st3 := s2) (by simp [q1]))) (ret_ok (bin_ok a0 c_ok (by simp))))
  · rw [c, if_pos rfl]
    exact seq_rt e4
theorem law_shows_ok {w nf : Nat} {p : D} {F : List Fac} {st : S} (hf : lstAt st nf = some (F.map fD)) (hF : ∀ f ∈ F, FOk w f) (hl : F.length ≤ 12) (hw : w ≤ 100) (hp : EPap st p) :
    ∃ st', g__law_shows [.loc nf, .int w, p] st = .ok (.bl (resB w F p)) st' ∧ Gr st st' := by
  cases c : papB F.length p with
  | true =>
    obtain ⟨ds, rfl, hd, hm⟩ := pap_true c
    rw [← mk_fc hd] at hf
    have z := law_shows_q (w := w) hf (mk_ok hF fun d h => hp.2.2 d h (mul_num (hm d h))) (by rw [mk_len hd]; exact hl) hw (fun t ht => hm _ (by rw [← mk_ms hd]; exact List.mem_map_of_mem ht))
    rw [mk_ms hd] at z
    unfold resB
    rw [c]
    exact z
  | false =>
    refine ⟨st, ?_, Gr.refl⟩
    unfold resB
    rw [c]
    have ln := gLen_loc st hf
    rw [List.length_map] at ln
    have nt : gIsi "tuple" p st = some (.bl false, st) → g__law_shows [.loc nf, .int w, p] st = .ok (.bl false) st := fun h => by
      have e4 : m__law_shows [some (.loc nf), some (.int w), some p, none, none, none] st = .rt (.bl false) st := by
        unfold m__law_shows
        exact seq_rt (if_t (or_t (not_ok (tru_ok (v := false) (un_ok rfl h)))) (ret_ok c_ok))
      exact den_end rfl e4
    cases p with
    | loc n =>
      obtain ⟨xs, hx⟩ := hp
      exact nt (by rw [gIsi_loc st hx]; simp)
    | tup ds =>
      by_cases hd : ds.length = F.length
      · have am : ds.all mulB = false := by simpa [papB, hd] using c
        have z := loop_sel (i := 3) (body := l1B) (ρ0 := [some (.loc nf), some (.int w), some (.tup ds), none, none, none]) (chk := fun _ => true) (s0 := st) (r := .bl false) mulB rfl ds none (fun d hd => l1_turn (hp.2.1 d hd))
        rw [am] at z
        rcases z with ⟨h, _⟩ | ⟨_, e⟩
        · cases h
        · have e4 : m__law_shows [some (.loc nf), some (.int w), some (.tup ds), none, none, none] st = .rt (.bl false) st := by
            unfold m__law_shows
            refine seq_nx (ρ1 := [some (.loc nf), some (.int w), some (.tup ds), none, none, none]) (st1 := st) (if_f (or_f (not_ok (tru_ok (v := true) (un_ok rfl (by simp)))) (isb_ok (v := false) (bin_ok (args_ok (cons_ok rfl nil_ok) (gLen_tup ..)) (args_ok (cons_ok rfl nil_ok) ln) (by simp [hd])))) rfl) ?_
            refine seq_rt ?_
            rw [sFor_tup (ds := ds) (st1 := st) rfl]
            exact e
          exact den_end rfl e4
      · have hd' : ¬ ((ds.length : Int) = (F.length : Int)) := by omega
        have e4 : m__law_shows [some (.loc nf), some (.int w), some (.tup ds), none, none, none] st = .rt (.bl false) st := by
          unfold m__law_shows
          exact seq_rt (if_t (or_f (not_ok (tru_ok (v := true) (un_ok rfl (by simp)))) (isb_ok (v := true) (bin_ok (args_ok (cons_ok rfl nil_ok) (gLen_tup ..)) (args_ok (cons_ok rfl nil_ok) ln) (by simp [hd'])))) (ret_ok c_ok))
        exact den_end rfl e4
    | _ => exact nt (by simp)
end K04

set_option Elab.async false
set_option linter.all false
set_option maxRecDepth 100000
set_option maxHeartbeats 4000000
namespace K04
open PySem MP
abbrev boxL (c i : Nat) (g f t : Int) : List D := [.loc c, .int i, .int g, .int f, .int t]
def Bag (st : S) (b : Nat) : Prop := ∃ (c i : Nat) (g f t : Int) (cells : List Int), st[b]? = some (.lst (boxL c i g f t)) ∧ st[c]? = some (.lst (cells.map D.int)) ∧ c < b
structure Ext (b : Nat) (st st' : S) : Prop where
  bag : Bag st' b
  len : st.length ≤ st'.length
  keep : ∀ (k : Nat) (o : Ob), k ≠ b → st[k]? = some o → st'[k]? = some o
theorem Ext.refl {b : Nat} {st : S} (h : Bag st b) : Ext b st st := ⟨h, Nat.le_refl _, fun _ _ _ e => e⟩
theorem Ext.trans {b : Nat} {s1 s2 s3 : S} (h : Ext b s1 s2) (g : Ext b s2 s3) : Ext b s1 s3 := ⟨g.bag, Nat.le_trans h.len g.len, fun k o n e => g.keep k o n (h.keep k o n e)⟩
theorem Bag.gr {b : Nat} {s s' : S} (h : Bag s b) (g : Gr s s') : Bag s' b := by
  obtain ⟨c, i, x, f, t, cells, e1, e2, n⟩ := h
  exact ⟨c, i, x, f, t, cells, g.keep _ _ e1, g.keep _ _ e2, n⟩
theorem Ext.gr {b : Nat} {s1 s2 s3 : S} (h : Ext b s1 s2) (g : Gr s2 s3) : Ext b s1 s3 :=
  ⟨h.bag.gr g, Nat.le_trans h.len g.len, fun k o n e => g.keep k o (h.keep k o n e)⟩
theorem Gr.ext {b : Nat} {s1 s2 : S} (g : Gr s1 s2) (h : Bag s1 b) : Ext b s1 s2 := (Ext.refl h).gr g
theorem Bag.lt {b : Nat} {s : S} (h : Bag s b) : b < s.length := by
  obtain ⟨c, i, x, f, t, cells, e1, e2, n⟩ := h
  exact lt_of_at e1
theorem Ext.lst {b k : Nat} {s1 s2 : S} {xs : List D} (h : Ext b s1 s2) (n : k ≠ b) (e : lstAt s1 k = some xs) : lstAt s2 k = some xs := by
  rcases lstAt_of e with e | e
  · exact lstAt_lst (h.keep _ _ n e)
  · exact lstAt_fz (h.keep _ _ n e)
/-- a write behind what stood -/
theorem Ext.wr {b n : Nat} {s1 s2 : S} {o : Ob} (hb : Bag s1 b) (h : Ext b s1 s2) (hn : s1.length ≤ n) : Ext b s1 (s2.set n o) := by
  obtain ⟨c, i, x, f, t, cells, e1, e2, ne⟩ := h.bag
  have lb := hb.lt
  refine ⟨⟨c, i, x, f, t, cells, by rw [set_ne (by omega)]; exact e1, by rw [set_ne (by omega)]; exact e2, ne⟩, by rw [List.length_set]; exact h.len, fun k o' nk e => ?_⟩
  have := lt_of_at e
  rw [set_ne (show k ≠ n by omega)]
  exact h.keep k o' nk e
theorem mix_ok (c t : Int) (st : S) : ∃ v, g__law_mix [.int c, .int t] st = .ok (.int v) st := by
  have h1 : MulOk c 48271 := mulok_r (by decide) (by decide)
  have h2 : MulOk t 69621 := mulok_r (by decide) (by decide)
  have h3 : MulOk t 40692 := mulok_r (by decide) (by decide)
  have h5 : MulOk c 16807 := mulok_r (by decide) (by decide)
  have e : ∀ f : Int, 0 ≤ f → f < 2147483647 → MulOk f f := fun f h1 h2 => mulok_r (by omega) (by omega)
  have f0 : 0 ≤ (c * 48271 + t * 69621 + 40503) % 2147483647 := Int.emod_nonneg _ (by decide)
  have f1 : (c * 48271 + t * 69621 + 40503) % 2147483647 < 2147483647 := Int.emod_lt_of_pos _ (by decide)
  have h4 := e _ f0 f1
  have d8 : DivOk 8 := by decide
  simp [g__law_mix, arN, den_ap, m__law_mix, h1, h2, h3, h4, h5, d8]
theorem Ext.box {b c i : Nat} {g f t : Int} {cells : List Int} {s1 : S} {i' : Nat} {g' f' t' : Int} (h : s1[b]? = some (.lst (boxL c i g f t))) (hc : s1[c]? = some (.lst (cells.map D.int))) (n : c < b) : Ext b s1 (s1.set b (.lst (boxL c i' g' f' t'))) :=
  ⟨⟨c, i', g', f', t', cells, set_at (lt_of_at h), by rw [set_ne (by omega)]; exact hc, n⟩, by simp, fun k o n e => by rw [set_ne n]; exact e⟩
theorem pow18 : ∃ T : Int, ∀ s : S, gPow (.int 10) (.int 18) s = some (.int T, s) := ⟨10 ^ 18, fun s => by
  rw [gPow_int, if_pos (by decide)]
  rfl⟩
@[simp] theorem atI_2' {a b c : D} {r : List D} : L2.atI (a :: b :: c :: r) 2 = some c := atI_nat (xs := a :: b :: c :: r) (k := 2) rfl
@[simp] theorem atI_3' {a b c d : D} {r : List D} : L2.atI (a :: b :: c :: d :: r) 3 = some d := atI_nat (xs := a :: b :: c :: d :: r) (k := 3) rfl
@[simp] theorem atI_4' {a b c d e : D} {r : List D} : L2.atI (a :: b :: c :: d :: e :: r) 4 = some e := atI_nat (xs := a :: b :: c :: d :: e :: r) (k := 4) rfl
theorem take_ok {st : S} {b : Nat} {m : Int} (hb : Bag st b) (hm : 0 < m) (hd : DivOk m) : ∃ r st', g__law_take [.loc b, .int m] st = .ok (.int r) st' ∧ 0 ≤ r ∧ r < m ∧ Ext b st st' := by
  obtain ⟨c, i, g, f, t, cells, e, ec, ne⟩ := hb
  have hl := lstAt_lst e
  have lb := lt_of_at e
  have md : ∀ v : Int, 0 ≤ v % m ∧ v % m < m := fun v => ⟨Int.emod_nonneg _ (by omega), Int.emod_lt_of_pos _ hm⟩
  by_cases hg : 0 < g
  · have s1 : gStore (.loc b) (.int 2) (.int (g / m)) st = some (st.set b (.lst (boxL c i (g / m) f t))) := gStore_loc (k := 2) (j := 2) e (show L2.ixN 5 2 = some 2 by decide)
    refine ⟨g % m, st.set b (.lst (boxL c i (g / m) f t)), ?_, (md g).1, (md g).2, Ext.box e ec ne⟩
    simp [g__law_take, arN, den_ap, m__law_take, gIx_loc _ _ hl, hg, hm, hd, s1]
  · have s1 : gStore (.loc b) (.int 4) (.int (t + 1)) st = some (st.set b (.lst (boxL c i g f (t + 1)))) := gStore_loc (k := 4) (j := 4) e (show L2.ixN 5 4 = some 4 by decide)
    have e1 : (st.set b (.lst (boxL c i g f (t + 1))))[b]? = some (.lst (boxL c i g f (t + 1))) := set_at lb
    have l1 := lstAt_lst e1
    have c1 : (st.set b (.lst (boxL c i g f (t + 1))))[c]? = some (.lst (cells.map D.int)) := by rw [set_ne (by omega)]; exact ec
    have lc1 := lstAt_lst c1
    by_cases hi : i < cells.length
    · have s2 : gStore (.loc b) (.int 1) (.int ((i : Int) + 1)) (st.set b (.lst (boxL c i g f (t + 1)))) = some ((st.set b (.lst (boxL c i g f (t + 1)))).set b (.lst (boxL c (i + 1) g f (t + 1)))) := gStore_loc (k := 1) (j := 1) e1 (show L2.ixN 5 1 = some 1 by decide)
      rw [List.set_set] at s2
      have e2 : (st.set b (.lst (boxL c (i + 1) g f (t + 1))))[b]? = some (.lst (boxL c (i + 1) g f (t + 1))) := set_at lb
      have l2 := lstAt_lst e2
      have a1 : L2.atI (cells.map D.int) ((i : Nat) : Int) = some (.int cells[i]) := atI_nat (by simp [hi])
      have ni : ¬ ((cells.length : Int) ≤ (i : Int)) := by omega
      obtain ⟨T, eT⟩ := pow18
      by_cases hT : absI cells[i] < T
      · obtain ⟨v, hv⟩ := mix_ok cells[i] (t + 1) (st.set b (.lst (boxL c (i + 1) g f (t + 1))))
        refine ⟨v % m, st.set b (.lst (boxL c (i + 1) g f (t + 1))), ?_, (md v).1, (md v).2, Ext.box e ec ne⟩
        simp [g__law_take, arN, den_ap, m__law_take, gIx_loc _ _ hl, hg, s1, gIx_loc _ _ l1, gLen_loc _ lc1, ni, gIx_loc _ _ lc1, a1, s2, gIx_loc _ _ l2, eT, hT, hv, hm]
      · have s3 : gStore (.loc b) (.int 2) (.int (absI cells[i] / m)) (st.set b (.lst (boxL c (i + 1) g f (t + 1)))) = some ((st.set b (.lst (boxL c (i + 1) g f (t + 1)))).set b (.lst (boxL c (i + 1) (absI cells[i] / m) f (t + 1)))) := gStore_loc (k := 2) (j := 2) e2 (show L2.ixN 5 2 = some 2 by decide)
        rw [List.set_set] at s3
        refine ⟨absI cells[i] % m, st.set b (.lst (boxL c (i + 1) (absI cells[i] / m) f (t + 1))), ?_, (md _).1, (md _).2, Ext.box e ec ne⟩
        simp [g__law_take, arN, den_ap, m__law_take, gIx_loc _ _ hl, hg, s1, gIx_loc _ _ l1, gLen_loc _ lc1, ni, gIx_loc _ _ lc1, a1, s2, gIx_loc _ _ l2, eT, hT, hd, s3, hm]
    · obtain ⟨v, hv⟩ := mix_ok f (t + 1) (st.set b (.lst (boxL c i g f (t + 1))))
      have ni : (cells.length : Int) ≤ (i : Int) := by omega
      refine ⟨v % m, st.set b (.lst (boxL c i g f (t + 1))), ?_, (md v).1, (md v).2, Ext.box e ec ne⟩
      simp [g__law_take, arN, den_ap, m__law_take, gIx_loc _ _ hl, hg, s1, gIx_loc _ _ l1, gLen_loc _ lc1, ni, hv, hm]
noncomputable abbrev opB : FS := sSeq (sExpr (fLM gAppend (fVar 1) (fCons (fVar 3) (fNil))))
  (sSet 2 (fBin gMod (fArgs gInt (fCons (fBin gAdd (fBin gMul (fVar 2) (fC (.int 16807))) (fVar 3)) (fNil))) (fC (.int 2147483629))))
theorem open_ok {ns : List Int} (hl : ns.length ≤ 63) : ∃ st', g__law_open [.loc 0] [.fz (ns.map D.int)] = .ok (.loc 3) st' ∧ Bag st' 3 ∧ st'.length = 4 := by
  obtain ⟨ρ', s', h1, f, x, h2, h3⟩ := loop_inv (chk := fun s => decide (lstAt s 2 = some (ns.map D.int))) (t := tgN 3) (body := opB)
    (I := fun don cs ρ s => ∃ (f : Int) (x : Option D), ρ = [some (.loc 0), some (.loc 1), some (.int f), x] ∧ s = [.fz (ns.map D.int), .lst don, .lst (ns.map D.int)] ∧ don ++ cs = ns.map D.int)
    (fun don d cs ρ s ⟨f, x, e, es, h⟩ => by
      subst e es
      have hd : d ∈ ns.map D.int := by rw [← h]; simp
      obtain ⟨k, hk, rfl⟩ := List.mem_map.mp hd
      have hdl : don.length < sizeLine := by
        have := congrArg List.length h
        rw [List.length_append, List.length_map] at this
        exact short (by omega)
      have ga : gAppend (.loc 1) [.int k] [.fz (ns.map D.int), .lst don, .lst (ns.map D.int)] = some (.non, [.fz (ns.map D.int), .lst (don ++ [.int k]), .lst (ns.map D.int)]) := gAppend_loc (n := 1) rfl hdl
      have m1 : MulOk f 16807 := mulok_r (by decide) (by decide)
      refine ⟨by simp [lstAt], _, rfl, _, _, .inl ?_, (f * 16807 + k) % 2147483629, some (.int k), rfl, rfl, by rw [List.append_assoc]; exact h⟩
      have l1 : lstAt [.fz (ns.map D.int), .lst don, .lst (ns.map D.int)] 1 = some don := rfl
      simp [ga, m1, l1])
    (fun don ρ s ⟨f, x, e, es, h⟩ => by subst es; simp [lstAt]) (ns.map D.int) [] [some (.loc 0), some (.loc 1), some (.int 12289), none] [.fz (ns.map D.int), .lst [], .lst (ns.map D.int)] ⟨12289, none, rfl, rfl, rfl⟩
  obtain ⟨h3, h4⟩ := h3
  rw [List.nil_append] at h3
  subst h2 h3
  refine ⟨[.fz (ns.map D.int), .lst (ns.map D.int), .lst (ns.map D.int), .lst (boxL 1 0 0 f 0)], ?_, ⟨1, 0, 0, f, 0, ns, rfl, rfl, by decide⟩, rfl⟩
  have e4 : m__law_open [some (.loc 0), none, none, none] [.fz (ns.map D.int)] = .rt (.loc 3) [.fz (ns.map D.int), .lst (ns.map D.int), .lst (ns.map D.int), .lst (boxL 1 0 0 f 0)] := by
    unfold m__law_open
    refine seq_nx (ρ1 := [some (.loc 0), some (.loc 1), none, none]) (st1 := [.fz (ns.map D.int), .lst []]) rfl ?_
    refine seq_nx (ρ1 := [some (.loc 0), some (.loc 1), some (.int 12289), none]) (st1 := [.fz (ns.map D.int), .lst []]) rfl ?_
    have e5 : (fSl gSl (fVar 0) (fNo) (fPart (fC (.int 63)))) [some (.loc 0), some (.loc 1), some (.int 12289), none] [.fz (ns.map D.int), .lst []] = .ok (.loc 2) [.fz (ns.map D.int), .lst [], .lst (ns.map D.int)] := by
      have gs := gSl_loc (st := [.fz (ns.map D.int), .lst []]) (n := 0) (xs := ns.map D.int) (lo := none) (hi := some ((63 : Nat) : Int)) rfl
      rw [cut_all_to (by rw [List.length_map]; exact hl)] at gs
      rw [show (some ((63 : Nat) : Int)) = some 63 from rfl] at gs
      rw [fSl_ap, v_ok (d := .loc 0) rfl, Out.bind_ok, show fNo [some (.loc 0), some (.loc 1), some (.int 12289), none] [.fz (ns.map D.int), .lst []] = .ok none [.fz (ns.map D.int), .lst []] from rfl, Out.bind_ok, show (fPart (fC (.int 63))) [some (.loc 0), some (.loc 1), some (.int 12289), none] [.fz (ns.map D.int), .lst []] = .ok (some 63) [.fz (ns.map D.int), .lst []] from rfl, Out.bind_ok, gs]
      rfl
    refine seq_nx (ρ1 := [some (.loc 0), some (.loc 1), some (.int f), x]) (st1 := [.fz (ns.map D.int), .lst (ns.map D.int), .lst (ns.map D.int)]) ?_ ?_
    · rw [sFor_loc (n := 2) e5 rfl]
      exact h1
    · rfl
  exact den_end rfl e4
end K04

set_option Elab.async false
set_option linter.all false
set_option maxRecDepth 100000
set_option maxHeartbeats 4000000
namespace K04
open PySem MP
/-- twelfths -/
def H12 (B : Nat) (d : D) : Prop := ∃ n : Int, d = low n 12 ∧ n.natAbs < B
theorem H12.nb {B : Nat} {d : D} (h : H12 B d) (hB : 12 < B) : Nb B d := by
  obtain ⟨n, rfl, hn⟩ := h
  exact low_nb (by decide) hn (show (12 : Int).natAbs < B from hB)
theorem H12.le {B C : Nat} {d : D} (h : H12 B d) (hB : B ≤ C) : H12 C d := by
  obtain ⟨n, e, hn⟩ := h
  exact ⟨n, e, Nat.lt_of_lt_of_le hn hB⟩
theorem low_12 {p q : Int} (h1 : 1 ≤ q) (h4 : q ≤ 4) : ∃ k : Int, low p q = low (k * p) 12 ∧ 1 ≤ k ∧ k ≤ 12 := by
  have : q = 1 ∨ q = 2 ∨ q = 3 ∨ q = 4 := by omega
  rcases this with rfl | rfl | rfl | rfl
  · exact ⟨12, (low_scale (g := 12) (q := 1) (by decide)).symm, by decide, by decide⟩
  · exact ⟨6, (low_scale (g := 6) (q := 2) (by decide)).symm, by decide, by decide⟩
  · exact ⟨4, (low_scale (g := 4) (q := 3) (by decide)).symm, by decide, by decide⟩
  · exact ⟨3, (low_scale (g := 3) (q := 4) (by decide)).symm, by decide, by decide⟩
theorem h12_of {p q : Int} {A : Nat} (h1 : 1 ≤ q) (h4 : q ≤ 4) (hp : p.natAbs < A) : H12 (12 * A) (low p q) := by
  obtain ⟨k, e, k1, k2⟩ := low_12 (p := p) h1 h4
  refine ⟨_, e, ?_⟩
  rw [Int.natAbs_mul]
  calc k.natAbs * p.natAbs ≤ 12 * p.natAbs := Nat.mul_le_mul_right _ (by omega)
    _ < 12 * A := by omega
theorem h12_int {p : Int} {A : Nat} (hp : p.natAbs < A) : H12 (12 * A) (fr p 1) := by
  have := h12_of (p := p) (q := 1) (by decide) (by decide) hp
  rw [low_one] at this
  exact this
theorem sm_lt {x : Int} (h : x.natAbs < 10 ^ 200) : Sm x := sm_of h (Nat.le_trans (show 10 ^ 200 ≤ 2 ^ 700 by decide +kernel) (Nat.pow_le_pow_right (by decide) (by decide)))
theorem small_ok {st : S} {b : Nat} (hb : Bag st b) : ∃ d st', g__law_small [.loc b] st = .ok d st' ∧ H12 1000 d ∧ Ext b st st' := by
  obtain ⟨k, s1, e1, k0, k1, x1⟩ := take_ok hb (m := 8) (by decide) (by decide)
  by_cases c0 : k = 0
  · refine ⟨fr 0 1, s1, ?_, ⟨0, (low_zero (by decide)).symm, by decide⟩, x1⟩
    have e4 : m__law_small [some (.loc b), none] st = .rt (fr 0 1) s1 := by
      unfold m__law_small
      refine seq_nx (set_ok (call_ok (cons_ok rfl (cons_ok rfl nil_ok)) e1)) ?_
      exact seq_rt (if_t (isb_ok (bin_ok rfl c_ok (by simp [c0]))) (ret_ok (tup_ok (cons_ok c_ok (cons_ok c_ok nil_ok)))))
    exact den_end rfl e4
  · by_cases c7 : k = 7
    · obtain ⟨t, s2, e2, t0, t1, x2⟩ := take_ok x1.bag (m := 37) (by decide) (by decide)
      obtain ⟨u, s3, e3, u0, u1, x3⟩ := take_ok x2.bag (m := 4) (by decide) (by decide)
      have en := num_pos (p := t - 18) (q := 1 + u) (by omega) (sm_lt (by omega)) s3
      refine ⟨low (t - 18) (1 + u), s3, ?_, (h12_of (A := 20) (by omega) (by omega) (by omega)).le (by decide), (x1.trans x2).trans x3⟩
      have e4 : m__law_small [some (.loc b), none] st = .rt (low (t - 18) (1 + u)) s3 := by
        unfold m__law_small
        refine seq_nx (set_ok (call_ok (cons_ok rfl (cons_ok rfl nil_ok)) e1)) ?_
        refine seq_nx (if_f (isb_ok (v := false) (bin_ok rfl c_ok (st3 := s1) (by simp [c0]))) rfl) ?_
        exact seq_rt (if_t (isb_ok (bin_ok rfl c_ok (by simp [c7]))) (ret_ok (call_ok (cons_ok (bin_ok (call_ok (cons_ok rfl (cons_ok rfl nil_ok)) e2) c_ok rfl) (cons_ok (bin_ok c_ok (call_ok (cons_ok rfl (cons_ok rfl nil_ok)) e3) rfl) nil_ok)) en)))
      exact den_end rfl e4
    · obtain ⟨t, s2, e2, t0, t1, x2⟩ := take_ok x1.bag (m := 9) (by decide) (by decide)
      refine ⟨fr (t - 4) 1, s2, ?_, (h12_int (A := 10) (by omega)).le (by decide), x1.trans x2⟩
      have e4 : m__law_small [some (.loc b), none] st = .rt (fr (t - 4) 1) s2 := by
        unfold m__law_small
        refine seq_nx (set_ok (call_ok (cons_ok rfl (cons_ok rfl nil_ok)) e1)) ?_
        refine seq_nx (if_f (isb_ok (v := false) (bin_ok rfl c_ok (st3 := s1) (by simp [c0]))) rfl) ?_
        refine seq_nx (if_f (isb_ok (v := false) (bin_ok rfl c_ok (st3 := s1) (by simp [c7]))) rfl) ?_
        exact ret_ok (tup_ok (cons_ok (bin_ok (call_ok (cons_ok rfl (cons_ok rfl nil_ok)) e2) c_ok rfl) (cons_ok c_ok nil_ok)))
      exact den_end rfl e4
theorem rngK_at : ∀ (don : List D) (d : D) (cs : List D) (j n : Nat), don ++ d :: cs = rngK j n → d = .int ((j + don.length : Nat) : Int) ∧ don.length < n
  | don, d, cs, j, 0, h => by
    have := congrArg List.length h
    rw [show rngK j 0 = [] from rfl] at this
    simp at this
  | [], d, cs, j, n + 1, h => by
    rw [show rngK j (n + 1) = .int (j : Int) :: rngK (j + 1) n from rfl, List.nil_append] at h
    cases h
    exact ⟨rfl, Nat.succ_pos _⟩
  | x :: don, d, cs, j, n + 1, h => by
    rw [show rngK j (n + 1) = .int (j : Int) :: rngK (j + 1) n from rfl, List.cons_append] at h
    obtain ⟨hx, ht⟩ := List.cons.inj h
    have z := rngK_at don d cs (j + 1) n ht
    refine ⟨by rw [z.1, List.length_cons, show j + 1 + don.length = j + (don.length + 1) by omega], by rw [List.length_cons]; omega⟩
theorem rngK_len (j n : Nat) : (rngK j n).length = n := by rw [rngK_eq]; simp
def HForm (w : Nat) (d : D) : Prop := ∃ es, d = .tup es ∧ es.length = w + 1 ∧ ∀ e ∈ es, H12 (10 ^ 31) e
theorem pow7 : ∃ T : Int, T = 10000000 ∧ ∀ s : S, gPow (.int 10) (.int 7) s = some (.int T, s) := ⟨10 ^ 7, by decide, fun s => by
  rw [gPow_int, if_pos (by decide)]
  rfl⟩
theorem pow27 : ∃ T : Int, T.natAbs < 10 ^ 28 ∧ ∀ s : S, gPow (.int 10) (.int 27) s = some (.int T, s) := ⟨10 ^ 27, by decide, fun s => by
  rw [gPow_int, if_pos (by decide)]
  rfl⟩
noncomputable abbrev grB : FS := sSet 4 (fBin gAdd (fBin gMul (fVar 4) (fBin gPow (fC (.int 10)) (fC (.int 7)))) (fCall g__law_take (fCons (fVar 0) (fCons (fBin gPow (fC (.int 10)) (fC (.int 7))) (fNil)))))
theorem great_loop {b : Nat} {W Fa Fo : Option D} {st : S} (hb : Bag st b) (x5 : Option D) : ∃ (v : Int) (y : Option D) (s : S), sLoop (fun _ => true) (tgN 5) grB (rngK 0 4) [some (.loc b), W, Fa, Fo, some (.int 0), x5] st = .nx [some (.loc b), W, Fa, Fo, some (.int v), y] s ∧ 0 ≤ v ∧ v < 10 ^ 28 ∧ Ext b st s := by
  obtain ⟨T, hT, eT⟩ := pow7
  obtain ⟨ρ', s', h1, v, x, h2, h3, h4, h5, h6⟩ := loop_inv (chk := fun _ => true) (t := tgN 5) (body := grB)
    (I := fun don cs ρ s => ∃ (v : Int) (x : Option D), ρ = [some (.loc b), W, Fa, Fo, some (.int v), x] ∧ Ext b st s ∧ 0 ≤ v ∧ v < 10000000 ^ don.length ∧ don.length + cs.length = 4)
    (fun don d cs ρ s ⟨v, x, e, g, h0, h1, hl⟩ => by
      subst e
      obtain ⟨r, s1, er, r0, r1, x1⟩ := take_ok g.bag (m := T) (by omega) (by rw [hT]; decide)
      rw [List.length_cons] at hl
      have hv : v < 10 ^ 28 := by
        have : don.length = 0 ∨ don.length = 1 ∨ don.length = 2 ∨ don.length = 3 := by omega
        rcases this with q | q | q | q <;> rw [q] at h1 <;> omega
      have m1 : MulOk v T := mm (sm_lt (by omega)) (sm_lt (by omega))
      refine ⟨rfl, _, rfl, [some (.loc b), W, Fa, Fo, some (.int (v * T + r)), some d], s1, .inl ?_, v * T + r, some d, rfl, g.trans x1, ?_, ?_, by rw [List.length_append, List.length_singleton]; omega⟩
      · exact set_ok (bin_ok (bin_ok rfl (bin_ok c_ok c_ok (eT s)) (d := .int (v * T)) (st3 := s) (by simp [m1])) (call_ok (cons_ok rfl (cons_ok (bin_ok c_ok c_ok (eT s)) nil_ok)) er) rfl)
      · rw [hT] at r1 ⊢; omega
      · rw [List.length_append, List.length_singleton, Int.pow_succ]
        rw [hT] at r1 ⊢
        omega)
    (fun _ _ _ _ => rfl) (rngK 0 4) [] [some (.loc b), W, Fa, Fo, some (.int 0), x5] st ⟨0, x5, rfl, Ext.refl hb, by decide, by decide, rfl⟩
  subst h2
  refine ⟨v, x, s', h1, h4, ?_, h3⟩
  rw [List.nil_append, rngK_len] at h5
  exact h5
theorem rng_form {w i : Nat} {ρ : En} {st : S} (hw : w ≤ 100) (h : ρ[i]? = some (some (.int (w : Int)))) : fRng1 (fCons (fBin gAdd (fVar i) (fC (.int 1))) (fNil)) ρ st = .ok (rngK 0 (w + 1), fun _ => true) st := by
  rw [← rng_k]
  exact rng1_ok hw h
theorem lc_ext {own : List Nat} {fi : FI} {g : FG} {fe : FE} {ρ : En} {st st1 : S} {ds : List D} {chk : S → Bool} {b : Nat} (P : D → D → Prop) (hb : Bag st1 b) (hi : fi ρ st = .ok (ds, chk) st1) (hl : ds.length < sizeLine) (hchk : ∀ s, Ext b st1 s → chk s = true)
    (hbd : ∀ d ∈ ds, ∀ s, Ext b st1 s → ∃ ρ1, g d s (wipeE ρ own) = some ρ1 ∧ ∃ v s', fe ρ1 s = .ok v s' ∧ Ext b s s' ∧ P d v) :
    ∃ vs s', fLc own fi g fYes fe ρ st = .ok (.loc st1.length) s' ∧ Ext b st1 s' ∧ s'[st1.length]? = some (.lst vs) ∧ All2 P ds vs := by
  refine fLc_inv (J := Ext b st1) hi hl (K04.Gr.ext (Gr.app _) hb) (fun s o h => h.wr hb (Nat.le_refl _)) hchk (fun d hd acc s hs hn => ?_)
  obtain ⟨ρ1, e1, v, s', e2, x, p⟩ := hbd d hd s hs
  have := hb.lt
  exact ⟨ρ1, e1, v, s', e2, hs.trans x, x.keep _ _ (by omega) hn, p⟩
theorem form_ok {st : S} {b w : Nat} {far : Bool} (hb : Bag st b) (hw : w ≤ 100) : ∃ d st', g__law_form [.loc b, .int w, .bl far] st = .ok d st' ∧ HForm w d ∧ Ext b st st' := by
  obtain ⟨vs, s1, e1, x1, n1, a1⟩ := lc_ext (own := [5]) (fi := fRng1 (fCons (fBin gAdd (fVar 1) (fC (.int 1))) (fNil))) (g := tgN 5) (fe := fCall g__law_small (fCons (fVar 0) (fNil))) (ρ := [some (.loc b), some (.int w), some (.bl far), none, none, none]) (st := st) (st1 := st) (ds := rngK 0 (w + 1)) (chk := fun _ => true) (fun _ v => H12 1000 v) hb (rng_form (i := 1) hw rfl) (by rw [rngK_len]; exact short (by omega)) (fun _ _ => rfl) (fun d hd s hs => by
    obtain ⟨v, s', e, hv, x⟩ := small_ok hs.bag
    exact ⟨_, rfl, v, s', call_ok (cons_ok rfl nil_ok) e, x, hv⟩)
  have hl := a1.len
  rw [rngK_len] at hl
  have hv : ∀ e ∈ vs, H12 (10 ^ 31) e := fun e he => by
    obtain ⟨_, _, h⟩ := a1.mem e he
    exact h.le (by decide)
  have lb := hb.lt
  cases far with
  | false =>
    refine ⟨.tup vs, s1, ?_, ⟨vs, rfl, hl, hv⟩, x1⟩
    have e4 : m__law_form [some (.loc b), some (.int w), some (.bl false), none, none, none] st = .rt (.tup vs) s1 := by
      unfold m__law_form
      refine seq_nx (set_ok e1) ?_
      refine seq_nx (if_f (tru_ok rfl) rfl) ?_
      exact ret_ok (args_ok (cons_ok rfl nil_ok) (gTuple_loc (lstAt_lst n1)))
    exact den_end rfl e4
  | true =>
    obtain ⟨v, y, s2, e2, v0, v1, x2⟩ := great_loop (W := some (.int w)) (Fa := some (.bl true)) (Fo := some (.loc st.length)) x1.bag none
    obtain ⟨T, hT, eT⟩ := pow27
    have n2 := x2.keep st.length _ (by omega) n1
    have gs := gStore_loc (d := fr (v - T) 1) (k := 0) (j := 0) n2 (by rw [hl]; simp)
    have hh : H12 (10 ^ 31) (fr (v - T) 1) := (h12_int (A := 10 ^ 29) (by omega)).le (by decide)
    refine ⟨.tup (vs.set 0 (fr (v - T) 1)), s2.set st.length (.lst (vs.set 0 (fr (v - T) 1))), ?_, ⟨_, rfl, by rw [List.length_set]; exact hl, fun e he => ?_⟩, (x1.trans x2).wr hb (Nat.le_refl _)⟩
    · have e4 : m__law_form [some (.loc b), some (.int w), some (.bl true), none, none, none] st = .rt (.tup (vs.set 0 (fr (v - T) 1))) (s2.set st.length (.lst (vs.set 0 (fr (v - T) 1)))) := by
        unfold m__law_form
        refine seq_nx (set_ok e1) ?_
        refine seq_nx (ρ1 := [some (.loc b), some (.int w), some (.bl true), some (.loc st.length), some (.int v), y]) (st1 := s2.set st.length (.lst (vs.set 0 (fr (v - T) 1)))) (if_t (tru_ok rfl) ?_) ?_
        · refine seq_nx (set_ok c_ok) ?_
          refine seq_nx (ρ1 := [some (.loc b), some (.int w), some (.bl true), some (.loc st.length), some (.int v), y]) (st1 := s2) ?_ ?_
          · rw [sForR1_ok (j := ((4 : Nat) : Int)) (st1 := s1) rfl (small_nat (by decide)), rng_k]
            exact e2
          · have ev : (fTup (fCons (fBin gSub (fVar 4) (fBin gPow (fC (.int 10)) (fC (.int 27)))) (fCons (fC (.int 1)) (fNil)))) [some (.loc b), some (.int w), some (.bl true), some (.loc st.length), some (.int v), y] s2 = .ok (fr (v - T) 1) s2 :=
              tup_ok (cons_ok (bin_ok rfl (bin_ok c_ok c_ok (eT s2)) rfl) (cons_ok c_ok nil_ok))
            rw [sStore_ap, ev]
            simp only [Out.so_ok, fVar_ap, fC_ap, List.getElem?_cons_succ, List.getElem?_cons_zero, gs]
        · exact ret_ok (args_ok (cons_ok rfl nil_ok) (gTuple_loc (lstAt_lst (set_at (lt_of_at n2)))))
      exact den_end rfl e4
    · rcases List.mem_or_eq_of_mem_set he with q | q
      · exact hv e q
      · rw [q]; exact hh
end K04

set_option Elab.async false
set_option linter.all false
set_option maxRecDepth 100000
set_option maxHeartbeats 4000000
namespace K04
open PySem MP
theorem app_ok {ρ : En} {st st1 : S} {i n : Nat} {e : FE} {v : D} {acc xs : List D} (hr : ρ[i]? = some (some (.loc n))) (h0 : lstAt st n = some xs) (he : e ρ st = .ok v st1) (hn : st1[n]? = some (.lst acc)) (hl : acc.length < sizeLine) :
    sExpr (fLM gAppend (fVar i) (fCons e (fNil))) ρ st = .nx ρ (st1.set n (.lst (acc ++ [v]))) := by
  have g := gAppend_loc (d := v) hn hl
  simp only [sExpr_ap, fLM_ap, fVar_ap, hr, Out.bind_ok, h0, fCons_ap, he, fNil_ap, g, ofO, Out.so_ok]
/-- an entry of the paper that was drawn -/
def PEnt (d : D) : Prop := ∃ m : Int, d = low m 12 ∧ 0 ≤ m ∧ m < 10 ^ 9
def PPos (d : D) : Prop := ∃ m : Int, d = low m 12 ∧ 0 < m ∧ m < 10 ^ 9
theorem PPos.ent {d : D} (h : PPos d) : PEnt d := by
  obtain ⟨m, e, h1, h2⟩ := h
  exact ⟨m, e, by omega, h2⟩
theorem PEnt.h12 {d : D} (h : PEnt d) : H12 (10 ^ 9) d := by
  obtain ⟨m, e, h1, h2⟩ := h
  exact ⟨m, e, by omega⟩
theorem pp_of {p q : Int} (h1 : 1 ≤ q) (h4 : q ≤ 4) (hp : 0 < p) (hp2 : p ≤ 10000000) : PPos (low p q) := by
  obtain ⟨k, e, k1, k2⟩ := low_12 (p := p) h1 h4
  refine ⟨_, e, Int.mul_pos (by omega) hp, ?_⟩
  have a1 : k * p ≤ 12 * p := Int.mul_le_mul_of_nonneg_right k2 (by omega)
  omega
noncomputable abbrev ppB : FS := sSeq (sSet 5 (fCall g__law_take (fCons (fVar 0) (fCons (fC (.int 16)) (fNil)))))
  (sIf (fAnd (fIsB (fBin gLt (fVar 5) (fC (.int 5)))) (fIsB (fBin gNe (fVar 4) (fVar 2)))) (sExpr (fLM gAppend (fVar 3) (fCons (fTup (fCons (fC (.int 0)) (fCons (fC (.int 1)) (fNil)))) (fNil)))) (sIf (fIsB (fBin gEq (fVar 5) (fC (.int 15)))) (sExpr (fLM gAppend (fVar 3) (fCons (fTup (fCons (fBin gAdd (fC (.int 1)) (fCall g__law_take (fCons (fVar 0) (fCons (fBin gPow (fC (.int 10)) (fC (.int 7))) (fNil))))) (fCons (fC (.int 1)) (fNil)))) (fNil)))) (sExpr (fLM gAppend (fVar 3) (fCons (fCall g__law_num (fCons (fBin gAdd (fC (.int 1)) (fCall g__law_take (fCons (fVar 0) (fCons (fC (.int 9)) (fNil))))) (fCons (fBin gAdd (fC (.int 1)) (fCall g__law_take (fCons (fVar 0) (fCons (fC (.int 4)) (fNil))))) (fNil)))) (fNil))))))
/-- one entry is drawn -/
theorem pp_turn {st s : S} {b n k spot : Nat} {C x5 : Option D} {acc : List D} (hb : Bag st b) (g : Ext b st s) (hn0 : st.length ≤ n) (hn : s[n]? = some (.lst acc)) (hl : acc.length < 1000) :
    ∃ (v : D) (y5 : Option D) (s' : S), ppB [some (.loc b), C, some (.int (spot : Nat)), some (.loc n), some (.int (k : Nat)), x5] s = .nx [some (.loc b), C, some (.int (spot : Nat)), some (.loc n), some (.int (k : Nat)), y5] s' ∧ Ext b st s' ∧ s'[n]? = some (.lst (acc ++ [v])) ∧ PEnt v ∧ (k = spot → PPos v) := by
  have lb := hb.lt
  have hs := short (n := acc.length) (by omega)
  obtain ⟨r, s1, e1, r0, r1, x1⟩ := take_ok g.bag (m := 16) (by decide) (by decide)
  have n1 := x1.keep n _ (by omega) hn
  have l1 := lstAt_lst n1
  by_cases c : r < 5 ∧ ¬ ((k : Int) = (spot : Int))
  · refine ⟨fr 0 1, some (.int r), s1.set n (.lst (acc ++ [fr 0 1])), ?_, (g.trans x1).wr hb hn0, set_at (lt_of_at n1), ⟨0, (low_zero (by decide)).symm, by decide, by decide⟩, fun h => absurd (by rw [h]) c.2⟩
    refine seq_nx (set_ok (call_ok (cons_ok rfl (cons_ok rfl nil_ok)) e1)) ?_
    exact if_t (and_t (isb_ok (bin_ok rfl c_ok (st3 := s1) (by simp [c.1]))) (isb_ok (bin_ok rfl rfl (st3 := s1) (by simp [c.2])))) (app_ok rfl l1 (tup_ok (cons_ok c_ok (cons_ok c_ok nil_ok))) n1 hs)
  · have tst : (fAnd (fIsB (fBin gLt (fVar 5) (fC (.int 5)))) (fIsB (fBin gNe (fVar 4) (fVar 2)))) [some (.loc b), C, some (.int (spot : Nat)), some (.loc n), some (.int (k : Nat)), some (.int r)] s1 = .ok false s1 := by
      by_cases c1 : r < 5
      · have c2 : (k : Int) = (spot : Int) := by
          by_cases q : (k : Int) = (spot : Int)
          · exact q
          · exact absurd ⟨c1, q⟩ c
        exact and_t (isb_ok (bin_ok rfl c_ok (st3 := s1) (by simp [c1]))) (isb_ok (bin_ok rfl rfl (st3 := s1) (by simp [c2])))
      · exact and_f (isb_ok (bin_ok rfl c_ok (by simp [c1])))
    by_cases c15 : r = 15
    · obtain ⟨T, hT, eT⟩ := pow7
      obtain ⟨t, s2, e2, t0, t1, x2⟩ := take_ok x1.bag (m := T) (by omega) (by rw [hT]; decide)
      have n2 := x2.keep n _ (by omega) n1
      have pv : PPos (fr (1 + t) 1) := by
        have := pp_of (p := 1 + t) (q := 1) (by decide) (by decide) (by omega) (by omega)
        rwa [low_one] at this
      refine ⟨fr (1 + t) 1, some (.int r), s2.set n (.lst (acc ++ [fr (1 + t) 1])), ?_, ((g.trans x1).trans x2).wr hb hn0, set_at (lt_of_at n2), pv.ent, fun _ => pv⟩
      refine seq_nx (set_ok (call_ok (cons_ok rfl (cons_ok rfl nil_ok)) e1)) ?_
      exact if_f tst (if_t (isb_ok (bin_ok rfl c_ok (by simp [c15]))) (app_ok rfl l1 (tup_ok (cons_ok (bin_ok c_ok (call_ok (cons_ok rfl (cons_ok (bin_ok c_ok c_ok (eT s1)) nil_ok)) e2) rfl) (cons_ok c_ok nil_ok))) n2 hs))
    · obtain ⟨t, s2, e2, t0, t1, x2⟩ := take_ok x1.bag (m := 9) (by decide) (by decide)
      obtain ⟨u, s3, e3, u0, u1, x3⟩ := take_ok x2.bag (m := 4) (by decide) (by decide)
      have n3 := x3.keep n _ (by omega) (x2.keep n _ (by omega) n1)
      have en := num_pos (p := 1 + t) (q := 1 + u) (by omega) (sm_lt (by omega)) s3
      have pv : PPos (low (1 + t) (1 + u)) := pp_of (by omega) (by omega) (by omega) (by omega)
      refine ⟨low (1 + t) (1 + u), some (.int r), s3.set n (.lst (acc ++ [low (1 + t) (1 + u)])), ?_, (((g.trans x1).trans x2).trans x3).wr hb hn0, set_at (lt_of_at n3), pv.ent, fun _ => pv⟩
      refine seq_nx (set_ok (call_ok (cons_ok rfl (cons_ok rfl nil_ok)) e1)) ?_
      exact if_f tst (if_f (isb_ok (v := false) (bin_ok rfl c_ok (st3 := s1) (by simp [c15]))) (app_ok rfl l1 (call_ok (cons_ok (bin_ok c_ok (call_ok (cons_ok rfl (cons_ok rfl nil_ok)) e2) rfl) (cons_ok (bin_ok c_ok (call_ok (cons_ok rfl (cons_ok rfl nil_ok)) e3) rfl) nil_ok)) en) n3 hs))
theorem paper_ok {st : S} {b n spot : Nat} (hb : Bag st b) (hn : n ≤ 100) (hs : spot < n) : ∃ ds st', g__law_paper [.loc b, .int (n : Nat), .int (spot : Nat)] st = .ok (.tup ds) st' ∧ ds.length = n ∧ (∀ d ∈ ds, PEnt d) ∧ (∀ h : spot < ds.length, PPos ds[spot]) ∧ Ext b st st' := by
  have lb := hb.lt
  obtain ⟨ρ', s', h1, acc, x4, x5, h2, h3, h4, h5, h6, h7, h8⟩ := loop_inv (chk := fun _ => true) (t := tgN 4) (body := ppB)
    (I := fun don cs ρ s => ∃ (acc : List D) (x4 x5 : Option D), ρ = [some (.loc b), some (.int (n : Nat)), some (.int (spot : Nat)), some (.loc st.length), x4, x5] ∧ Ext b st s ∧ s[st.length]? = some (.lst acc) ∧ acc.length = don.length ∧ (∀ d ∈ acc, PEnt d) ∧ (∀ h : spot < acc.length, PPos acc[spot]) ∧ don ++ cs = rngK 0 n)
    (fun don d cs ρ s ⟨acc, x4, x5, e, g, hn, hl, ha, hp, hr⟩ => by
      subst e
      obtain ⟨ed, hdl⟩ := rngK_at don d cs 0 n hr
      rw [Nat.zero_add, ← hl] at ed
      subst ed
      obtain ⟨v, y5, s1, e1, g1, n1, pv, pp⟩ := pp_turn (k := acc.length) (spot := spot) (C := some (.int (n : Nat))) (x5 := x5) hb g (Nat.le_refl _) hn (by omega)
      refine ⟨rfl, _, rfl, _, s1, .inl e1, acc ++ [v], _, y5, rfl, g1, n1, by rw [List.length_append, List.length_append, hl]; rfl, fun d hd => ?_, fun h => ?_, by rw [List.append_assoc]; exact hr⟩
      · rcases List.mem_append.mp hd with q | q
        · exact ha d q
        · rw [List.mem_singleton.mp q]; exact pv
      · by_cases q : spot < acc.length
        · rw [List.getElem_append_left q]
          exact hp q
        · rw [List.length_append, List.length_singleton] at h
          have e : acc.length = spot := by omega
          have := pp e
          subst e
          simpa using this)
    (fun _ _ _ _ => rfl) (rngK 0 n) [] [some (.loc b), some (.int (n : Nat)), some (.int (spot : Nat)), some (.loc st.length), none, none] (st ++ [.lst []]) ⟨[], none, none, rfl, K04.Gr.ext (Gr.app _) hb, app_new, rfl, fun _ h => (nomatch h), fun h => absurd h (Nat.not_lt_zero _), rfl⟩
  rw [List.nil_append, rngK_len] at h5
  subst h2
  refine ⟨acc, s', ?_, h5, h6, h7, h3⟩
  have e4 : m__law_paper [some (.loc b), some (.int (n : Nat)), some (.int (spot : Nat)), none, none, none] st = .rt (.tup acc) s' := by
    unfold m__law_paper
    refine seq_nx (ρ1 := [some (.loc b), some (.int (n : Nat)), some (.int (spot : Nat)), some (.loc st.length), none, none]) (st1 := st ++ [.lst []]) (set_ok (lst_ok nil_ok)) ?_
    refine seq_nx (ρ1 := [some (.loc b), some (.int (n : Nat)), some (.int (spot : Nat)), some (.loc st.length), x4, x5]) (st1 := s') ?_ ?_
    · rw [sForR1_ok (j := ((n : Nat) : Int)) (st1 := st ++ [.lst []]) rfl (small_nat (by omega)), rng_k]
      exact h1
    · exact ret_ok (args_ok (cons_ok rfl nil_ok) (gTuple_loc (lstAt_lst h4)))
  exact den_end rfl e4
end K04

set_option Elab.async false
set_option linter.all false
set_option maxRecDepth 100000
set_option maxHeartbeats 4000000
namespace K04
open PySem MP
/-- forms with numbers below B -/
def GForm (B w : Nat) (d : D) : Prop := ∃ es, d = .tup es ∧ es.length = w + 1 ∧ ∀ e ∈ es, Nb B e
theorem HForm.g {w : Nat} {d : D} (h : HForm w d) : GForm (10 ^ 60) w d := by
  obtain ⟨es, e, h1, h2⟩ := h
  exact ⟨es, e, h1, fun x hx => (h2 x hx |>.le (by decide)).nb (by decide)⟩
theorem GForm.le {A B w : Nat} {d : D} (h : GForm A w d) (hb : A ≤ B) : GForm B w d := by
  obtain ⟨es, e, h1, h2⟩ := h
  exact ⟨es, e, h1, fun x hx => (h2 x hx).le hb⟩
theorem to144 (n : Int) : low n 12 = low (12 * n) 144 := (low_scale (g := 12) (q := 12) (by decide)).symm
noncomputable abbrev biB : FS := sIf (fIsB (fBin gNe (fVar 7) (fVar 2))) (sSet 6 (fCall g__law_add (fCons (fVar 6) (fCons (fCall g__law_neg (fCons (fCall g__law_mul (fCons (fBin gIx (fVar 1) (fVar 7)) (fCons (fBin gIx (fBin gIx (fVar 0) (fVar 7)) (fVar 5)) (fNil)))) (fNil))) (fNil))))) (sSkip)
theorem bal_inner {w nf spot k : Nat} {Fs ds : List D} {C Dn x7 : Option D} {s : S} {S0 : Int} (hf : lstAt s nf = some Fs) (hF : ∀ d ∈ Fs, HForm w d) (hd : ∀ d ∈ ds, PEnt d) (hl : ds.length = Fs.length) (h11 : Fs.length ≤ 11) (hk : k < w + 1) (h0 : S0.natAbs ≤ 10 ^ 41) :
    ∃ (S1 : Int) (y7 : Option D), sLoop (fun _ => true) (tgN 7) biB (rngK 0 Fs.length) [some (.loc nf), some (.tup ds), some (.int (spot : Nat)), C, Dn, some (.int (k : Nat)), some (low S0 144), x7] s = .nx [some (.loc nf), some (.tup ds), some (.int (spot : Nat)), C, Dn, some (.int (k : Nat)), some (low S1 144), y7] s ∧ S1.natAbs ≤ 12 * 10 ^ 41 := by
  obtain ⟨ρ', s', h1, S1, y7, h2, h3, h4, h5⟩ := loop_inv (chk := fun _ => true) (t := tgN 7) (body := biB)
    (I := fun don cs ρ s' => ∃ (S1 : Int) (x7 : Option D), ρ = [some (.loc nf), some (.tup ds), some (.int (spot : Nat)), C, Dn, some (.int (k : Nat)), some (low S1 144), x7] ∧ s' = s ∧ S1.natAbs ≤ (don.length + 1) * 10 ^ 41 ∧ don ++ cs = rngK 0 Fs.length)
    (fun don d cs ρ s' ⟨S1, x7, e, es, hS, hr⟩ => by
      subst e es
      obtain ⟨ed, hdl⟩ := rngK_at don d cs 0 _ hr
      rw [Nat.zero_add] at ed
      subst ed
      have i1 : L2.atI ds ((don.length : Nat) : Int) = some (ds[don.length]'(by omega)) := atI_nat (List.getElem?_eq_getElem (by omega))
      have i2 : L2.atI Fs ((don.length : Nat) : Int) = some Fs[don.length] := atI_nat (List.getElem?_eq_getElem hdl)
      obtain ⟨es, ef, e1, e2⟩ := hF Fs[don.length] (List.getElem_mem _)
      rw [ef] at i2
      have i3 : L2.atI es ((k : Nat) : Int) = some (es[k]'(by omega)) := atI_nat (List.getElem?_eq_getElem (by omega))
      have hm := hd (ds[don.length]'(by omega)) (List.getElem_mem _)
      have hx := e2 (es[k]'(by omega)) (List.getElem_mem _)
      have nm := (hm.h12.le (C := B80) (by decide)).nb (by decide)
      have nx := (hx.le (C := B80) (by decide)).nb (by decide)
      have q1 := lmul_nb nm nx s'
      obtain ⟨m, em, m0, m1⟩ := hm
      obtain ⟨x, ex, x1⟩ := hx
      have ep : mulD (ds[don.length]'(by omega)) (es[k]'(by omega)) = low (m * x) 144 := by rw [em, ex, mul_low (by decide) (by decide)]; rfl
      have bp : (m * x).natAbs < 10 ^ 40 := by
        have := natAbs_mul_lt (x := m) (y := x) (A := 10 ^ 9) (B := 10 ^ 31) (by omega) x1
        exact Nat.lt_of_lt_of_le this (by decide)
      have np : Nb B80 (low (m * x) 144) := low_nb (by decide) (Nat.lt_trans bp (by decide)) (by decide)
      have q2 := lneg_nb np s'
      rw [neg_low (by decide)] at q2
      have np2 : Nb B80 (low (-(m * x)) 144) := low_nb (by decide) (by rw [Int.natAbs_neg]; exact Nat.lt_trans bp (by decide)) (by decide)
      have bS : S1.natAbs < 10 ^ 43 := by
        have := congrArg List.length hr
        rw [rngK_len, List.length_append, List.length_cons] at this
        have : (don.length + 1) * 10 ^ 41 ≤ 12 * 10 ^ 41 := Nat.mul_le_mul_right _ (by omega)
        omega
      have nS : Nb B80 (low S1 144) := low_nb (by decide) (Nat.lt_trans bS (by decide)) (by decide)
      have q3 := ladd_nb nS np2 s'
      rw [add_same (by decide)] at q3
      rw [ep] at q1
      by_cases c : (don.length : Int) = (spot : Int)
      · refine ⟨rfl, _, rfl, _, s', .inl (if_f (isb_ok (v := false) (bin_ok rfl rfl (st3 := s') (by simp [c]))) rfl), S1, some (.int (don.length : Nat)), rfl, rfl, ?_, by rw [List.append_assoc]; exact hr⟩
        rw [List.length_append, List.length_singleton]
        exact Nat.le_trans hS (Nat.mul_le_mul_right _ (by omega))
      · refine ⟨rfl, _, rfl, _, s', .inl (if_t (isb_ok (bin_ok rfl rfl (st3 := s') (by simp [c]))) (set_ok (call_ok (cons_ok rfl (cons_ok (call_ok (cons_ok (call_ok (cons_ok (bin_ok rfl rfl (d := ds[don.length]'(by omega)) (st3 := s') (by simp [i1])) (cons_ok (bin_ok (bin_ok rfl rfl (d := .tup es) (st3 := s') (by rw [gIx_loc _ _ hf, i2]; rfl)) rfl (d := es[k]'(by omega)) (st3 := s') (by simp [i3])) nil_ok)) q1) nil_ok) q2) nil_ok)) q3))), S1 + -(m * x), some (.int (don.length : Nat)), rfl, rfl, ?_, by rw [List.append_assoc]; exact hr⟩
        rw [List.length_append, List.length_singleton]
        have a := Int.natAbs_add_le S1 (-(m * x))
        rw [Int.natAbs_neg] at a
        have : (don.length + 1 + 1) * 10 ^ 41 = (don.length + 1) * 10 ^ 41 + 10 ^ 41 := by rw [Nat.add_mul (don.length + 1) 1, Nat.one_mul]
        omega)
    (fun _ _ _ _ => rfl) (rngK 0 Fs.length) [] [some (.loc nf), some (.tup ds), some (.int (spot : Nat)), C, Dn, some (.int (k : Nat)), some (low S0 144), x7] s ⟨S0, x7, rfl, rfl, by simpa using h0, rfl⟩
  subst h2 h3
  refine ⟨S1, y7, h1, ?_⟩
  rw [List.nil_append, rngK_len] at h4
  exact Nat.le_trans h4 (Nat.mul_le_mul_right _ (by omega))
noncomputable def boB : FS := sSeq (sSet 6 (fTup (fCons (fC (.int 0)) (fCons (fC (.int 1)) (fNil)))))
  (sSeq (sIf (fIsB (fBin gEq (fVar 5) (fC (.int 0)))) (sSet 6 (fVar 3)) (sSkip))
  (sSeq (sForR1 (fCons (fArgs gLen (fCons (fVar 0) (fNil))) (fNil)) (tgN 7) biB)
  (sExpr (fLM gAppend (fVar 4) (fCons (fCall g__law_num (fCons (fBin gMul (fBin gIx (fVar 6) (fC (.int 0))) (fBin gIx (fBin gIx (fVar 1) (fVar 2)) (fC (.int 1)))) (fCons (fBin gMul (fBin gIx (fVar 6) (fC (.int 1))) (fBin gIx (fBin gIx (fVar 1) (fVar 2)) (fC (.int 0)))) (fNil)))) (fNil))))))
theorem bo_turn {w nf n spot k : Nat} {Fs ds acc : List D} {c : D} {x5 x6 x7 : Option D} {st s : S} (hf : lstAt s nf = some Fs) (hF : ∀ d ∈ Fs, HForm w d) (hd : ∀ d ∈ ds, PEnt d) (hl : ds.length = Fs.length) (h11 : Fs.length ≤ 11) (hk : k < w + 1) (hs : spot < ds.length) (hp : PPos ds[spot]) (hc : H12 (10 ^ 31) c)
    (hn : s[n]? = some (.lst acc)) (ha : acc.length < 1000) :
    ∃ (v : D) (y6 y7 : Option D), boB [some (.loc nf), some (.tup ds), some (.int (spot : Nat)), some c, some (.loc n), some (.int (k : Nat)), x6, x7] s = .nx [some (.loc nf), some (.tup ds), some (.int (spot : Nat)), some c, some (.loc n), some (.int (k : Nat)), y6, y7] (s.set n (.lst (acc ++ [v]))) ∧ Nb (10 ^ 60) v := by
  obtain ⟨S0, eS, bS⟩ : ∃ S0 : Int, (if (k : Int) = 0 then c else fr 0 1) = low S0 144 ∧ S0.natAbs ≤ 10 ^ 41 := by
    by_cases q : (k : Int) = 0
    · obtain ⟨m, em, hm⟩ := hc
      rw [if_pos q, em, to144]
      exact ⟨_, rfl, by omega⟩
    · rw [if_neg q]
      exact ⟨0, (low_zero (by decide)).symm, by decide⟩
  obtain ⟨S1, y7, e1, b1⟩ := bal_inner (spot := spot) (k := k) (C := some c) (Dn := some (.loc n)) (x7 := x7) hf hF hd hl h11 hk bS
  obtain ⟨g, a, b, hg, q1, q2, hb, hr, e⟩ := low_spec (p := S1) (q := 144) (by decide)
  obtain ⟨m, em, m0, m1⟩ := hp
  obtain ⟨g', x, y, hg', q3, q4, hy, hr', e'⟩ := low_spec (p := m) (q := 12) (by decide)
  have la : a.natAbs ≤ S1.natAbs := by rw [q1, Int.natAbs_mul]; exact Nat.le_mul_of_pos_left _ (by omega)
  have lb : b.natAbs ≤ 144 := by
    have : b.natAbs ≤ (144 : Int).natAbs := by rw [q2, Int.natAbs_mul]; exact Nat.le_mul_of_pos_left _ (by omega)
    exact this
  have lx : x.natAbs ≤ m.natAbs := by rw [q3, Int.natAbs_mul]; exact Nat.le_mul_of_pos_left _ (by omega)
  have ly : y.natAbs ≤ 12 := by
    have : y.natAbs ≤ (12 : Int).natAbs := by rw [q4, Int.natAbs_mul]; exact Nat.le_mul_of_pos_left _ (by omega)
    exact this
  have hx : 0 < x := by
    rcases Int.lt_trichotomy x 0 with h | h | h
    · have := Int.mul_neg_of_pos_of_neg hg' h
      omega
    · subst h
      rw [Int.mul_zero] at q3
      omega
    · exact h
  have t1 : (a * y).natAbs < 10 ^ 60 := Nat.lt_of_lt_of_le (natAbs_mul_lt (A := 10 ^ 43) (B := 13) (by omega) (by omega)) (by decide)
  have t2 : (b * x).natAbs < 10 ^ 60 := Nat.lt_of_lt_of_le (natAbs_mul_lt (A := 145) (B := 10 ^ 9) (by omega) (by omega)) (by decide)
  have bx : 0 < b * x := Int.mul_pos hb hx
  have en := num_pos (p := a * y) (q := b * x) bx (sm_lt (Nat.lt_trans t2 (by decide +kernel))) s
  have ma : MulOk a y := mm (sm_lt (Nat.lt_of_le_of_lt (Nat.le_trans la b1) (by decide +kernel))) (sm_lt (Nat.lt_of_le_of_lt ly (by decide +kernel)))
  have mb : MulOk b x := mm (sm_lt (Nat.lt_of_le_of_lt lb (by decide +kernel))) (sm_lt (Nat.lt_of_le_of_lt (Nat.le_trans lx (show m.natAbs ≤ 10 ^ 9 by omega)) (by decide +kernel)))
  have i1 : L2.atI ds ((spot : Nat) : Int) = some (fr x y) := by
    rw [← e', ← em]
    exact atI_nat (List.getElem?_eq_getElem hs)
  have ln := gLen_loc s hf
  rw [e] at e1
  rw [eS.symm] at e1
  refine ⟨low (a * y) (b * x), some (fr a b), y7, ?_, low_nb bx t1 t2⟩
  unfold boB
  refine seq_nx (ρ1 := [some (.loc nf), some (.tup ds), some (.int (spot : Nat)), some c, some (.loc n), some (.int (k : Nat)), some (fr 0 1), x7]) (st1 := s) (set_ok (tup_ok (cons_ok c_ok (cons_ok c_ok nil_ok)))) ?_
  refine seq_nx (ρ1 := [some (.loc nf), some (.tup ds), some (.int (spot : Nat)), some c, some (.loc n), some (.int (k : Nat)), some (if (k : Int) = 0 then c else fr 0 1), x7]) (st1 := s) ?_ ?_
  · by_cases q : (k : Int) = 0
    · rw [if_pos q]
      exact if_t (isb_ok (bin_ok rfl c_ok (st3 := s) (by simp [q]))) (set_ok rfl)
    · rw [if_neg q]
      have q' : ¬ k = 0 := by omega
      exact if_f (isb_ok (v := false) (bin_ok rfl c_ok (st3 := s) (by simp [q']))) rfl
  refine seq_nx (ρ1 := [some (.loc nf), some (.tup ds), some (.int (spot : Nat)), some c, some (.loc n), some (.int (k : Nat)), some (fr a b), y7]) (st1 := s) ?_ ?_
  · rw [sForR1_ok (j := ((Fs.length : Nat) : Int)) (st1 := s) (cons_ok (args_ok (cons_ok rfl nil_ok) ln) nil_ok) (small_nat (by omega)), rng_k]
    exact e1
  have ps : ∀ d s', (fBin gIx (fBin gIx (fVar 1) (fVar 2)) (fC d)) [some (.loc nf), some (.tup ds), some (.int (spot : Nat)), some c, some (.loc n), some (.int (k : Nat)), some (fr a b), y7] s' = ofO (gIx (fr x y) d s') := fun d s' => by simp [i1]
  have a1 : (fBin gMul (fBin gIx (fVar 6) (fC (.int 0))) (fBin gIx (fBin gIx (fVar 1) (fVar 2)) (fC (.int 1)))) [some (.loc nf), some (.tup ds), some (.int (spot : Nat)), some c, some (.loc n), some (.int (k : Nat)), some (fr a b), y7] s = .ok (.int (a * y)) s :=
    bin_ok (bin_ok rfl c_ok (d := .int a) (st3 := s) (by simp)) ((ps _ _).trans (show ofO (gIx (fr x y) (.int 1) s) = Out.ok (.int y) s by simp)) (by simp [ma])
  have a2 : (fBin gMul (fBin gIx (fVar 6) (fC (.int 1))) (fBin gIx (fBin gIx (fVar 1) (fVar 2)) (fC (.int 0)))) [some (.loc nf), some (.tup ds), some (.int (spot : Nat)), some c, some (.loc n), some (.int (k : Nat)), some (fr a b), y7] s = .ok (.int (b * x)) s :=
    bin_ok (bin_ok rfl c_ok (d := .int b) (st3 := s) (by simp)) ((ps _ _).trans (show ofO (gIx (fr x y) (.int 0) s) = Out.ok (.int x) s by simp)) (by simp [mb])
  exact app_ok (st1 := s) rfl (lstAt_lst hn) (call_ok (cons_ok a1 (cons_ok a2 nil_ok)) en) hn (short (by omega))
theorem bal_ok {w nf spot : Nat} {Fs ds : List D} {c : D} {st : S} (hf : st[nf]? = some (.lst Fs)) (hF : ∀ d ∈ Fs, HForm w d) (hd : ∀ d ∈ ds, PEnt d) (hl : ds.length = Fs.length) (h11 : Fs.length ≤ 11) (hw : w ≤ 100) (hs : spot < ds.length) (hp : PPos ds[spot]) (hc : H12 (10 ^ 31) c) :
    ∃ (n : Nat) (Gs : List D) (s' : S), g__law_balanced [.loc nf, .tup ds, .int (spot : Nat), c] st = .ok (.loc n) s' ∧ Gr st s' ∧ st.length ≤ n ∧ s'[n]? = some (.lst Gs) ∧ Gs.length = Fs.length ∧ ∀ d ∈ Gs, GForm (10 ^ 60) w d := by
  obtain ⟨ρ', s1, h1, acc, x5, x6, x7, h2, h3, h4, h5, h6, h7⟩ := loop_inv (chk := fun _ => true) (t := tgN 5) (body := boB)
    (I := fun don cs ρ s => ∃ (acc : List D) (x5 x6 x7 : Option D), ρ = [some (.loc nf), some (.tup ds), some (.int (spot : Nat)), some c, some (.loc st.length), x5, x6, x7] ∧ Gr st s ∧ s[st.length]? = some (.lst acc) ∧ acc.length = don.length ∧ (∀ d ∈ acc, Nb (10 ^ 60) d) ∧ don ++ cs = rngK 0 (w + 1))
    (fun don d cs ρ s ⟨acc, x5, x6, x7, e, g, hn, ha, hv, hr⟩ => by
      subst e
      obtain ⟨ed, hdl⟩ := rngK_at don d cs 0 _ hr
      rw [Nat.zero_add] at ed
      subst ed
      obtain ⟨v, y6, y7, e1, b1⟩ := bo_turn (x5 := x5) (x6 := x6) (x7 := x7) (st := st) (g.lst (lstAt_lst hf)) hF hd hl h11 hdl hs hp hc hn (by omega)
      refine ⟨rfl, _, rfl, _, _, .inl e1, acc ++ [v], _, y6, y7, rfl, g.wr (Nat.le_refl _), set_at (lt_of_at hn), by rw [List.length_append, List.length_append, ha]; rfl, fun d hd => ?_, by rw [List.append_assoc]; exact hr⟩
      rcases List.mem_append.mp hd with q | q
      · exact hv d q
      · rw [List.mem_singleton.mp q]; exact b1)
    (fun _ _ _ _ => rfl) (rngK 0 (w + 1)) [] [some (.loc nf), some (.tup ds), some (.int (spot : Nat)), some c, some (.loc st.length), none, none, none] (st ++ [.lst []]) ⟨[], none, none, none, rfl, Gr.app _, app_new, rfl, fun _ h => (nomatch h), rfl⟩
  rw [List.nil_append, rngK_len] at h5
  subst h2
  have hsF : spot < Fs.length := by omega
  obtain ⟨es, ef, el, eh⟩ := hF Fs[spot] (List.getElem_mem _)
  have f1 := h3.lst (lstAt_lst hf)
  have c1 : cutD Fs none (some ((spot : Nat) : Int)) = Fs.take spot := cut_take
  have g1 := gSl_loc (lo := none) (hi := some ((spot : Nat) : Int)) f1
  rw [c1] at g1
  have n2 : (s1 ++ [Ob.lst (Fs.take spot)])[st.length]? = some (.lst acc) := app_at h4 _
  have gt := gTuple_loc (lstAt_lst n2)
  have k1 : (s1 ++ [Ob.lst (Fs.take spot)] ++ [Ob.lst [.tup acc]])[s1.length]? = some (.lst (Fs.take spot)) := app_at app_new _
  have k2 : (s1 ++ [Ob.lst (Fs.take spot)] ++ [Ob.lst [.tup acc]])[(s1 ++ [Ob.lst (Fs.take spot)]).length]? = some (.lst [.tup acc]) := app_new
  have ga := gAdd_loc k1 k2 (by
    have : sizeLine = 16777216 := sizeLine_eq
    rw [List.length_take, List.length_singleton]; omega)
  generalize hs2 : s1 ++ [Ob.lst (Fs.take spot)] ++ [Ob.lst [.tup acc]] = s2 at ga k1 k2
  have gr2 : Gr s1 s2 := by rw [← hs2, List.append_assoc]; exact Gr.app _
  have f3 : lstAt (s2 ++ [Ob.lst (Fs.take spot ++ [.tup acc])]) nf = some Fs := (gr2.trans (Gr.app _)).lst f1
  have g3 := gSl_loc (lo := some (((spot + 1 : Nat)) : Int)) (hi := none) f3
  rw [cut_drop] at g3
  generalize hs3 : s2 ++ [Ob.lst (Fs.take spot ++ [.tup acc])] = s3 at f3 g3
  have gr3 : Gr s2 s3 := by rw [← hs3]; exact Gr.app _
  have k3 : (s3 ++ [Ob.lst (Fs.drop (spot + 1))])[s2.length]? = some (.lst (Fs.take spot ++ [.tup acc])) := by rw [← hs3]; exact app_at app_new _
  have k4 : (s3 ++ [Ob.lst (Fs.drop (spot + 1))])[s3.length]? = some (.lst (Fs.drop (spot + 1))) := app_new
  have gb := gAdd_loc k3 k4 (by
    have : sizeLine = 16777216 := sizeLine_eq
    rw [List.length_append, List.length_take, List.length_singleton, List.length_drop]; omega)
  generalize hs4 : s3 ++ [Ob.lst (Fs.drop (spot + 1))] = s4 at gb
  have gr4 : Gr s3 s4 := by rw [← hs4]; exact Gr.app _
  have gx : Gr s1 s4 := (gr2.trans gr3).trans gr4
  refine ⟨s4.length, Fs.take spot ++ [.tup acc] ++ Fs.drop (spot + 1), s4 ++ [.lst (Fs.take spot ++ [.tup acc] ++ Fs.drop (spot + 1))], ?_, (h3.trans gx).trans (Gr.app _), (h3.trans gx).len, app_new, ?_, fun d hd => ?_⟩
  · have e4 : m__law_balanced [some (.loc nf), some (.tup ds), some (.int (spot : Nat)), some c, none, none, none, none] st = .rt (.loc s4.length) (s4 ++ [.lst (Fs.take spot ++ [.tup acc] ++ Fs.drop (spot + 1))]) := by
      unfold m__law_balanced
      refine seq_nx (ρ1 := [some (.loc nf), some (.tup ds), some (.int (spot : Nat)), some c, some (.loc st.length), none, none, none]) (st1 := st ++ [.lst []]) (set_ok (lst_ok nil_ok)) ?_
      refine seq_nx (ρ1 := [some (.loc nf), some (.tup ds), some (.int (spot : Nat)), some c, some (.loc st.length), x5, x6, x7]) (st1 := s1) ?_ ?_
      · have f0 := (Gr.app (s := st) [.lst []]).lst (lstAt_lst hf)
        have i1 : L2.atI Fs ((spot : Nat) : Int) = some (.tup es) := by rw [← ef]; exact atI_nat (List.getElem?_eq_getElem hsF)
        show (sForR1 _ (tgN 5) boB) _ _ = _
        rw [sForR1_ok (j := ((w + 1 : Nat) : Int)) (st1 := st ++ [.lst []]) (cons_ok (args_ok (cons_ok (bin_ok rfl rfl (d := .tup es) (st3 := st ++ [.lst []]) (by rw [gIx_loc _ _ f0, i1]; rfl)) nil_ok) (by rw [gLen_tup, el])) nil_ok) (small_nat (by omega)), rng_k]
        exact h1
      · have b1 : (fSl gSl (fVar 0) (fNo) (fPart (fVar 2))) [some (.loc nf), some (.tup ds), some (.int (spot : Nat)), some c, some (.loc st.length), x5, x6, x7] s1 = .ok (.loc s1.length) (s1 ++ [Ob.lst (Fs.take spot)]) := by
          rw [fSl_ap, v_ok (d := .loc nf) rfl, Out.bind_ok]
          show (Out.bind (.ok none s1) fun l st2 => Out.bind ((fPart (fVar 2)) [some (.loc nf), some (.tup ds), some (.int (spot : Nat)), some c, some (.loc st.length), x5, x6, x7] st2) fun u st3 => ofO (gSl (.loc nf) l u st3)) = _
          rw [Out.bind_ok]
          show (Out.bind (.ok (some ((spot : Nat) : Int)) s1) fun u st3 => ofO (gSl (.loc nf) none u st3)) = _
          rw [Out.bind_ok, g1]
          rfl
        have b3 : (fSl gSl (fVar 0) (fPart (fBin gAdd (fVar 2) (fC (.int 1)))) (fNo)) [some (.loc nf), some (.tup ds), some (.int (spot : Nat)), some c, some (.loc st.length), x5, x6, x7] s3 = .ok (.loc s3.length) s4 := by
          rw [fSl_ap, v_ok (d := .loc nf) rfl, Out.bind_ok]
          show (Out.bind (.ok (some (((spot : Nat) : Int) + 1)) s3) fun l st2 => Out.bind (.ok none st2) fun u st3 => ofO (gSl (.loc nf) l u st3)) = _
          rw [Out.bind_ok, Out.bind_ok]
          rw [← hs4]
          show ofO (gSl (.loc nf) (some (((spot + 1 : Nat)) : Int)) none s3) = _
          rw [g3]
          rfl
        exact ret_ok (bin_ok (bin_ok b1 (lst_ok (cons_ok (args_ok (cons_ok rfl nil_ok) gt) nil_ok)) (by rw [hs2]; exact ga)) (by rw [hs3]; exact b3) gb)
    exact den_end rfl e4
  · rw [List.length_append, List.length_append, List.length_take, List.length_singleton, List.length_drop]
    omega
  · rcases List.mem_append.mp hd with q | q
    · rcases List.mem_append.mp q with q | q
      · exact (hF d (List.mem_of_mem_take q)).g
      · rw [List.mem_singleton.mp q]
        exact ⟨acc, rfl, h5, h6⟩
    · exact (hF d (List.mem_of_mem_drop q)).g
end K04

set_option Elab.async false
set_option linter.all false
set_option maxRecDepth 100000
set_option maxHeartbeats 4000000
namespace K04
open PySem MP
theorem fD_lay {w : Nat} {f : Fac} (h : FOk w f) : Lay 3 (fD f) := lay_tup (k := 2) fun d hd => by
  rcases List.mem_cons.mp hd with e | e
  · rw [e]; exact lay_tup (k := 1) fun x hx => (h.nb x hx).lay
  · rw [List.mem_singleton.mp e]; exact lay_bl _ _
/-- lists stay lists -/
def Ls (s s' : S) : Prop := ∀ n, (∃ xs, lstAt s n = some xs) → ∃ xs, lstAt s' n = some xs
theorem Ls.trans {a b c : S} (h : Ls a b) (g : Ls b c) : Ls a c := fun n x => g n (h n x)
theorem Ext.ls {b : Nat} {s s' : S} (h : Ext b s s') : Ls s s' := fun n ⟨xs, hx⟩ => by
  by_cases q : n = b
  · subst q
    obtain ⟨c, i, g, f, t, cells, e, _⟩ := h.bag
    exact ⟨_, lstAt_lst e⟩
  · exact ⟨xs, h.lst q hx⟩
theorem set_ls {s : S} {n : Nat} {xs : List D} : Ls s (s.set n (.lst xs)) := fun m ⟨ys, hy⟩ => by
  have hm : m < s.length := by
    rcases lstAt_of hy with e | e <;> exact lt_of_at e
  by_cases q : m = n
  · subst q
    exact ⟨xs, lstAt_lst (set_at hm)⟩
  · refine ⟨ys, ?_⟩
    unfold lstAt at hy ⊢
    rw [set_ne q]
    exact hy
theorem Gr.ls {s s' : S} (h : Gr s s') : Ls s s' := fun n ⟨xs, hx⟩ => ⟨xs, h.lst hx⟩
theorem Ent.ls {s s' : S} {d : D} (h : Ent s d) (g : Ls s s') : Ent s' d := by
  cases d with
  | loc n => exact g n h
  | tup es =>
    match es, h with
    | [], h => trivial
    | [x], h => trivial
    | x :: y :: z :: r, h => trivial
    | [x, y], h => exact h
  | _ => trivial
theorem EPap.ls {s s' : S} {x : D} (h : EPap s x) (g : Ls s s') : EPap s' x := by
  cases x with
  | loc n => exact g n h
  | tup ds => exact ⟨h.1, fun d hd => (h.2.1 d hd).ls g, h.2.2⟩
  | _ => trivial
theorem answers_ok {w b nf : Nat} {p : D} {F : List Fac} {st : S} (hb : Bag st b) (hf : lstAt st nf = some (F.map fD)) (hnb : nf ≠ b) (hF : ∀ f ∈ F, FOk w f) (hl : F.length ≤ 12) (hw : w ≤ 100) (hp : EPap st p) :
    ∃ st', g__law_answers [.loc b, .loc nf, .int (w : Nat), p] st = .ok (.bl true) st' ∧ Ext b st st' := by
  have ly : ∀ d ∈ F.map fD, Lay 3 d := fun d hd => by obtain ⟨f, h, rfl⟩ := List.mem_map.mp hd; exact fD_lay (hF f h)
  have gl := gList_loc hf
  have lb := hb.lt
  have x0 : Ext b st (st ++ [Ob.lst (F.map fD)]) := K04.Gr.ext (Gr.app _) hb
  obtain ⟨r, s1, e1, r0, r1, x1⟩ := take_ok x0.bag (m := 2) (by decide) (by decide)
  have hn1 : lstAt s1 st.length = some (F.map fD) := lstAt_lst (x1.keep _ _ (by omega) app_new)
  have hf1 : lstAt s1 nf = some (F.map fD) := x1.lst hnb (x0.lst hnb hf)
  have hp1 : EPap s1 p := hp.ls ((x0.trans x1).ls)
  obtain ⟨s2, e2, g2⟩ : ∃ s2, (sIf (fIsB (fBin gEq (fCall g__law_take (fCons (fVar 0) (fCons (fC (.int 2)) (fNil)))) (fC (.int 1)))) (sSet 5 (fCall g_shows_empty (fCons (fArgs gTuple (fCons (fVar 1) (fNil))) (fCons (fVar 2) (fCons (fVar 3) (fNil)))))) (sSet 5 (fCall g_shows_empty (fCons (fVar 4) (fCons (fVar 2) (fCons (fVar 3) (fNil))))))) [some (.loc b), some (.loc nf), some (.int (w : Nat)), some p, some (.loc st.length), none] (st ++ [Ob.lst (F.map fD)]) = .nx [some (.loc b), some (.loc nf), some (.int (w : Nat)), some p, some (.loc st.length), some (.bl (resB w F p))] s2 ∧ Gr s1 s2 := by
    by_cases c : r = 1
    · obtain ⟨s2, e2, g2⟩ := prog_ok (X := .tup (F.map fD)) (st := s1) (.inl rfl) hF hl hw hp1
      exact ⟨s2, if_t (isb_ok (bin_ok (call_ok (cons_ok rfl (cons_ok rfl nil_ok)) e1) c_ok (st3 := s1) (by simp [c]))) (set_ok (call_ok (cons_ok (args_ok (cons_ok rfl nil_ok) (gTuple_loc hf1)) (cons_ok rfl (cons_ok rfl nil_ok))) e2)), g2⟩
    · obtain ⟨s2, e2, g2⟩ := prog_ok (X := .loc st.length) (st := s1) (.inr ⟨_, rfl, hn1⟩) hF hl hw hp1
      exact ⟨s2, if_f (isb_ok (v := false) (bin_ok (call_ok (cons_ok rfl (cons_ok rfl nil_ok)) e1) c_ok (st3 := s1) (by simp [c]))) (set_ok (call_ok (cons_ok rfl (cons_ok rfl (cons_ok rfl nil_ok))) e2)), g2⟩
  obtain ⟨s3, e3, g3⟩ := law_shows_ok (g2.lst hf1) hF hl hw (hp1.gr g2)
  refine ⟨s3, ?_, ((x0.trans x1).gr g2).gr g3⟩
  have e4 : m__law_answers [some (.loc b), some (.loc nf), some (.int (w : Nat)), some p, none, none] st = .rt (.bl true) s3 := by
    unfold m__law_answers
    refine seq_nx (ρ1 := [some (.loc b), some (.loc nf), some (.int (w : Nat)), some p, some (.loc st.length), none]) (st1 := st ++ [Ob.lst (F.map fD)]) (set_ok (args_ok (cons_ok rfl nil_ok) gl)) ?_
    refine seq_nx e2 ?_
    refine seq_nx (ρ1 := [some (.loc b), some (.loc nf), some (.int (w : Nat)), some p, some (.loc st.length), some (.bl (resB w F p))]) (st1 := s2) (if_f (or_f (not_ok (v := true) (tru_ok (un_ok rfl (by simp)))) (isb_ok (v := false) (bin_ok rfl rfl (gNe_loc (g2.lst hn1) (g2.lst hf1) ly (by decide))))) rfl) ?_
    exact ret_ok (bin_ok rfl (call_ok (cons_ok rfl (cons_ok rfl (cons_ok rfl nil_ok))) e3) (by rw [gEq_bls]; simp))
  exact den_end rfl e4
/-! ### opposite -/
theorem opp_ok {w : Nat} {f : Fac} (h : FOk w f) (hw : w ≤ 100) (st : S) : ∃ st', g_opposite [fD f] st = .ok (fD (f.1.map negD, !f.2)) st' ∧ Gr st st' := by
  obtain ⟨s1, e1, g1⟩ := form_times_ok (x := fr (-1) 1) h.nb (int_nb (by decide) (by decide)) (by have := h.len; omega) st
  rw [show f.1.map (mulD · (fr (-1) 1)) = f.1.map negD from List.map_congr_left fun d hd => mul_neg1 (h.nb d hd)] at e1
  refine ⟨s1, ?_, g1⟩
  have e4 : m_opposite [some (fD f), none, none] st = .rt (fD (f.1.map negD, !f.2)) s1 := by
    unfold m_opposite
    refine seq_nx (ρ1 := [some (fD f), some (.tup f.1), some (.bl f.2)]) (st1 := st) rfl ?_
    refine ret_ok (tup_ok (cons_ok (call_ok (cons_ok rfl (cons_ok (tup_ok (cons_ok (un_ok c_ok (d := .int (-1)) (st2 := st) rfl) (cons_ok c_ok nil_ok))) nil_ok)) e1) (cons_ok ?_ nil_ok)))
    simp
  exact den_end rfl e4
theorem neg_fok {w : Nat} {f : Fac} (h : FOk w f) (b : Bool) : FOk w (f.1.map negD, b) := ⟨by rw [List.length_map]; exact h.len, fun d hd => by
  obtain ⟨x, hx, rfl⟩ := List.mem_map.mp hd
  exact neg_nb (h.nb x hx)⟩
end K04

set_option Elab.async false
set_option linter.all false
set_option maxRecDepth 100000
set_option maxHeartbeats 4000000
namespace K04
open PySem MP
theorem andv_t {a b : FE} {ρ : En} {st st1 : S} {o : Out D} (h1 : a ρ st = .ok (.bl true) st1) (h2 : b ρ st1 = o) : fAndV a b ρ st = o := by
  simp [h1, h2]
theorem andv_f {a b : FE} {ρ : En} {st st1 : S} (h1 : a ρ st = .ok (.bl false) st1) : fAndV a b ρ st = .ok (.bl false) st1 := by
  simp [h1]
theorem law_opposite_ok {w b : Nat} {f : Fac} {st : S} (hb : Bag st b) (h : FOk w f) (hw : w ≤ 100) : ∃ st', g__law_opposite [.loc b, fD f, .int (w : Nat)] st = .ok (.bl true) st' ∧ Ext b st st' := by
  obtain ⟨s1, e1, g1⟩ := opp_ok h hw st
  have hn : FOk w (f.1.map negD, !f.2) := neg_fok h _
  have hlen : f.1.length ≤ 1000 := by have := h.len; omega
  have x1 : Ext b st s1 := K04.Gr.ext g1 hb
  have e2 := fLc_map (own := [6]) (fi := fSeq (fBin gIx (fVar 1) (fC (.int 0)))) (g := tgN 6) (fe := fCall g__law_neg (fCons (fVar 6) (fNil))) (ρ := [some (.loc b), some (fD f), some (.int (w : Nat)), some (fD (f.1.map negD, !f.2)), none, none, none]) (st := s1) (st1 := s1) (ds := f.1) (chk := fun _ => true) (F := negD)
    (by simp [fD]) (short hlen) (fun _ => rfl) (fun d hd xs => ⟨_, rfl, call_ok (cons_ok rfl nil_ok) (lneg_nb (h.nb d hd) _)⟩)
  have x2 : Ext b st (s1 ++ [Ob.lst (f.1.map negD)]) := x1.gr (Gr.app _)
  generalize hs2 : s1 ++ [Ob.lst (f.1.map negD)] = s2 at e2 x2
  have n2 : s2[s1.length]? = some (.lst (f.1.map negD)) := by rw [← hs2]; exact app_new
  have e3 := fLc_map (own := [6]) (fi := fSeq (fBin gIx (fVar 3) (fC (.int 0)))) (g := tgN 6) (fe := fCall g__law_is_number (fCons (fVar 6) (fNil))) (ρ := [some (.loc b), some (fD f), some (.int (w : Nat)), some (fD (f.1.map negD, !f.2)), some (fD (f.1.map negD, !f.2)), none, none]) (st := s2) (st1 := s2) (ds := f.1.map negD) (chk := fun _ => true) (F := fun d => .bl (numB d))
    (by simp [fD]) (short (by rw [List.length_map]; exact hlen)) (fun _ => rfl) (fun d hd xs => ⟨_, rfl, call_ok (cons_ok rfl nil_ok) (lis_number_ok (nb_ent (hn.nb d hd) _))⟩)
  have x3 : Ext b st (s2 ++ [Ob.lst ((f.1.map negD).map fun d => .bl (numB d))]) := x2.gr (Gr.app _)
  have a3 := gAll_loc (lstAt_lst (app_new (st := s2) (o := .lst ((f.1.map negD).map fun d => .bl (numB d))))) (bols_map numB (f.1.map negD))
  rw [all_map, show (f.1.map negD).all numB = true from List.all_eq_true.mpr fun d hd => numB_nb (hn.nb d hd)] at a3
  generalize hs3 : s2 ++ [Ob.lst ((f.1.map negD).map fun d => .bl (numB d))] = s3 at e3 x3 a3
  have ly : ∀ d ∈ [D.tup (f.1.map negD), D.bl (!f.2)], Lay 2 d := fun d hd => by
    rcases List.mem_cons.mp hd with e | e
    · rw [e]; exact lay_tup (k := 1) fun x hx => (hn.nb x hx).lay
    · rw [List.mem_singleton.mp e]; exact lay_bl _ _
  have ep : ∀ s, EPap s (.tup [fr 1 1, fr 1 1]) := fun s => ⟨by decide, fun d hd => by
    rcases List.mem_cons.mp hd with e | e
    · rw [e]; exact ⟨trivial, trivial⟩
    · rw [List.mem_singleton.mp e]; exact ⟨trivial, trivial⟩, fun d hd _ => by
    rcases List.mem_cons.mp hd with e | e
    · rw [e]; exact int_nb (by decide) (by decide)
    · rw [List.mem_singleton.mp e]; exact int_nb (by decide) (by decide)⟩
  have step : ∀ (F : List Fac) (p : D) (s : S), Ext b st s → (∀ g ∈ F, FOk w g) → F.length ≤ 12 → EPap (s ++ [Ob.lst (F.map fD)]) p → ∃ s', g__law_answers [.loc b, .loc s.length, .int (w : Nat), p] (s ++ [Ob.lst (F.map fD)]) = .ok (.bl true) s' ∧ Ext b st s' := fun F p s x hF hl hp => by
    have xa : Ext b st (s ++ [Ob.lst (F.map fD)]) := x.gr (Gr.app _)
    have := x.bag.lt
    obtain ⟨s', e, x'⟩ := answers_ok (nf := s.length) xa.bag (lstAt_lst app_new) (by omega) hF hl hw hp
    exact ⟨s', e, xa.trans x'⟩
  have two : ∀ g1 g2 : Fac, FOk w g1 → FOk w g2 → ∀ g ∈ [g1, g2], FOk w g := fun g1 g2 a1 a2 g hg => by
    rcases List.mem_cons.mp hg with e | e
    · rw [e]; exact a1
    · rw [List.mem_singleton.mp e]; exact a2
  obtain ⟨s4, e4, x4⟩ := step [f, (f.1.map negD, !f.2)] _ s3 x3 (two _ _ h hn) (show 2 ≤ 12 by decide) (ep _)
  obtain ⟨s5, e5, x5⟩ := step [(f.1.map negD, !f.2), f] _ s4 x4 (two _ _ hn h) (show 2 ≤ 12 by decide) (ep _)
  obtain ⟨s6, e6, x6⟩ := step [f, f] _ s5 x5 (two _ _ h h) (show 2 ≤ 12 by decide) (ep _)
  obtain ⟨s7, e7, x7⟩ := step [] (.tup []) s6 x6 (fun _ h => (nomatch h)) (by decide) ⟨by decide, fun _ h => (nomatch h), fun _ h => (nomatch h)⟩
  refine ⟨s7, ?_, x7⟩
  have z : m__law_opposite [some (.loc b), some (fD f), some (.int (w : Nat)), none, none, none, none] st = .rt (.bl true) s7 := by
    unfold m__law_opposite
    refine seq_nx (ρ1 := [some (.loc b), some (fD f), some (.int (w : Nat)), some (fD (f.1.map negD, !f.2)), none, none, none]) (st1 := s1) (set_ok (call_ok (cons_ok rfl nil_ok) e1)) ?_
    refine seq_nx (ρ1 := [some (.loc b), some (fD f), some (.int (w : Nat)), some (fD (f.1.map negD, !f.2)), some (fD (f.1.map negD, !f.2)), none, none]) (st1 := s2) (set_ok (tup_ok (cons_ok (args_ok (cons_ok e2 nil_ok) (gTuple_loc (lstAt_lst n2))) (cons_ok (d := .bl (!f.2)) (st1 := s2) (by simp [fD]) nil_ok)))) ?_
    refine seq_nx (ρ1 := [some (.loc b), some (fD f), some (.int (w : Nat)), some (fD (f.1.map negD, !f.2)), some (fD (f.1.map negD, !f.2)), none, none]) (st1 := s2) (if_f (or_f (not_ok (v := true) (tru_ok (un_ok rfl (by simp [fD])))) (isb_ok (v := false) (bin_ok (args_ok (cons_ok rfl nil_ok) (d := .int 2) (st2 := s2) rfl) c_ok (st3 := s2) (by simp)))) rfl) ?_
    refine seq_nx (ρ1 := [some (.loc b), some (fD f), some (.int (w : Nat)), some (fD (f.1.map negD, !f.2)), some (fD (f.1.map negD, !f.2)), none, none]) (st1 := s2) (if_f (or_f (not_ok (v := true) (tru_ok (un_ok (bin_ok rfl c_ok (d := .tup (f.1.map negD)) (st3 := s2) (by simp [fD])) (st2 := s2) (by simp)))) (not_ok (v := true) (tru_ok (un_ok (bin_ok rfl c_ok (d := .bl (!f.2)) (st3 := s2) (by simp [fD])) (st2 := s2) (by simp))))) rfl) ?_
    refine seq_nx (ρ1 := [some (.loc b), some (fD f), some (.int (w : Nat)), some (fD (f.1.map negD, !f.2)), some (fD (f.1.map negD, !f.2)), none, none]) (st1 := s3) (if_f (or_f (not_ok (v := true) (tru_ok (args_ok (cons_ok e3 nil_ok) a3))) (isb_ok (v := false) (bin_ok rfl rfl (gNe_tup ly (by decide))))) rfl) ?_
    refine seq_nx (ρ1 := [some (.loc b), some (fD f), some (.int (w : Nat)), some (fD (f.1.map negD, !f.2)), some (fD (f.1.map negD, !f.2)), some (.tup [fr 1 1, fr 1 1]), none]) (st1 := s3) (set_ok (tup_ok (cons_ok (tup_ok (cons_ok c_ok (cons_ok c_ok nil_ok))) (cons_ok (tup_ok (cons_ok c_ok (cons_ok c_ok nil_ok))) nil_ok)))) ?_
    refine seq_nx (ifn2_ok (call_ok (cons_ok rfl (cons_ok (lst_ok (cons_ok rfl (cons_ok rfl nil_ok))) (cons_ok rfl (cons_ok rfl nil_ok)))) e4) (call_ok (cons_ok rfl (cons_ok (lst_ok (cons_ok rfl (cons_ok rfl nil_ok))) (cons_ok rfl (cons_ok rfl nil_ok)))) e5)) ?_
    exact ret_ok (andv_t (call_ok (cons_ok rfl (cons_ok (lst_ok (cons_ok rfl (cons_ok rfl nil_ok))) (cons_ok rfl (cons_ok rfl nil_ok)))) e6) (call_ok (cons_ok rfl (cons_ok (lst_ok nil_ok) (cons_ok rfl (cons_ok (tup_ok nil_ok) nil_ok)))) e7))
  exact den_end rfl z
end K04

set_option Elab.async false
set_option linter.all false
set_option maxRecDepth 100000
set_option maxHeartbeats 4000000
namespace K04
open PySem MP
theorem gEq_f {i j : Int} (h : i ≠ j) (st : S) : gEq (.int i) (.int j) st = some (.bl false, st) := by rw [gEq_int, decide_eq_false h]
theorem gEq_t (i : Int) (st : S) : gEq (.int i) (.int i) st = some (.bl true, st) := by rw [gEq_int, decide_eq_true rfl]
structure Bad (w : Nat) (v : D) : Prop where
  e : EFact v
  f : factB w v = false
  l : Lay 4 v
theorem ef_two {x y : D} (h1 : EForm x) (h2 : notLoc y) : EFact (.tup [x, y]) := ⟨h1, h2⟩
theorem lay_two {k : Nat} {x y : D} (h1 : Lay k x) (h2 : Lay k y) : Lay (k + 1) (.tup [x, y]) := lay_tup fun d hd => by
  rcases List.mem_cons.mp hd with e | e
  · rw [e]; exact h1
  · rw [List.mem_singleton.mp e]; exact h2
theorem form_lay {w : Nat} {f : Fac} (h : FOk w f) : Lay 2 (.tup f.1) := lay_tup fun d hd => (h.nb d hd).lay
theorem form_e {w : Nat} {f : Fac} (h : FOk w f) (hw : w ≤ 100) : EForm (.tup f.1) := ⟨by have := h.len; omega, fun d hd s => nb_ent (h.nb d hd) s⟩
theorem cut_last {xs : List D} : cutD xs none (some (-1)) = xs.take (xs.length - 1) := by
  unfold cutD
  rw [HT.sIx_none, List.drop_zero, Nat.sub_zero]
  have : HT.sIx xs.length xs.length (some (-1)) = xs.length - 1 := by
    show (if (-1 : Int) < 0 then (-1 + (xs.length : Int)).toNat else min (-1 : Int).toNat xs.length) = _
    rw [if_pos (by decide)]
    omega
  rw [this]
theorem bad_form {w : Nat} {f : Fac} {ys : List D} (h : EForm (.tup ys)) (hn : ys.length ≠ w + 1) (hl : Lay 3 (.tup ys)) : Bad w (.tup [.tup ys, .bl f.2]) :=
  ⟨ef_two h trivial, by simp [factB, formB, hn], lay_two hl (lay_bl _ _)⟩
theorem bad_odd {w k : Nat} {f : Fac} {o : D} (h : FOk w f) (hw : w ≤ 100) (he : ∀ s, Ent s o) (ho : numB o = false) (hl : Lay 1 o) : Bad w (.tup [.tup (f.1.take k ++ [o] ++ f.1.drop (k + 1)), .bl f.2]) := by
  have hm : ∀ d ∈ f.1.take k ++ [o] ++ f.1.drop (k + 1), d = o ∨ d ∈ f.1 := fun d hd => by
    rcases List.mem_append.mp hd with q | q
    · rcases List.mem_append.mp q with q | q
      · exact .inr (List.mem_of_mem_take q)
      · exact .inl (List.mem_singleton.mp q)
    · exact .inr (List.mem_of_mem_drop q)
  refine ⟨ef_two ⟨?_, fun d hd s => ?_⟩ trivial, ?_, lay_two (lay_tup (k := 2) fun d hd => ?_) (lay_bl _ _)⟩
  · have := h.len
    rw [List.length_append, List.length_append, List.length_take, List.length_singleton, List.length_drop]
    omega
  · rcases hm d hd with q | q
    · rw [q]; exact he s
    · exact nb_ent (h.nb d q) s
  · have : (f.1.take k ++ [o] ++ f.1.drop (k + 1)).all numB = false := by
      rw [List.all_append, List.all_append]
      simp [ho]
    unfold factB formB
    simp only [this, Bool.and_false, Bool.false_and]
  · rcases hm d hd with q | q
    · rw [q]; exact hl.le (by decide)
    · exact ((h.nb d q).lay).le (by decide)
def odds : List D := [fr 2 2, fr 1 0, fr 1 (-1), .int 3, .tup [.bl true, .int 1]]
theorem odd_ok : ∀ o ∈ odds, (∀ s, Ent s o) ∧ numB o = false ∧ Lay 1 o := by
  intro o ho
  have : o = fr 2 2 ∨ o = fr 1 0 ∨ o = fr 1 (-1) ∨ o = .int 3 ∨ o = .tup [.bl true, .int 1] := by simpa [odds] using ho
  rcases this with e | e | e | e | e <;> rw [e]
  · exact ⟨fun s => ⟨trivial, trivial⟩, by decide, lay_fr _ _⟩
  · exact ⟨fun s => ⟨trivial, trivial⟩, by decide, lay_fr _ _⟩
  · exact ⟨fun s => ⟨trivial, trivial⟩, by decide, lay_fr _ _⟩
  · exact ⟨fun s => trivial, rfl, lay_int _ _⟩
  · exact ⟨fun s => ⟨trivial, trivial⟩, rfl, lay_two (lay_bl _ 0) (lay_int _ 0)⟩
theorem sumlen {a b : Nat} (h : a + b ≤ 3000) : a + b ≤ sizeLine := by
  have : sizeLine = 16777216 := sizeLine_eq
  omega
theorem odds_get {B W F K T x : Option D} {s : S} (q : Nat) (o : D) {wy : Int} (hw : wy - 8 = (q : Int)) (h : odds[q]? = some o) : (fBin gIx (fLst (fCons (fTup (fCons (fC (.int 2)) (fCons (fC (.int 2)) (fNil)))) (fCons (fTup (fCons (fC (.int 1)) (fCons (fC (.int 0)) (fNil)))) (fCons (fTup (fCons (fC (.int 1)) (fCons (fUn gNeg (fC (.int 1))) (fNil)))) (fCons (fC (.int 3)) (fCons (fTup (fCons (fC (.bl true)) (fCons (fC (.int 1)) (fNil)))) (fNil))))))) (fBin gSub (fVar 5) (fC (.int 8)))) [B, W, F, K, T, some (.int wy), x] s = .ok o (s ++ [.lst odds]) := by
  refine bin_ok (lst_ok (ds := odds) (cons_ok (tup_ok (cons_ok c_ok (cons_ok c_ok nil_ok))) (cons_ok (tup_ok (cons_ok c_ok (cons_ok c_ok nil_ok))) (cons_ok (tup_ok (cons_ok c_ok (cons_ok (un_ok c_ok (d := .int (-1)) (st2 := s) rfl) nil_ok))) (cons_ok c_ok (cons_ok (tup_ok (cons_ok c_ok (cons_ok c_ok nil_ok))) nil_ok)))))) (bin_ok (v_ok rfl) c_ok (d := .int (q : Int)) (st3 := s ++ [.lst odds]) (by rw [← hw]; rfl)) ?_
  rw [gIx_loc _ _ (lstAt_lst app_new), atI_nat h]
  rfl
theorem odd_ret {w k : Nat} {f : Fac} {o : D} {B W : Option D} {wy : Option D} {s : S} (hl : f.1.length = w + 1) (hw : w ≤ 100) : sRet (fTup (fCons (fBin gAdd (fBin gAdd (fSl gSl (fVar 2) (fNo) (fPart (fVar 3))) (fTup (fCons (fVar 6) (fNil)))) (fSl gSl (fVar 2) (fPart (fBin gAdd (fVar 3) (fC (.int 1)))) (fNo))) (fCons (fVar 4) (fNil)))) [B, W, some (.tup f.1), some (.int (k : Int)), some (.bl f.2), wy, some o] s = .rt (.tup [.tup (f.1.take k ++ [o] ++ f.1.drop (k + 1)), .bl f.2]) s := by
  have b1 : (fSl gSl (fVar 2) (fNo) (fPart (fVar 3))) [B, W, some (.tup f.1), some (.int (k : Int)), some (.bl f.2), wy, some o] s = .ok (.tup (f.1.take k)) s := by rw [← cut_take]; rfl
  have b2 : (fSl gSl (fVar 2) (fPart (fBin gAdd (fVar 3) (fC (.int 1)))) (fNo)) [B, W, some (.tup f.1), some (.int (k : Int)), some (.bl f.2), wy, some o] s = .ok (.tup (f.1.drop (k + 1))) s := by rw [← cut_drop]; rfl
  refine ret_ok (tup_ok (cons_ok (bin_ok (bin_ok b1 (tup_ok (cons_ok rfl nil_ok)) (d := .tup (f.1.take k ++ [o])) (st3 := s) ?_) b2 (d := .tup (f.1.take k ++ [o] ++ f.1.drop (k + 1))) (st3 := s) ?_) (cons_ok rfl nil_ok)))
  · rw [gAdd_tup, if_pos (sumlen (by rw [List.length_take, List.length_singleton]; omega))]
  · rw [gAdd_tup, if_pos (sumlen (by rw [List.length_append, List.length_take, List.length_singleton, List.length_drop]; omega))]
theorem spoilt_ok {w b : Nat} {f : Fac} {st : S} (hb : Bag st b) (h : FOk w f) (hw : w ≤ 100) : ∃ v st', g__law_spoilt [.loc b, fD f] st = .ok v st' ∧ Bad w v ∧ Ext b st st' := by
  have hl := h.len
  obtain ⟨kk, s1, e1, k0, k1, x1⟩ := take_ok hb (m := (f.1.length : Int)) (by omega) (divok_small (by omega) (Nat.lt_of_lt_of_le (show (f.1.length : Int).natAbs < 2 ^ 10 by omega) (Nat.pow_le_pow_right (by decide) (by decide))))
  obtain ⟨k, rfl⟩ : ∃ k : Nat, kk = (k : Int) := ⟨kk.toNat, by omega⟩
  obtain ⟨way, s2, e2, w0, w1, x2⟩ := take_ok x1.bag (m := 13) (by decide) (by decide)
  have x : Ext b st s2 := x1.trans x2
  have pre : ∀ (o : SO) (wy : Int), way = wy → (sSeq (sIf (fIsB (fBin gEq (fVar 5) (fC (.int 0)))) (sRet (fC .non)) (sSkip)) (sSeq (sIf (fIsB (fBin gEq (fVar 5) (fC (.int 1)))) (sRet (fTup (fCons (fVar 2) (fNil)))) (sSkip))
  (sSeq (sIf (fIsB (fBin gEq (fVar 5) (fC (.int 2)))) (sRet (fTup (fCons (fSl gSl (fVar 2) (fNo) (fPart (fUn gNeg (fC (.int 1))))) (fCons (fVar 4) (fNil))))) (sSkip))
  (sSeq (sIf (fIsB (fBin gEq (fVar 5) (fC (.int 3)))) (sRet (fTup (fCons (fBin gAdd (fVar 2) (fTup (fCons (fTup (fCons (fC (.int 0)) (fCons (fC (.int 1)) (fNil)))) (fNil)))) (fCons (fVar 4) (fNil))))) (sSkip))
  (sSeq (sIf (fIsB (fBin gEq (fVar 5) (fC (.int 4)))) (sRet (fTup (fCons (fVar 2) (fCons (fC .non) (fNil))))) (sSkip))
  (sSeq (sIf (fIsB (fBin gEq (fVar 5) (fC (.int 5)))) (sRet (fTup (fCons (fVar 2) (fCons (fVar 4) (fCons (fVar 4) (fNil)))))) (sSkip))
  (sSeq (sIf (fIsB (fBin gEq (fVar 5) (fC (.int 6)))) (sRet (fTup (fCons (fC .non) (fCons (fVar 4) (fNil))))) (sSkip))
  (sSeq (sIf (fIsB (fBin gEq (fVar 5) (fC (.int 7)))) (sRet (fC (.int 7))) (sSkip))
  (sSeq (sSet 6 (fBin gIx (fLst (fCons (fTup (fCons (fC (.int 2)) (fCons (fC (.int 2)) (fNil)))) (fCons (fTup (fCons (fC (.int 1)) (fCons (fC (.int 0)) (fNil)))) (fCons (fTup (fCons (fC (.int 1)) (fCons (fUn gNeg (fC (.int 1))) (fNil)))) (fCons (fC (.int 3)) (fCons (fTup (fCons (fC (.bl true)) (fCons (fC (.int 1)) (fNil)))) (fNil))))))) (fBin gSub (fVar 5) (fC (.int 8)))))
  (sRet (fTup (fCons (fBin gAdd (fBin gAdd (fSl gSl (fVar 2) (fNo) (fPart (fVar 3))) (fTup (fCons (fVar 6) (fNil)))) (fSl gSl (fVar 2) (fPart (fBin gAdd (fVar 3) (fC (.int 1)))) (fNo))) (fCons (fVar 4) (fNil)))))))))))))) [some (.loc b), some (fD f), some (.tup f.1), some (.int (k : Int)), some (.bl f.2), some (.int wy), none] s2 = o → m__law_spoilt [some (.loc b), some (fD f), none, none, none, none, none] st = o := fun o wy hy ho => by
    subst hy
    unfold m__law_spoilt
    refine seq_nx (ρ1 := [some (.loc b), some (fD f), some (.tup f.1), none, none, none, none]) (st1 := st) (set_ok (bin_ok rfl c_ok (by simp [fD]))) ?_
    refine seq_nx (ρ1 := [some (.loc b), some (fD f), some (.tup f.1), some (.int (k : Int)), none, none, none]) (st1 := s1) (set_ok (call_ok (cons_ok rfl (cons_ok (args_ok (cons_ok rfl nil_ok) (gLen_tup ..)) nil_ok)) e1)) ?_
    refine seq_nx (ρ1 := [some (.loc b), some (fD f), some (.tup f.1), some (.int (k : Int)), some (.bl f.2), none, none]) (st1 := s1) (set_ok (bin_ok rfl c_ok (by simp [fD]))) ?_
    exact seq_nx (ρ1 := [some (.loc b), some (fD f), some (.tup f.1), some (.int (k : Int)), some (.bl f.2), some (.int way), none]) (st1 := s2) (set_ok (call_ok (cons_ok rfl (cons_ok rfl nil_ok)) e2)) ho
  have nbf : ∀ d ∈ f.1, ∀ s, Ent s d := fun d hd s => nb_ent (h.nb d hd) s
  have hc : way = 0 ∨ way = 1 ∨ way = 2 ∨ way = 3 ∨ way = 4 ∨ way = 5 ∨ way = 6 ∨ way = 7 ∨ way = 8 ∨ way = 9 ∨ way = 10 ∨ way = 11 ∨ way = 12 := by omega
  rcases hc with hc | hc | hc | hc | hc | hc | hc | hc | hc | hc | hc | hc | hc
  · refine ⟨.non, s2, den_end rfl (pre _ 0 hc ?_), ⟨trivial, rfl, lay_non _⟩, x⟩
    exact seq_rt (if_t (isb_ok (bin_ok (v_ok rfl) c_ok (gEq_t _ _))) (ret_ok c_ok))
  · refine ⟨.tup [.tup f.1], s2, den_end rfl (pre _ 1 hc ?_), ⟨trivial, rfl, lay_tup (k := 3) fun d hd => by rw [List.mem_singleton.mp hd]; exact (form_lay h).le (by decide)⟩, x⟩
    refine seq_nx (if_f (isb_ok (v := false) (bin_ok (v_ok rfl) c_ok (gEq_f (by decide) _))) rfl) ?_
    exact seq_rt (if_t (isb_ok (bin_ok (v_ok rfl) c_ok (gEq_t _ _))) (ret_ok (tup_ok (cons_ok rfl nil_ok))))
  · refine ⟨.tup [.tup (f.1.take (f.1.length - 1)), .bl f.2], s2, den_end rfl (pre _ 2 hc ?_), bad_form ⟨by rw [List.length_take]; omega, fun d hd s => nbf d (List.mem_of_mem_take hd) s⟩ (by rw [List.length_take]; omega) (lay_tup (k := 2) fun d hd => ((h.nb d (List.mem_of_mem_take hd)).lay).le (by decide)), x⟩
    refine seq_nx (if_f (isb_ok (v := false) (bin_ok (v_ok rfl) c_ok (gEq_f (by decide) _))) rfl) ?_
    refine seq_nx (if_f (isb_ok (v := false) (bin_ok (v_ok rfl) c_ok (gEq_f (by decide) _))) rfl) ?_
    exact seq_rt (if_t (isb_ok (bin_ok (v_ok rfl) c_ok (gEq_t _ _))) (ret_ok (tup_ok (cons_ok (d := .tup (f.1.take (f.1.length - 1))) (st1 := s2) (by rw [← cut_last]; rfl) (cons_ok rfl nil_ok)))))
  · refine ⟨.tup [.tup (f.1 ++ [fr 0 1]), .bl f.2], s2, den_end rfl (pre _ 3 hc ?_), bad_form ⟨by rw [List.length_append, List.length_singleton]; omega, fun d hd s => by
      rcases List.mem_append.mp hd with q | q
      · exact nbf d q s
      · rw [List.mem_singleton.mp q]; exact ⟨trivial, trivial⟩⟩ (by rw [List.length_append, List.length_singleton]; omega) (lay_tup (k := 2) fun d hd => by
      rcases List.mem_append.mp hd with q | q
      · exact ((h.nb d q).lay).le (by decide)
      · rw [List.mem_singleton.mp q]; exact (lay_fr _ _).le (by decide)), x⟩
    refine seq_nx (if_f (isb_ok (v := false) (bin_ok (v_ok rfl) c_ok (gEq_f (by decide) _))) rfl) ?_
    refine seq_nx (if_f (isb_ok (v := false) (bin_ok (v_ok rfl) c_ok (gEq_f (by decide) _))) rfl) ?_
    refine seq_nx (if_f (isb_ok (v := false) (bin_ok (v_ok rfl) c_ok (gEq_f (by decide) _))) rfl) ?_
    exact seq_rt (if_t (isb_ok (bin_ok (v_ok rfl) c_ok (gEq_t _ _))) (ret_ok (tup_ok (cons_ok (bin_ok rfl (tup_ok (cons_ok (tup_ok (cons_ok c_ok (cons_ok c_ok nil_ok))) nil_ok)) (d := .tup (f.1 ++ [fr 0 1])) (st3 := s2) (by rw [gAdd_tup, if_pos (sumlen (by rw [List.length_singleton]; omega))])) (cons_ok rfl nil_ok)))))
  · refine ⟨.tup [.tup f.1, .non], s2, den_end rfl (pre _ 4 hc ?_), ⟨ef_two (form_e h hw) trivial, by simp [factB, isBl], lay_two ((form_lay h).le (by decide)) (lay_non _)⟩, x⟩
    refine seq_nx (if_f (isb_ok (v := false) (bin_ok (v_ok rfl) c_ok (gEq_f (by decide) _))) rfl) ?_
    refine seq_nx (if_f (isb_ok (v := false) (bin_ok (v_ok rfl) c_ok (gEq_f (by decide) _))) rfl) ?_
    refine seq_nx (if_f (isb_ok (v := false) (bin_ok (v_ok rfl) c_ok (gEq_f (by decide) _))) rfl) ?_
    refine seq_nx (if_f (isb_ok (v := false) (bin_ok (v_ok rfl) c_ok (gEq_f (by decide) _))) rfl) ?_
    exact seq_rt (if_t (isb_ok (bin_ok (v_ok rfl) c_ok (gEq_t _ _))) (ret_ok (tup_ok (cons_ok rfl (cons_ok c_ok nil_ok)))))
  · refine ⟨.tup [.tup f.1, .bl f.2, .bl f.2], s2, den_end rfl (pre _ 5 hc ?_), ⟨trivial, rfl, lay_tup (k := 3) fun d hd => by
      have : d = .tup f.1 ∨ d = .bl f.2 := by simpa using hd
      rcases this with q | q
      · rw [q]; exact (form_lay h).le (by decide)
      · rw [q]; exact lay_bl _ _⟩, x⟩
    refine seq_nx (if_f (isb_ok (v := false) (bin_ok (v_ok rfl) c_ok (gEq_f (by decide) _))) rfl) ?_
    refine seq_nx (if_f (isb_ok (v := false) (bin_ok (v_ok rfl) c_ok (gEq_f (by decide) _))) rfl) ?_
    refine seq_nx (if_f (isb_ok (v := false) (bin_ok (v_ok rfl) c_ok (gEq_f (by decide) _))) rfl) ?_
    refine seq_nx (if_f (isb_ok (v := false) (bin_ok (v_ok rfl) c_ok (gEq_f (by decide) _))) rfl) ?_
    refine seq_nx (if_f (isb_ok (v := false) (bin_ok (v_ok rfl) c_ok (gEq_f (by decide) _))) rfl) ?_
    exact seq_rt (if_t (isb_ok (bin_ok (v_ok rfl) c_ok (gEq_t _ _))) (ret_ok (tup_ok (cons_ok rfl (cons_ok rfl (cons_ok rfl nil_ok))))))
  · refine ⟨.tup [.non, .bl f.2], s2, den_end rfl (pre _ 6 hc ?_), ⟨ef_two trivial trivial, rfl, lay_two (lay_non _) (lay_bl _ _)⟩, x⟩
    refine seq_nx (if_f (isb_ok (v := false) (bin_ok (v_ok rfl) c_ok (gEq_f (by decide) _))) rfl) ?_
    refine seq_nx (if_f (isb_ok (v := false) (bin_ok (v_ok rfl) c_ok (gEq_f (by decide) _))) rfl) ?_
    refine seq_nx (if_f (isb_ok (v := false) (bin_ok (v_ok rfl) c_ok (gEq_f (by decide) _))) rfl) ?_
    refine seq_nx (if_f (isb_ok (v := false) (bin_ok (v_ok rfl) c_ok (gEq_f (by decide) _))) rfl) ?_
    refine seq_nx (if_f (isb_ok (v := false) (bin_ok (v_ok rfl) c_ok (gEq_f (by decide) _))) rfl) ?_
    refine seq_nx (if_f (isb_ok (v := false) (bin_ok (v_ok rfl) c_ok (gEq_f (by decide) _))) rfl) ?_
    exact seq_rt (if_t (isb_ok (bin_ok (v_ok rfl) c_ok (gEq_t _ _))) (ret_ok (tup_ok (cons_ok c_ok (cons_ok rfl nil_ok)))))
  · refine ⟨.int 7, s2, den_end rfl (pre _ 7 hc ?_), ⟨trivial, rfl, lay_int _ _⟩, x⟩
    refine seq_nx (if_f (isb_ok (v := false) (bin_ok (v_ok rfl) c_ok (gEq_f (by decide) _))) rfl) ?_
    refine seq_nx (if_f (isb_ok (v := false) (bin_ok (v_ok rfl) c_ok (gEq_f (by decide) _))) rfl) ?_
    refine seq_nx (if_f (isb_ok (v := false) (bin_ok (v_ok rfl) c_ok (gEq_f (by decide) _))) rfl) ?_
    refine seq_nx (if_f (isb_ok (v := false) (bin_ok (v_ok rfl) c_ok (gEq_f (by decide) _))) rfl) ?_
    refine seq_nx (if_f (isb_ok (v := false) (bin_ok (v_ok rfl) c_ok (gEq_f (by decide) _))) rfl) ?_
    refine seq_nx (if_f (isb_ok (v := false) (bin_ok (v_ok rfl) c_ok (gEq_f (by decide) _))) rfl) ?_
    refine seq_nx (if_f (isb_ok (v := false) (bin_ok (v_ok rfl) c_ok (gEq_f (by decide) _))) rfl) ?_
    exact seq_rt (if_t (isb_ok (bin_ok (v_ok rfl) c_ok (gEq_t _ _))) (ret_ok c_ok))
  · refine ⟨.tup [.tup (f.1.take k ++ [fr 2 2] ++ f.1.drop (k + 1)), .bl f.2], s2 ++ [.lst odds], den_end rfl (pre _ 8 hc ?_), bad_odd h hw (odd_ok (fr 2 2) (by simp [odds])).1 (odd_ok (fr 2 2) (by simp [odds])).2.1 (odd_ok (fr 2 2) (by simp [odds])).2.2, x.gr (Gr.app _)⟩
    refine seq_nx (if_f (isb_ok (v := false) (bin_ok (v_ok rfl) c_ok (gEq_f (by decide) _))) rfl) ?_
    refine seq_nx (if_f (isb_ok (v := false) (bin_ok (v_ok rfl) c_ok (gEq_f (by decide) _))) rfl) ?_
    refine seq_nx (if_f (isb_ok (v := false) (bin_ok (v_ok rfl) c_ok (gEq_f (by decide) _))) rfl) ?_
    refine seq_nx (if_f (isb_ok (v := false) (bin_ok (v_ok rfl) c_ok (gEq_f (by decide) _))) rfl) ?_
    refine seq_nx (if_f (isb_ok (v := false) (bin_ok (v_ok rfl) c_ok (gEq_f (by decide) _))) rfl) ?_
    refine seq_nx (if_f (isb_ok (v := false) (bin_ok (v_ok rfl) c_ok (gEq_f (by decide) _))) rfl) ?_
    refine seq_nx (if_f (isb_ok (v := false) (bin_ok (v_ok rfl) c_ok (gEq_f (by decide) _))) rfl) ?_
    refine seq_nx (if_f (isb_ok (v := false) (bin_ok (v_ok rfl) c_ok (gEq_f (by decide) _))) rfl) ?_
    refine seq_nx (ρ1 := [some (.loc b), some (fD f), some (.tup f.1), some (.int (k : Int)), some (.bl f.2), some (.int 8), some (fr 2 2)]) (st1 := s2 ++ [.lst odds]) (set_ok (odds_get 0 (fr 2 2) rfl rfl)) ?_
    have z := odd_ret (w := w) (k := k) (f := f) (o := fr 2 2) (B := some (.loc b)) (W := some (fD f)) (wy := some (.int 8)) (s := s2 ++ [.lst odds]) hl hw
    clear pre
    refine z.trans ?_
    rfl
  · refine ⟨.tup [.tup (f.1.take k ++ [fr 1 0] ++ f.1.drop (k + 1)), .bl f.2], s2 ++ [.lst odds], den_end rfl (pre _ 9 hc ?_), bad_odd h hw (odd_ok (fr 1 0) (by simp [odds])).1 (odd_ok (fr 1 0) (by simp [odds])).2.1 (odd_ok (fr 1 0) (by simp [odds])).2.2, x.gr (Gr.app _)⟩
    refine seq_nx (if_f (isb_ok (v := false) (bin_ok (v_ok rfl) c_ok (gEq_f (by decide) _))) rfl) ?_
    refine seq_nx (if_f (isb_ok (v := false) (bin_ok (v_ok rfl) c_ok (gEq_f (by decide) _))) rfl) ?_
    refine seq_nx (if_f (isb_ok (v := false) (bin_ok (v_ok rfl) c_ok (gEq_f (by decide) _))) rfl) ?_
    refine seq_nx (if_f (isb_ok (v := false) (bin_ok (v_ok rfl) c_ok (gEq_f (by decide) _))) rfl) ?_
    refine seq_nx (if_f (isb_ok (v := false) (bin_ok (v_ok rfl) c_ok (gEq_f (by decide) _))) rfl) ?_
    refine seq_nx (if_f (isb_ok (v := false) (bin_ok (v_ok rfl) c_ok (gEq_f (by decide) _))) rfl) ?_
    refine seq_nx (if_f (isb_ok (v := false) (bin_ok (v_ok rfl) c_ok (gEq_f (by decide) _))) rfl) ?_
    refine seq_nx (if_f (isb_ok (v := false) (bin_ok (v_ok rfl) c_ok (gEq_f (by decide) _))) rfl) ?_
    refine seq_nx (ρ1 := [some (.loc b), some (fD f), some (.tup f.1), some (.int (k : Int)), some (.bl f.2), some (.int 9), some (fr 1 0)]) (st1 := s2 ++ [.lst odds]) (set_ok (odds_get 1 (fr 1 0) rfl rfl)) ?_
    have z := odd_ret (w := w) (k := k) (f := f) (o := fr 1 0) (B := some (.loc b)) (W := some (fD f)) (wy := some (.int 9)) (s := s2 ++ [.lst odds]) hl hw
    clear pre
    refine z.trans ?_
    rfl
  · refine ⟨.tup [.tup (f.1.take k ++ [fr 1 (-1)] ++ f.1.drop (k + 1)), .bl f.2], s2 ++ [.lst odds], den_end rfl (pre _ 10 hc ?_), bad_odd h hw (odd_ok (fr 1 (-1)) (by simp [odds])).1 (odd_ok (fr 1 (-1)) (by simp [odds])).2.1 (odd_ok (fr 1 (-1)) (by simp [odds])).2.2, x.gr (Gr.app _)⟩
    refine seq_nx (if_f (isb_ok (v := false) (bin_ok (v_ok rfl) c_ok (gEq_f (by decide) _))) rfl) ?_
    refine seq_nx (if_f (isb_ok (v := false) (bin_ok (v_ok rfl) c_ok (gEq_f (by decide) _))) rfl) ?_
    refine seq_nx (if_f (isb_ok (v := false) (bin_ok (v_ok rfl) c_ok (gEq_f (by decide) _))) rfl) ?_
    refine seq_nx (if_f (isb_ok (v := false) (bin_ok (v_ok rfl) c_ok (gEq_f (by decide) _))) rfl) ?_
    refine seq_nx (if_f (isb_ok (v := false) (bin_ok (v_ok rfl) c_ok (gEq_f (by decide) _))) rfl) ?_
    refine seq_nx (if_f (isb_ok (v := false) (bin_ok (v_ok rfl) c_ok (gEq_f (by decide) _))) rfl) ?_
    refine seq_nx (if_f (isb_ok (v := false) (bin_ok (v_ok rfl) c_ok (gEq_f (by decide) _))) rfl) ?_
    refine seq_nx (if_f (isb_ok (v := false) (bin_ok (v_ok rfl) c_ok (gEq_f (by decide) _))) rfl) ?_
    refine seq_nx (ρ1 := [some (.loc b), some (fD f), some (.tup f.1), some (.int (k : Int)), some (.bl f.2), some (.int 10), some (fr 1 (-1))]) (st1 := s2 ++ [.lst odds]) (set_ok (odds_get 2 (fr 1 (-1)) rfl rfl)) ?_
    have z := odd_ret (w := w) (k := k) (f := f) (o := fr 1 (-1)) (B := some (.loc b)) (W := some (fD f)) (wy := some (.int 10)) (s := s2 ++ [.lst odds]) hl hw
    clear pre
    refine z.trans ?_
    rfl
  · refine ⟨.tup [.tup (f.1.take k ++ [.int 3] ++ f.1.drop (k + 1)), .bl f.2], s2 ++ [.lst odds], den_end rfl (pre _ 11 hc ?_), bad_odd h hw (odd_ok (.int 3) (by simp [odds])).1 (odd_ok (.int 3) (by simp [odds])).2.1 (odd_ok (.int 3) (by simp [odds])).2.2, x.gr (Gr.app _)⟩
    refine seq_nx (if_f (isb_ok (v := false) (bin_ok (v_ok rfl) c_ok (gEq_f (by decide) _))) rfl) ?_
    refine seq_nx (if_f (isb_ok (v := false) (bin_ok (v_ok rfl) c_ok (gEq_f (by decide) _))) rfl) ?_
    refine seq_nx (if_f (isb_ok (v := false) (bin_ok (v_ok rfl) c_ok (gEq_f (by decide) _))) rfl) ?_
    refine seq_nx (if_f (isb_ok (v := false) (bin_ok (v_ok rfl) c_ok (gEq_f (by decide) _))) rfl) ?_
    refine seq_nx (if_f (isb_ok (v := false) (bin_ok (v_ok rfl) c_ok (gEq_f (by decide) _))) rfl) ?_
    refine seq_nx (if_f (isb_ok (v := false) (bin_ok (v_ok rfl) c_ok (gEq_f (by decide) _))) rfl) ?_
    refine seq_nx (if_f (isb_ok (v := false) (bin_ok (v_ok rfl) c_ok (gEq_f (by decide) _))) rfl) ?_
    refine seq_nx (if_f (isb_ok (v := false) (bin_ok (v_ok rfl) c_ok (gEq_f (by decide) _))) rfl) ?_
    refine seq_nx (ρ1 := [some (.loc b), some (fD f), some (.tup f.1), some (.int (k : Int)), some (.bl f.2), some (.int 11), some (.int 3)]) (st1 := s2 ++ [.lst odds]) (set_ok (odds_get 3 (.int 3) rfl rfl)) ?_
    have z := odd_ret (w := w) (k := k) (f := f) (o := .int 3) (B := some (.loc b)) (W := some (fD f)) (wy := some (.int 11)) (s := s2 ++ [.lst odds]) hl hw
    clear pre
    refine z.trans ?_
    rfl
  · refine ⟨.tup [.tup (f.1.take k ++ [.tup [.bl true, .int 1]] ++ f.1.drop (k + 1)), .bl f.2], s2 ++ [.lst odds], den_end rfl (pre _ 12 hc ?_), bad_odd h hw (odd_ok (.tup [.bl true, .int 1]) (by simp [odds])).1 (odd_ok (.tup [.bl true, .int 1]) (by simp [odds])).2.1 (odd_ok (.tup [.bl true, .int 1]) (by simp [odds])).2.2, x.gr (Gr.app _)⟩
    refine seq_nx (if_f (isb_ok (v := false) (bin_ok (v_ok rfl) c_ok (gEq_f (by decide) _))) rfl) ?_
    refine seq_nx (if_f (isb_ok (v := false) (bin_ok (v_ok rfl) c_ok (gEq_f (by decide) _))) rfl) ?_
    refine seq_nx (if_f (isb_ok (v := false) (bin_ok (v_ok rfl) c_ok (gEq_f (by decide) _))) rfl) ?_
    refine seq_nx (if_f (isb_ok (v := false) (bin_ok (v_ok rfl) c_ok (gEq_f (by decide) _))) rfl) ?_
    refine seq_nx (if_f (isb_ok (v := false) (bin_ok (v_ok rfl) c_ok (gEq_f (by decide) _))) rfl) ?_
    refine seq_nx (if_f (isb_ok (v := false) (bin_ok (v_ok rfl) c_ok (gEq_f (by decide) _))) rfl) ?_
    refine seq_nx (if_f (isb_ok (v := false) (bin_ok (v_ok rfl) c_ok (gEq_f (by decide) _))) rfl) ?_
    refine seq_nx (if_f (isb_ok (v := false) (bin_ok (v_ok rfl) c_ok (gEq_f (by decide) _))) rfl) ?_
    refine seq_nx (ρ1 := [some (.loc b), some (fD f), some (.tup f.1), some (.int (k : Int)), some (.bl f.2), some (.int 12), some (.tup [.bl true, .int 1])]) (st1 := s2 ++ [.lst odds]) (set_ok (odds_get 4 (.tup [.bl true, .int 1]) rfl rfl)) ?_
    have z := odd_ret (w := w) (k := k) (f := f) (o := .tup [.bl true, .int 1]) (B := some (.loc b)) (W := some (fD f)) (wy := some (.int 12)) (s := s2 ++ [.lst odds]) hl hw
    clear pre
    refine z.trans ?_
    rfl
end K04

set_option Elab.async false
set_option linter.all false
set_option maxRecDepth 100000
set_option maxHeartbeats 4000000
namespace K04
open PySem MP
abbrev BF : Str := "BadFacts"
theorem f1 : tx_FitError.lookup BF = some true := by decide +kernel
theorem f2 : ti_BadFacts.lookup BF = some true := by decide +kernel
theorem f3 : ti_ValueError.lookup BF = some true := by decide +kernel
theorem f4 : ti_BadForm.lookup BF = some false := by decide +kernel
theorem f5 : ti_EmptyRegion.lookup BF = some false := by decide +kernel
theorem f6 : BF ∈ cs_index := by decide +kernel
theorem f7 (d : D) : [(("index" : Str), d)].lookup ("index" : Str) = some d := by simp
theorem shows_bad {X p : D} {w : Nat} {st s : S} {e : Ex} (h : g_check_region [X, .int (w : Nat)] st = .exc e s) : g_shows_empty [X, .int (w : Nat), p] st = .exc e s := by
  unfold g_shows_empty arN
  rw [if_pos (show [X, D.int (w : Nat), p].length = 3 from rfl), den_ap]
  show (m_shows_empty [some X, some (.int (w : Nat)), some p, none, none, none, none, none, none, none] st).out = _
  unfold m_shows_empty
  have ex : (sExpr (fCall g_check_region (fCons (fVar 0) (fCons (fVar 1) (fNil))))) [some X, some (.int (w : Nat)), some p, none, none, none, none, none, none, none] st = .ex e [some X, some (.int (w : Nat)), some p, none, none, none, none, none, none, none] s := by
    rw [sExpr_ap, fCall_ap, show (fCons (fVar 0) (fCons (fVar 1) (fNil))) [some X, some (.int (w : Nat)), some p, none, none, none, none, none, none, none] st = .ok [X, .int (w : Nat)] st from cons_ok rfl (cons_ok rfl nil_ok), Out.bind_ok, h]
    rfl
  rw [sSeq_ap, ex, then_ex, out_ex]
noncomputable abbrev spB : FS := sStore (fVar 6) (fVar 7) (fCall g__law_spoilt (fCons (fVar 0) (fCons (fBin gIx (fVar 1) (fVar 7)) (fNil))))
theorem sp_turn {w b nf nb i : Nat} {F : List Fac} {Bs : List D} {W P x4 x5 x8 x9 x10 : Option D} {s : S} (hb : Bag s b) (hf : lstAt s nf = some (F.map fD)) (hF : ∀ f ∈ F, FOk w f) (hw : w ≤ 100) (hi : i < F.length) (hn : s[nb]? = some (.lst Bs)) (hnb : nb ≠ b) (hl : Bs.length = F.length) :
    ∃ v s', spB [some (.loc b), some (.loc nf), W, P, x4, x5, some (.loc nb), some (.int (i : Nat)), x8, x9, x10] s = .nx [some (.loc b), some (.loc nf), W, P, x4, x5, some (.loc nb), some (.int (i : Nat)), x8, x9, x10] (s'.set nb (.lst (Bs.set i v))) ∧ Bad w v ∧ Ext b s s' ∧ s'[nb]? = some (.lst Bs) := by
  have i1 : L2.atI (F.map fD) ((i : Nat) : Int) = some (fD F[i]) := atI_nat (by simp [hi])
  obtain ⟨v, s1, e1, bv, x1⟩ := spoilt_ok hb (hF F[i] (List.getElem_mem _)) hw
  have n1 := x1.keep nb _ hnb hn
  have gs := gStore_loc (d := v) (k := ((i : Nat) : Int)) (j := i) n1 (by
    unfold L2.ixN
    rw [if_pos (by omega), if_pos (by omega)]
    simp)
  refine ⟨v, s1, ?_, bv, x1, n1⟩
  have ev : (fCall g__law_spoilt (fCons (fVar 0) (fCons (fBin gIx (fVar 1) (fVar 7)) (fNil)))) [some (.loc b), some (.loc nf), W, P, x4, x5, some (.loc nb), some (.int (i : Nat)), x8, x9, x10] s = .ok v s1 :=
    call_ok (cons_ok rfl (cons_ok (bin_ok rfl rfl (d := fD F[i]) (st3 := s) (by rw [gIx_loc _ _ hf, i1]; rfl)) nil_ok)) e1
  unfold spB
  rw [sStore_ap, ev]
  simp only [Out.so_ok, fVar_ap, List.getElem?_cons_succ, List.getElem?_cons_zero, gs]
noncomputable def trB : FS := sTryAs 10 tx_FitError (sExpr (fCall g_shows_empty (fCons (fVar 6) (fCons (fVar 2) (fCons (fVar 8) (fNil)))))) (fun e k => sSeq (sIf (fOr (fNot (fTru (fIsX k e ti_BadFacts (fVar 10)))) (fNot (fTru (fIsX k e ti_ValueError (fVar 10))))) (sRet (fC (.bl false))) (sSkip))
  (sSeq (sIf (fOr (fTru (fIsX k e ti_BadForm (fVar 10))) (fTru (fIsX k e ti_EmptyRegion (fVar 10)))) (sRet (fC (.bl false))) (sSkip))
  (sRet (fAndV (fCall g__law_is_int (fCons (fXf k e cs_index ("index" : Str) (fVar 10)) (fNil))) (fAndV (fBin gEq (fXf k e cs_index ("index" : Str) (fVar 10)) (fVar 4)) (fBin gEq (fVar 6) (fVar 9)))))))
theorem tr_ok {w nb nk i : Nat} {Cs : List D} {B Fv P x5 x7 : Option D} {th : D} {s : S} (hn : lstAt s nb = some Cs) (hk : lstAt s nk = some Cs) (he : ∀ d ∈ Cs, EFact d) (hl : ∀ d ∈ Cs, Lay 4 d) (hbad : fbad w Cs = some i) :
    ∃ s', trB [B, Fv, some (.int (w : Nat)), P, some (.int (i : Nat)), x5, some (.loc nb), x7, some th, some (.loc nk), none] s = .rt (.bl true) s' ∧ Gr s s' := by
  obtain ⟨s1, e1, g1⟩ := check_bad (w := w) (X := .loc nb) (.inr ⟨_, rfl, hn⟩) he hbad
  have e2 := shows_bad (p := th) e1
  have e3 : (sExpr (fCall g_shows_empty (fCons (fVar 6) (fCons (fVar 2) (fCons (fVar 8) (fNil)))))) [B, Fv, some (.int (w : Nat)), P, some (.int (i : Nat)), x5, some (.loc nb), x7, some th, some (.loc nk), none] s = .ex ⟨BF, s1.length⟩ [B, Fv, some (.int (w : Nat)), P, some (.int (i : Nat)), x5, some (.loc nb), x7, some th, some (.loc nk), none] (s1 ++ [.xd [(("index" : Str), .int (i : Nat))]]) := by
    rw [sExpr_ap, fCall_ap, show (fCons (fVar 6) (fCons (fVar 2) (fCons (fVar 8) (fNil)))) [B, Fv, some (.int (w : Nat)), P, some (.int (i : Nat)), x5, some (.loc nb), x7, some th, some (.loc nk), none] s = .ok [.loc nb, .int (w : Nat), th] s from cons_ok rfl (cons_ok rfl (cons_ok rfl nil_ok)), Out.bind_ok, e2]
    rfl
  have hx : (s1 ++ [Ob.xd [(("index" : Str), .int (i : Nat))]] ++ [Ob.nu])[s1.length]? = some (.xd [(("index" : Str), .int (i : Nat))]) := app_old app_new
  have g2 : Gr s (s1 ++ [Ob.xd [(("index" : Str), .int (i : Nat))]] ++ [Ob.nu]) := by rw [List.append_assoc]; exact g1.trans (Gr.app _)
  refine ⟨_, ?_, g2⟩
  have q := gEq_loc (g2.lst hn) (g2.lst hk) hl (by decide)
  unfold trB
  rw [sTryAs_ex e3 f1]
  have x1 := kIsX_ok (k := (s1 ++ [Ob.xd [(("index" : Str), .int (i : Nat))]]).length) hx f2
  have x2 := kIsX_ok (k := (s1 ++ [Ob.xd [(("index" : Str), .int (i : Nat))]]).length) hx f3
  have x3 := kIsX_ok (k := (s1 ++ [Ob.xd [(("index" : Str), .int (i : Nat))]]).length) hx f4
  have x4 := kIsX_ok (k := (s1 ++ [Ob.xd [(("index" : Str), .int (i : Nat))]]).length) hx f5
  have x5 := kXf_ok (k := (s1 ++ [Ob.xd [(("index" : Str), .int (i : Nat))]]).length) hx f6 (f7 _)
  generalize (s1 ++ [Ob.xd [(("index" : Str), .int (i : Nat))]]).length = k at x1 x2 x3 x4 x5 ⊢
  generalize s1 ++ [Ob.xd [(("index" : Str), .int (i : Nat))]] ++ [Ob.nu] = s2 at x1 x2 x3 x4 x5 q ⊢
  have li := lint_ok' (d := .int (i : Nat)) trivial s2
  rw [show isI (.int (i : Nat)) = true from rfl] at li
  have hh : ∀ (ρ : En), ρ[10]? = some (some (.loc k)) → ρ[4]? = some (some (.int (i : Nat))) → ρ[6]? = some (some (.loc nb)) → ρ[9]? = some (some (.loc nk)) → (sSeq (sIf (fOr (fNot (fTru (fIsX k ⟨BF, s1.length⟩ ti_BadFacts (fVar 10)))) (fNot (fTru (fIsX k ⟨BF, s1.length⟩ ti_ValueError (fVar 10))))) (sRet (fC (.bl false))) (sSkip))
  (sSeq (sIf (fOr (fTru (fIsX k ⟨BF, s1.length⟩ ti_BadForm (fVar 10))) (fTru (fIsX k ⟨BF, s1.length⟩ ti_EmptyRegion (fVar 10)))) (sRet (fC (.bl false))) (sSkip))
  (sRet (fAndV (fCall g__law_is_int (fCons (fXf k ⟨BF, s1.length⟩ cs_index ("index" : Str) (fVar 10)) (fNil))) (fAndV (fBin gEq (fXf k ⟨BF, s1.length⟩ cs_index ("index" : Str) (fVar 10)) (fVar 4)) (fBin gEq (fVar 6) (fVar 9))))))) ρ s2 = .rt (.bl true) s2 := fun ρ r10 r4 r6 r9 => by
    simp [r10, r4, r6, r9, x1, x2, x3, x4, x5, li, q]
  rw [hh _ rfl rfl rfl rfl, leave_rt]
theorem refused_ok {w b nf : Nat} {ds : List D} {F : List Fac} {st : S} (hb : Bag st b) (hf : lstAt st nf = some (F.map fD)) (hnf : nf ≠ b) (hF : ∀ f ∈ F, FOk w f) (h1 : 1 ≤ F.length) (hl : F.length ≤ 12) (hw : w ≤ 100) :
    ∃ st', g__law_refused [.loc b, .loc nf, .int (w : Nat), .tup ds] st = .ok (.bl true) st' := by
  have ln := gLen_loc st hf
  rw [List.length_map] at ln
  obtain ⟨i', s1, e1, i0, i1, x1⟩ := take_ok hb (m := (F.length : Int)) (by omega) (divok_small (by omega) (Nat.lt_of_lt_of_le (show (F.length : Int).natAbs < 2 ^ 10 by omega) (Nat.pow_le_pow_right (by decide) (by decide))))
  obtain ⟨i, rfl⟩ : ∃ i : Nat, i' = (i : Int) := ⟨i'.toNat, by omega⟩
  have hf1 := x1.lst hnf hf
  have ln1 := gLen_loc s1 hf1
  rw [List.length_map] at ln1
  obtain ⟨j', s2, e2, j0, j1, x2⟩ := take_ok x1.bag (m := (F.length : Int) - (i : Int)) (by omega) (divok_small (by omega) (Nat.lt_of_lt_of_le (show ((F.length : Int) - (i : Int)).natAbs < 2 ^ 10 by omega) (Nat.pow_le_pow_right (by decide) (by decide))))
  obtain ⟨j, hj⟩ : ∃ j : Nat, (i : Int) + j' = (j : Int) := ⟨((i : Int) + j').toNat, by omega⟩
  have hf2 := x2.lst hnf hf1
  have lb2 := x2.bag.lt
  have nb2 : s2.length ≠ b := by omega
  -- bad = list(facts); [first, second]
  have gl := gList_loc hf2
  have xA : Ext b s2 (s2 ++ [Ob.lst (F.map fD)]) := K04.Gr.ext (Gr.app _) x2.bag
  have xB : Ext b s2 (s2 ++ [Ob.lst (F.map fD)] ++ [Ob.lst [.int (i : Nat), .int (j : Nat)]]) := xA.gr (Gr.app _)
  have nA : (s2 ++ [Ob.lst (F.map fD)] ++ [Ob.lst [.int (i : Nat), .int (j : Nat)]])[s2.length]? = some (.lst (F.map fD)) := app_at app_new _
  have nL : (s2 ++ [Ob.lst (F.map fD)] ++ [Ob.lst [.int (i : Nat), .int (j : Nat)]])[s2.length + 1]? = some (.lst [.int (i : Nat), .int (j : Nat)]) := by
    have := app_new (st := s2 ++ [Ob.lst (F.map fD)]) (o := .lst [.int (i : Nat), .int (j : Nat)])
    rwa [List.length_append, List.length_singleton] at this
  generalize hsB : s2 ++ [Ob.lst (F.map fD)] ++ [Ob.lst [.int (i : Nat), .int (j : Nat)]] = sB at xB nA nL
  have hfB := xB.lst hnf hf2
  have nbL : s2.length + 1 ≠ b := by omega
  obtain ⟨v1, sC, eC, bv1, xC, nC⟩ := sp_turn (i := i) (W := some (.int (w : Nat))) (P := some (.tup ds)) (x4 := some (.int (i : Nat))) (x5 := some (.int (j : Nat))) (x8 := none) (x9 := none) (x10 := none) xB.bag hfB hF hw (by omega) nA nb2 (List.length_map ..)
  have xC' : Ext b s2 (sC.set s2.length (.lst ((F.map fD).set i v1))) := (xB.trans xC).wr x2.bag (Nat.le_refl _)
  have hfC := xC'.lst hnf hf2
  have nC' : (sC.set s2.length (.lst ((F.map fD).set i v1)))[s2.length]? = some (.lst ((F.map fD).set i v1)) := set_at (lt_of_at nC)
  have nLC : (sC.set s2.length (.lst ((F.map fD).set i v1)))[s2.length + 1]? = some (.lst [.int (i : Nat), .int (j : Nat)]) := by
    rw [set_ne (by omega)]
    exact xC.keep _ _ nbL nL
  generalize hsC : sC.set s2.length (.lst ((F.map fD).set i v1)) = sC' at xC' hfC nC' nLC eC
  obtain ⟨v2, sD, eD, bv2, xD, nD⟩ := sp_turn (i := j) (W := some (.int (w : Nat))) (P := some (.tup ds)) (x4 := some (.int (i : Nat))) (x5 := some (.int (j : Nat))) (x8 := none) (x9 := none) (x10 := none) xC'.bag hfC hF hw (by omega) nC' nb2 (by rw [List.length_set, List.length_map])
  have xD' : Ext b s2 (sD.set s2.length (.lst (((F.map fD).set i v1).set j v2))) := (xC'.trans xD).wr x2.bag (Nat.le_refl _)
  have nD' : (sD.set s2.length (.lst (((F.map fD).set i v1).set j v2)))[s2.length]? = some (.lst (((F.map fD).set i v1).set j v2)) := set_at (lt_of_at nD)
  have nLD : (sD.set s2.length (.lst (((F.map fD).set i v1).set j v2)))[s2.length + 1]? = some (.lst [.int (i : Nat), .int (j : Nat)]) := by
    rw [set_ne (by omega)]
    exact xD.keep _ _ nbL nLC
  generalize hsD : sD.set s2.length (.lst (((F.map fD).set i v1).set j v2)) = sD' at xD' nD' nLD eD
  have mem : ∀ d ∈ ((F.map fD).set i v1).set j v2, d = v2 ∨ d = v1 ∨ ∃ f ∈ F, d = fD f := fun d hd => by
    rcases List.mem_or_eq_of_mem_set hd with q | q
    · rcases List.mem_or_eq_of_mem_set q with q | q
      · obtain ⟨f, hf, e⟩ := List.mem_map.mp q
        exact .inr (.inr ⟨f, hf, e.symm⟩)
      · exact .inr (.inl q)
    · exact .inl q
  have hE : ∀ d ∈ ((F.map fD).set i v1).set j v2, EFact d := fun d hd => by
    rcases mem d hd with q | q | ⟨f, hf, q⟩ <;> rw [q]
    · exact bv2.e
    · exact bv1.e
    · exact (f_fact (hF f hf) hw).1
  have hL : ∀ d ∈ ((F.map fD).set i v1).set j v2, Lay 4 d := fun d hd => by
    rcases mem d hd with q | q | ⟨f, hf, q⟩ <;> rw [q]
    · exact bv2.l
    · exact bv1.l
    · exact (fD_lay (hF f hf)).le (by decide)
  have hB : fbad w (((F.map fD).set i v1).set j v2) = some i := by
    refine fbad_at (by rw [List.length_set, List.length_set, List.length_map]; omega) (fun q hq => ?_) ?_
    · rw [List.getElem_set_ne (by omega), List.getElem_set_ne (by omega), List.getElem_map]
      exact (f_fact (hF _ (List.getElem_mem _)) hw).2
    · by_cases q : j = i
      · subst q
        rw [List.getElem_set_self]
        exact bv2.f
      · rw [List.getElem_set_ne q, List.getElem_set_self]
        exact bv1.f
  generalize ((F.map fD).set i v1).set j v2 = Cs at eD nD' hE hL hB
  -- thing, kept
  have xE : Gr sD' (sD' ++ [Ob.lst ds]) := Gr.app _
  have xF : Gr sD' (sD' ++ [Ob.lst ds] ++ [Ob.lst [.tup ds, .non, .tup [], .loc sD'.length]]) := xE.trans (Gr.app _)
  have nF : (sD' ++ [Ob.lst ds] ++ [Ob.lst [.tup ds, .non, .tup [], .loc sD'.length]])[(sD' ++ [Ob.lst ds]).length]? = some (.lst [.tup ds, .non, .tup [], .loc sD'.length]) := app_new
  obtain ⟨r, sG, eG, r0, r1, xG⟩ := take_ok (xD'.bag.gr xF) (m := 4) (by decide) (by decide)
  have lD := xD'.bag.lt
  have nbF : (sD' ++ [Ob.lst ds]).length ≠ b := by rw [List.length_append]; omega
  have nG := xG.keep _ _ nbF nF
  obtain ⟨k, rfl⟩ : ∃ k : Nat, r = (k : Int) := ⟨r.toNat, by omega⟩
  obtain ⟨th, hth⟩ : ∃ th, [D.tup ds, .non, .tup [], .loc sD'.length][k]? = some th := ⟨_, List.getElem?_eq_getElem (show k < 4 by omega)⟩
  have nbG := lstAt_lst (xG.keep _ _ nb2 (xF.keep _ _ nD'))
  have gk := gList_loc nbG
  have gH : Gr sG (sG ++ [Ob.lst Cs]) := Gr.app _
  obtain ⟨sZ, eZ, gZ⟩ := tr_ok (w := w) (i := i) (B := some (.loc b)) (Fv := some (.loc nf)) (P := some (.tup ds)) (x5 := some (.int (j : Nat))) (x7 := some (.int (j : Nat))) (th := th) (gH.lst nbG) (lstAt_lst (app_new (st := sG) (o := .lst Cs))) hE hL hB
  refine ⟨sZ, ?_⟩
  have z : m__law_refused [some (.loc b), some (.loc nf), some (.int (w : Nat)), some (.tup ds), none, none, none, none, none, none, none] st = .rt (.bl true) sZ := by
    unfold m__law_refused
    refine seq_nx (ρ1 := [some (.loc b), some (.loc nf), some (.int (w : Nat)), some (.tup ds), some (.int (i : Nat)), none, none, none, none, none, none]) (st1 := s1) (set_ok (call_ok (cons_ok rfl (cons_ok (args_ok (cons_ok rfl nil_ok) ln) nil_ok)) e1)) ?_
    refine seq_nx (ρ1 := [some (.loc b), some (.loc nf), some (.int (w : Nat)), some (.tup ds), some (.int (i : Nat)), some (.int (j : Nat)), none, none, none, none, none]) (st1 := s2) (set_ok (bin_ok rfl (call_ok (cons_ok rfl (cons_ok (bin_ok (args_ok (cons_ok rfl nil_ok) ln1) rfl (d := .int ((F.length : Int) - (i : Int))) (st3 := s1) rfl) nil_ok)) e2) (by rw [← hj]; rfl))) ?_
    refine seq_nx (ρ1 := [some (.loc b), some (.loc nf), some (.int (w : Nat)), some (.tup ds), some (.int (i : Nat)), some (.int (j : Nat)), some (.loc s2.length), none, none, none, none]) (st1 := s2 ++ [Ob.lst (F.map fD)]) (set_ok (args_ok (cons_ok rfl nil_ok) gl)) ?_
    refine seq_nx (ρ1 := [some (.loc b), some (.loc nf), some (.int (w : Nat)), some (.tup ds), some (.int (i : Nat)), some (.int (j : Nat)), some (.loc s2.length), some (.int (j : Nat)), none, none, none]) (st1 := sD') ?_ ?_
    · have el : (fLst (fCons (fVar 4) (fCons (fVar 5) (fNil)))) [some (.loc b), some (.loc nf), some (.int (w : Nat)), some (.tup ds), some (.int (i : Nat)), some (.int (j : Nat)), some (.loc s2.length), none, none, none, none] (s2 ++ [Ob.lst (F.map fD)]) = .ok (.loc (s2.length + 1)) sB := by
        have := lst_ok (st := s2 ++ [Ob.lst (F.map fD)]) (A := fCons (fVar 4) (fCons (fVar 5) (fNil))) (ρ := [some (.loc b), some (.loc nf), some (.int (w : Nat)), some (.tup ds), some (.int (i : Nat)), some (.int (j : Nat)), some (.loc s2.length), none, none, none, none]) (cons_ok rfl (cons_ok rfl nil_ok))
        rw [hsB, List.length_append, List.length_singleton] at this
        exact this
      rw [sFor_loc (n := s2.length + 1) el (lstAt_lst nL)]
      refine (sLoop_nx (decide_eq_true (lstAt_lst nL)) rfl eC).trans ?_
      refine (sLoop_nx (decide_eq_true (lstAt_lst nLC)) rfl eD).trans ?_
      rw [sLoop_nil, if_pos (decide_eq_true (lstAt_lst nLD))]
    have et : (fBin gIx (fLst (fCons (fVar 3) (fCons (fC .non) (fCons (fTup (fNil)) (fCons (fArgs gList (fCons (fVar 3) (fNil))) (fNil)))))) (fCall g__law_take (fCons (fVar 0) (fCons (fC (.int 4)) (fNil))))) [some (.loc b), some (.loc nf), some (.int (w : Nat)), some (.tup ds), some (.int (i : Nat)), some (.int (j : Nat)), some (.loc s2.length), some (.int (j : Nat)), none, none, none] sD' = .ok th sG :=
      bin_ok (lst_ok (cons_ok rfl (cons_ok c_ok (cons_ok (tup_ok nil_ok) (cons_ok (args_ok (cons_ok rfl nil_ok) (gList_tup ..)) nil_ok))))) (call_ok (cons_ok rfl (cons_ok c_ok nil_ok)) eG) (by rw [gIx_loc _ _ (lstAt_lst nG), atI_nat hth]; rfl)
    refine seq_nx (ρ1 := [some (.loc b), some (.loc nf), some (.int (w : Nat)), some (.tup ds), some (.int (i : Nat)), some (.int (j : Nat)), some (.loc s2.length), some (.int (j : Nat)), some th, none, none]) (st1 := sG) (set_ok et) ?_
    refine seq_nx (ρ1 := [some (.loc b), some (.loc nf), some (.int (w : Nat)), some (.tup ds), some (.int (i : Nat)), some (.int (j : Nat)), some (.loc s2.length), some (.int (j : Nat)), some th, some (.loc sG.length), none]) (st1 := sG ++ [Ob.lst Cs]) (set_ok (args_ok (cons_ok rfl nil_ok) gk)) ?_
    show sSeq trB _ _ _ = _
    exact seq_rt eZ
  exact den_end rfl z
end K04

set_option Elab.async false
set_option linter.all false
set_option maxRecDepth 100000
set_option maxHeartbeats 4000000
namespace K04
open PySem MP
theorem scaled_ok {ds : List D} {x : D} (hd : ∀ d ∈ ds, Nb B80 d) (hx : Nb B80 x) (hl : ds.length ≤ 1000) (st : S) : ∃ st', g__law_scaled [.tup ds, x] st = .ok (.tup (ds.map (mulD · x))) st' ∧ Gr st st' := by
  have e := fLc_map (own := [2]) (fi := fSeq (fVar 0)) (g := tgN 2) (fe := fCall g__law_mul (fCons (fVar 2) (fCons (fVar 1) (fNil)))) (ρ := [some (.tup ds), some x, none]) (st := st) (st1 := st) (ds := ds) (chk := fun _ => true) (F := (mulD · x))
    rfl (short hl) (fun _ => rfl) (fun d hd' xs => ⟨_, rfl, call_ok (cons_ok rfl (cons_ok rfl nil_ok)) (lmul_nb (hd d hd') hx _)⟩)
  refine ⟨st ++ [.lst (ds.map (mulD · x))], ?_, Gr.app _⟩
  exact den_end (f := m__law_scaled) rfl (ret_ok (args_ok (cons_ok e nil_ok) (gTuple_loc (lstAt_lst app_new))))
def putL (ds : List D) (k : Nat) (o : D) : List D := ds.take k ++ [o] ++ ds.drop (k + 1)
theorem put_ok {ds : List D} {k : Nat} {o : D} (hl : ds.length ≤ 1000) (st : S) : g__law_put [.tup ds, .int (k : Nat), o] st = .ok (.tup (putL ds k o)) st := by
  have b1 : (fSl gSl (fVar 0) (fNo) (fPart (fVar 1))) [some (.tup ds), some (.int (k : Int)), some o] st = .ok (.tup (ds.take k)) st := by rw [← cut_take]; rfl
  have b2 : (fSl gSl (fVar 0) (fPart (fBin gAdd (fVar 1) (fC (.int 1)))) (fNo)) [some (.tup ds), some (.int (k : Int)), some o] st = .ok (.tup (ds.drop (k + 1))) st := by rw [← cut_drop]; rfl
  refine den_end (f := m__law_put) rfl (ret_ok (bin_ok (bin_ok b1 (tup_ok (cons_ok rfl nil_ok)) (d := .tup (ds.take k ++ [o])) (st3 := st) ?_) b2 ?_))
  · rw [gAdd_tup, if_pos (sumlen (by rw [List.length_take, List.length_singleton]; omega))]
  · rw [gAdd_tup, if_pos (sumlen (by rw [List.length_append, List.length_take, List.length_singleton, List.length_drop]; omega))]
    rfl
/-- an entry of a paper -/
def EB (s : S) (d : D) : Prop := Ent s d ∧ (numB d = true → Nb B80 d)
theorem nb_eb {d : D} {s : S} (h : Nb B80 d) : EB s d := ⟨nb_ent h s, fun _ => h⟩
theorem fr_eb {p q : Int} {s : S} (h1 : p.natAbs < B80) (h2 : q.natAbs < B80) : EB s (fr p q) := ⟨⟨trivial, trivial⟩, fun h => by
  obtain ⟨p', q', e, a, b⟩ := num_fr h
  cases e
  exact ⟨p, q, rfl, by omega, b, h1, h2⟩⟩
theorem not_eb {d : D} {s : S} (h : Ent s d) (hn : numB d = false) : EB s d := ⟨h, fun x => by rw [hn] at x; cases x⟩
theorem put_len {ds : List D} {k : Nat} {o : D} : (putL ds k o).length ≤ ds.length + 1 := by
  unfold putL
  rw [List.length_append, List.length_append, List.length_take, List.length_singleton, List.length_drop]
  omega
theorem pap_of {s : S} {ds : List D} (hl : ds.length ≤ 1000) (h : ∀ d ∈ ds, EB s d) : EPap s (.tup ds) := ⟨hl, fun d hd => (h d hd).1, fun d hd => (h d hd).2⟩
theorem pap_put {s : S} {ds : List D} {k : Nat} {o : D} (hl : ds.length ≤ 900) (h : ∀ d ∈ ds, EB s d) (ho : EB s o) : EPap s (.tup (putL ds k o)) := pap_of (by have := put_len (ds := ds) (k := k) (o := o); omega) fun d hd => by
  unfold putL at hd
  rcases List.mem_append.mp hd with q | q
  · rcases List.mem_append.mp q with q | q
    · exact h d (List.mem_of_mem_take q)
    · rw [List.mem_singleton.mp q]; exact ho
  · exact h d (List.mem_of_mem_drop q)
/-- papers gathered so far -/
structure PK (b n : Nat) (st s : S) (m : Nat) : Prop where
  ext : Ext b st s
  bag : Bag st b
  le : st.length ≤ n
  at_ : ∃ acc, s[n]? = some (.lst acc) ∧ acc.length ≤ m ∧ ∀ p ∈ acc, EPap s p
structure Px (b n : Nat) (s s' : S) : Prop where
  bag : Bag s' b
  keep : ∀ (k : Nat) (o : Ob), k ≠ b → k ≠ n → s[k]? = some o → s'[k]? = some o
theorem pk_app {b n m i : Nat} {st s s1 : S} {ρ : En} {e : FE} {v : D} (h : PK b n st s m) (hm : m ≤ 900) (hr : ρ[i]? = some (some (.loc n))) (he : e ρ s = .ok v s1) (x : Ext b s s1) (hv : EPap s1 v) :
    ∃ s2, sExpr (fLM gAppend (fVar i) (fCons e (fNil))) ρ s = .nx ρ s2 ∧ PK b n st s2 (m + 1) ∧ Px b n s s2 := by
  obtain ⟨acc, hn, hl, hp⟩ := h.at_
  have lb := h.bag.lt
  have nb : n ≠ b := by have := h.le; omega
  have n1 := x.keep n _ nb hn
  have x2 := (h.ext.trans x).wr (o := .lst (acc ++ [v])) h.bag h.le
  refine ⟨s1.set n (.lst (acc ++ [v])), app_ok hr (lstAt_lst hn) he n1 (short (by omega)), ⟨x2, h.bag, h.le, acc ++ [v], set_at (lt_of_at n1), by rw [List.length_append, List.length_singleton]; omega, fun p hp' => ?_⟩, ⟨x2.bag, fun k o k1 k2 e => by rw [set_ne k2]; exact x.keep k o k1 e⟩⟩
  rcases List.mem_append.mp hp' with q | q
  · exact (hp p q).ls (x.ls.trans set_ls)
  · rw [List.mem_singleton.mp q]
    exact hv.ls set_ls
theorem Px.trans {b n : Nat} {s1 s2 s3 : S} (h : Px b n s1 s2) (g : Px b n s2 s3) : Px b n s1 s3 := ⟨g.bag, fun k o k1 k2 e => g.keep k o k1 k2 (h.keep k o k1 k2 e)⟩
theorem PK.gr {b n m : Nat} {st s s' : S} (h : PK b n st s m) (x : Ext b s s') : PK b n st s' m := by
  obtain ⟨acc, hn, hl, hp⟩ := h.at_
  have lb := h.bag.lt
  have nb : n ≠ b := by have := h.le; omega
  exact ⟨h.ext.trans x, h.bag, h.le, acc, x.keep n _ nb hn, hl, fun p hp' => (hp p hp').ls x.ls⟩
theorem Ext.px {b n : Nat} {s s' : S} (x : Ext b s s') : Px b n s s' := ⟨x.bag, fun k o k1 _ e => x.keep k o k1 e⟩
/-- papers.append(put(base, place, thing)) for all things -/
theorem things_loop {b n t : Nat} {st : S} {ρ0 : En} {e : FE} {base : List D} {k : Nat} {all : List D} (h8 : 8 < ρ0.length) (hr : ∀ x, (ρ0.set 8 x)[7]? = some (some (.loc n))) (htb : t ≠ b) (htn : t ≠ n)
    (he : ∀ th s, e (ρ0.set 8 (some th)) s = .ok (.tup (putL base k th)) s) (hl : base.length ≤ 900) (hb : ∀ d ∈ base, ∀ s, EB s d) : ∀ (ths : List D) (x : Option D) (s : S) (m : Nat), PK b n st s m → m + ths.length ≤ 900 → s[t]? = some (.lst all) → (∀ th ∈ ths, ∀ s, EB s th) →
    ∃ y s', sLoop (fun s => decide (lstAt s t = some all)) (tgN 8) (sExpr (fLM gAppend (fVar 7) (fCons e (fNil)))) ths (ρ0.set 8 x) s = .nx (ρ0.set 8 y) s' ∧ PK b n st s' (m + ths.length) ∧ Px b n s s'
  | [], x, s, m, h, hm, ht, hth => ⟨x, s, by rw [sLoop_nil, if_pos (decide_eq_true (lstAt_lst ht))], h, ⟨h.ext.bag, fun _ _ _ _ e => e⟩⟩
  | th :: ths, x, s, m, h, hm, ht, hth => by
    rw [List.length_cons] at hm
    obtain ⟨s1, e1, p1, x1⟩ := pk_app (i := 7) h (by omega) (hr (some th)) (he th s) (Ext.refl h.ext.bag) (pap_put hl (fun d hd => hb d hd s) (hth th List.mem_cons_self s))
    obtain ⟨y, s2, e2, p2, x2⟩ := things_loop h8 hr htb htn he hl hb ths (some th) s1 (m + 1) p1 (by omega) (x1.keep _ _ htb htn ht) (fun th' h' => hth th' (List.mem_cons_of_mem _ h'))
    refine ⟨y, s2, ?_, by rw [List.length_cons, show m + (ths.length + 1) = m + 1 + ths.length by omega]; exact p2, x1.trans x2⟩
    exact (sLoop_nx (decide_eq_true (lstAt_lst ht)) (by rw [tgN_ap, List.set_set]) e1).trans e2
end K04

set_option Elab.async false
set_option linter.all false
set_option maxRecDepth 100000
set_option maxHeartbeats 4000000
namespace K04
open PySem MP
abbrev bE (b : Nat) (ds : List D) (spot k : Nat) (one : D) (more : Int) (us : List D) (n : Nat) (x8 x9 : Option D) : En := [some (.loc b), some (.tup ds), some (.int (spot : Nat)), some (.int (k : Nat)), some one, some (.int more), some (.tup us), some (.loc n), x8, x9, none]
def th1 : List D := [.tup [.bl true, .int 1], .tup [.int 1, .bl true], .int 1, .bl true]
def th2 : List D := [.tup [.bl false, .int 1], fr 0 2, fr 0 (-1), .int 0]
theorem th1_eb : ∀ th ∈ th1, ∀ s, EB s th := by
  intro o ho s
  have : o = .tup [.bl true, .int 1] ∨ o = .tup [.int 1, .bl true] ∨ o = .int 1 ∨ o = .bl true := by simpa [th1] using ho
  rcases this with e | e | e | e <;> rw [e]
  · exact not_eb ⟨trivial, trivial⟩ rfl
  · exact not_eb ⟨trivial, trivial⟩ rfl
  · exact not_eb trivial rfl
  · exact not_eb trivial rfl
theorem th2_eb : ∀ th ∈ th2, ∀ s, EB s th := by
  intro o ho s
  have : o = .tup [.bl false, .int 1] ∨ o = fr 0 2 ∨ o = fr 0 (-1) ∨ o = .int 0 := by simpa [th2] using ho
  rcases this with e | e | e | e <;> rw [e]
  · exact not_eb ⟨trivial, trivial⟩ rfl
  · exact fr_eb (by decide) (by decide)
  · exact fr_eb (by decide) (by decide)
  · exact not_eb trivial rfl
theorem fr_eb' {s : S} (p q : Int) (h1 : p.natAbs < 10 ^ 20) (h2 : q.natAbs < 10 ^ 20) : EB s (fr p q) := fr_eb (Nat.lt_of_lt_of_le h1 (by decide)) (Nat.lt_of_lt_of_le h2 (by decide))
noncomputable def t1B : FS := sFor (fLst (fCons (fTup (fCons (fC (.bl true)) (fCons (fC (.int 1)) (fNil)))) (fCons (fTup (fCons (fC (.int 1)) (fCons (fC (.bl true)) (fNil)))) (fCons (fC (.int 1)) (fCons (fC (.bl true)) (fNil)))))) (tgN 8) (sExpr (fLM gAppend (fVar 7) (fCons (fCall g__law_put (fCons (fVar 6) (fCons (fVar 2) (fCons (fVar 8) (fNil))))) (fNil))))
noncomputable def t2B : FS := sFor (fLst (fCons (fTup (fCons (fC (.bl false)) (fCons (fC (.int 1)) (fNil)))) (fCons (fTup (fCons (fC (.int 0)) (fCons (fC (.int 2)) (fNil)))) (fCons (fTup (fCons (fC (.int 0)) (fCons (fUn gNeg (fC (.int 1))) (fNil)))) (fCons (fC (.int 0)) (fNil)))))) (tgN 8) (sExpr (fLM gAppend (fVar 7) (fCons (fCall g__law_put (fCons (fVar 1) (fCons (fVar 9) (fCons (fVar 8) (fNil))))) (fNil))))
theorem PK.nlt {b n m : Nat} {st s : S} (h : PK b n st s m) : n < s.length := by
  obtain ⟨acc, hn, _, _⟩ := h.at_
  exact lt_of_at hn
theorem PK.more {b n m k : Nat} {st s : S} (h : PK b n st s m) (hk : m ≤ k) : PK b n st s k := by
  obtain ⟨acc, hn, hl, hp⟩ := h.at_
  exact ⟨h.ext, h.bag, h.le, acc, hn, Nat.le_trans hl hk, hp⟩
theorem t1_ok {b n m spot k : Nat} {st s : S} {ds us : List D} {one : D} {more : Int} {x9 : Option D} (h : PK b n st s m) (hm : m ≤ 800) (hl : us.length ≤ 900) (hu : ∀ d ∈ us, ∀ s, EB s d) :
    ∃ y s', t1B (bE b ds spot k one more us n none x9) s = .nx (bE b ds spot k one more us n y x9) s' ∧ PK b n st s' (m + 4) ∧ Px b n s s' := by
  have lb := h.ext.bag.lt
  have x0 : Ext b s (s ++ [Ob.lst th1]) := K04.Gr.ext (Gr.app _) h.ext.bag
  have nl := h.nlt
  obtain ⟨y, s', e, p, x⟩ := things_loop (t := s.length) (st := st) (ρ0 := bE b ds spot k one more us n none x9) (e := fCall g__law_put (fCons (fVar 6) (fCons (fVar 2) (fCons (fVar 8) (fNil))))) (base := us) (k := spot) (all := th1) (n := n) (b := b) (show 8 < 11 by decide) (fun _ => rfl) (by omega) (by omega) (fun th s => call_ok (cons_ok rfl (cons_ok rfl (cons_ok rfl nil_ok))) (put_ok (by omega) s)) hl hu th1 none (s ++ [Ob.lst th1]) m (h.gr x0) (by have : th1.length = 4 := rfl; omega) app_new th1_eb
  refine ⟨y, s', ?_, p, x0.px.trans x⟩
  unfold t1B
  rw [sFor_loc (n := s.length) (st1 := s ++ [Ob.lst th1]) (ds := th1) (lst_ok (cons_ok (tup_ok (cons_ok c_ok (cons_ok c_ok nil_ok))) (cons_ok (tup_ok (cons_ok c_ok (cons_ok c_ok nil_ok))) (cons_ok c_ok (cons_ok c_ok nil_ok))))) (lstAt_lst app_new)]
  exact e
theorem t2_ok {b n m spot k q : Nat} {st s : S} {ds us : List D} {one : D} {more : Int} {x8 : Option D} (h : PK b n st s m) (hm : m ≤ 800) (hl : ds.length ≤ 900) (hu : ∀ d ∈ ds, ∀ s, EB s d) :
    ∃ y s', t2B (bE b ds spot k one more us n x8 (some (.int (q : Nat)))) s = .nx (bE b ds spot k one more us n y (some (.int (q : Nat)))) s' ∧ PK b n st s' (m + 4) ∧ Px b n s s' := by
  have lb := h.ext.bag.lt
  have x0 : Ext b s (s ++ [Ob.lst th2]) := K04.Gr.ext (Gr.app _) h.ext.bag
  have nl := h.nlt
  obtain ⟨y, s', e, p, x⟩ := things_loop (t := s.length) (st := st) (ρ0 := bE b ds spot k one more us n none (some (.int (q : Nat)))) (e := fCall g__law_put (fCons (fVar 1) (fCons (fVar 9) (fCons (fVar 8) (fNil))))) (base := ds) (k := q) (all := th2) (n := n) (b := b) (show 8 < 11 by decide) (fun _ => rfl) (by omega) (by omega) (fun th s => call_ok (cons_ok rfl (cons_ok rfl (cons_ok rfl nil_ok))) (put_ok (by omega) s)) hl hu th2 x8 (s ++ [Ob.lst th2]) m (h.gr x0) (by have : th2.length = 4 := rfl; omega) app_new th2_eb
  refine ⟨y, s', ?_, p, x0.px.trans x⟩
  unfold t2B
  rw [sFor_loc (n := s.length) (st1 := s ++ [Ob.lst th2]) (ds := th2) (lst_ok (cons_ok (tup_ok (cons_ok c_ok (cons_ok c_ok nil_ok))) (cons_ok (tup_ok (cons_ok c_ok (cons_ok c_ok nil_ok))) (cons_ok (tup_ok (cons_ok c_ok (cons_ok (un_ok c_ok rfl) nil_ok))) (cons_ok c_ok nil_ok))))) (lstAt_lst app_new)]
  exact e
theorem pl_loop {b n t spot k : Nat} {st : S} {ds us : List D} {one : D} {more : Int} {all : List D} (htb : t ≠ b) (htn : t ≠ n) (hl : ds.length ≤ 900) (hu : ∀ d ∈ ds, ∀ s, EB s d) : ∀ (pls : List D) (x8 x9 : Option D) (s : S) (m : Nat), PK b n st s m → m + 4 * pls.length ≤ 800 → s[t]? = some (.lst all) → (∀ d ∈ pls, ∃ q : Nat, d = .int (q : Nat)) →
    ∃ y8 y9 s', sLoop (fun s => decide (lstAt s t = some all)) (tgN 9) t2B pls (bE b ds spot k one more us n x8 x9) s = .nx (bE b ds spot k one more us n y8 y9) s' ∧ PK b n st s' (m + 4 * pls.length) ∧ Px b n s s'
  | [], x8, x9, s, m, h, hm, ht, hp => ⟨x8, x9, s, by rw [sLoop_nil, if_pos (decide_eq_true (lstAt_lst ht))], h, ⟨h.ext.bag, fun _ _ _ _ e => e⟩⟩
  | d :: pls, x8, x9, s, m, h, hm, ht, hp => by
    obtain ⟨q, rfl⟩ := hp d List.mem_cons_self
    rw [List.length_cons] at hm
    obtain ⟨y, s1, e1, p1, x1⟩ := t2_ok (q := q) (spot := spot) (k := k) (us := us) (one := one) (more := more) (x8 := x8) h (by omega) hl hu
    obtain ⟨y8, y9, s2, e2, p2, x2⟩ := pl_loop (spot := spot) (k := k) (us := us) (one := one) (more := more) htb htn hl hu pls y (some (.int (q : Nat))) s1 (m + 4) p1 (by omega) (x1.keep _ _ htb htn ht) (fun d h' => hp d (List.mem_cons_of_mem _ h'))
    refine ⟨y8, y9, s2, ?_, by rw [List.length_cons, show m + 4 * (pls.length + 1) = m + 4 + 4 * pls.length by omega]; exact p2, x1.trans x2⟩
    exact (sLoop_nx (decide_eq_true (lstAt_lst ht)) rfl e1).trans e2
noncomputable def plB : FS := sFor (fSl gSl (fLc [10] (fRng1 (fCons (fArgs gLen (fCons (fVar 1) (fNil))) (fNil))) (tgN 10) (fIsB (fBin gEq (fBin gIx (fBin gIx (fVar 1) (fVar 10)) (fC (.int 0))) (fC (.int 0)))) (fVar 10)) (fNo) (fPart (fC (.int 1)))) (tgN 9) t2B
theorem pl_ok {b n m spot k : Nat} {st s : S} {ds us : List D} {one : D} {more : Int} {x8 : Option D} (h : PK b n st s m) (hm : m ≤ 700) (hl : ds.length ≤ 900) (hp : ∀ d ∈ ds, PEnt d) (hu : ∀ d ∈ ds, ∀ s, EB s d) :
    ∃ y8 y9 s', plB (bE b ds spot k one more us n x8 none) s = .nx (bE b ds spot k one more us n y8 y9) s' ∧ PK b n st s' (m + 4) ∧ Px b n s s' := by
  have hs : Small62 (ds.length : Int) := small_nat (by omega)
  have er : (fRng1 (fCons (fArgs gLen (fCons (fVar 1) (fNil))) (fNil))) (bE b ds spot k one more us n x8 none) s = .ok (rngK 0 ds.length, fun _ => true) s := by
    unfold fRng1
    rw [show (fCons (fArgs gLen (fCons (fVar 1) (fNil))) (fNil)) (bE b ds spot k one more us n x8 none) s = .ok [.int (ds.length : Int)] s from cons_ok (args_ok (cons_ok rfl nil_ok) (gLen_tup ..)) nil_ok, Out.bind_ok]
    simp only
    rw [if_pos hs, rng_k]
  have e1 := fLc_flt (own := [10]) (fi := fRng1 (fCons (fArgs gLen (fCons (fVar 1) (fNil))) (fNil))) (g := tgN 10) (ft := fIsB (fBin gEq (fBin gIx (fBin gIx (fVar 1) (fVar 10)) (fC (.int 0))) (fC (.int 0)))) (fe := fVar 10) (F := id) (p := fun d => match d with
    | .int i => decide (topD (ds.getD i.toNat .non) = 0)
    | _ => false) er (by rw [rngK_len]; exact short (by omega)) (fun _ => rfl) (fun d hd xs => by
    rw [rngK_eq] at hd
    obtain ⟨i, hi, rfl⟩ := List.mem_map.mp hd
    rw [List.mem_range] at hi
    rw [Nat.zero_add]
    have i1 : L2.atI ds ((i : Nat) : Int) = some ds[i] := atI_nat (by simp [hi])
    obtain ⟨p, q, ep, N⟩ := ((hp ds[i] (List.getElem_mem _)).h12.le (C := B80) (by decide)).nb (by decide)
    refine ⟨(wipeE (bE b ds spot k one more us n x8 none) [10]).set 10 (some (.int (i : Int))), rfl, ?_, rfl⟩
    show _ = Out.ok (decide (topD (ds.getD ((i : Nat) : Int).toNat .non) = 0)) _
    rw [show ds.getD ((i : Nat) : Int).toNat .non = ds[i] by simp [hi], ep]
    rw [ep] at i1
    generalize s ++ [Ob.lst xs] = s1
    refine isb_ok (bin_ok (bin_ok (bin_ok rfl rfl (d := fr p q) (st3 := s1) ?_) c_ok (d := .int p) (st3 := s1) (by simp)) c_ok ?_)
    · show gIx (.tup ds) (.int (i : Int)) s1 = _
      simp [i1]
    · rw [gEq_int]
      rfl)
  rw [List.map_id] at e1
  have hmem : ∀ d ∈ ((rngK 0 ds.length).filter (fun d => match d with
    | .int i => decide (topD (ds.getD i.toNat .non) = 0)
    | _ => false)).take 1, ∃ q : Nat, d = .int (q : Nat) := fun d hd => by
    have := List.mem_of_mem_take hd
    have := (List.mem_filter.mp this).1
    rw [rngK_eq] at this
    obtain ⟨i, hi, rfl⟩ := List.mem_map.mp this
    exact ⟨_, rfl⟩
  have hl1 : (((rngK 0 ds.length).filter (fun d => match d with
    | .int i => decide (topD (ds.getD i.toNat .non) = 0)
    | _ => false)).take 1).length ≤ 1 := by rw [List.length_take]; omega
  generalize (rngK 0 ds.length).filter (fun d => match d with
    | .int i => decide (topD (ds.getD i.toNat .non) = 0)
    | _ => false) = pls0 at e1 hmem hl1
  have gs := gSl_loc (lo := none) (hi := some ((1 : Nat) : Int)) (lstAt_lst (app_new (st := s) (o := .lst pls0)))
  rw [cut_take] at gs
  have e2 : (fSl gSl (fLc [10] (fRng1 (fCons (fArgs gLen (fCons (fVar 1) (fNil))) (fNil))) (tgN 10) (fIsB (fBin gEq (fBin gIx (fBin gIx (fVar 1) (fVar 10)) (fC (.int 0))) (fC (.int 0)))) (fVar 10)) (fNo) (fPart (fC (.int 1)))) (bE b ds spot k one more us n x8 none) s = .ok (.loc (s ++ [Ob.lst pls0]).length) (s ++ [Ob.lst pls0] ++ [Ob.lst (pls0.take 1)]) := by
    rw [fSl_ap, e1, Out.bind_ok]
    show (Out.bind (.ok none (s ++ [Ob.lst pls0])) fun l st2 => Out.bind (.ok (some ((1 : Nat) : Int)) st2) fun u st3 => ofO (gSl (.loc s.length) l u st3)) = _
    rw [Out.bind_ok, Out.bind_ok, gs]
    rfl
  have lb := h.ext.bag.lt
  have nl := h.nlt
  have x0 : Ext b s (s ++ [Ob.lst pls0] ++ [Ob.lst (pls0.take 1)]) := by rw [List.append_assoc]; exact K04.Gr.ext (Gr.app _) h.ext.bag
  have tl : (s ++ [Ob.lst pls0]).length = s.length + 1 := by rw [List.length_append]; rfl
  obtain ⟨y8, y9, s', e3, p3, x3⟩ := pl_loop (t := (s ++ [Ob.lst pls0]).length) (spot := spot) (k := k) (us := us) (one := one) (more := more) (all := pls0.take 1) (by omega) (by omega) hl hu (pls0.take 1) x8 none _ m (h.gr x0) (by omega) app_new hmem
  refine ⟨y8, y9, s', ?_, p3.more (by omega), x0.px.trans x3⟩
  unfold plB
  rw [sFor_loc e2 (lstAt_lst app_new)]
  exact e3
end K04

set_option Elab.async false
set_option linter.all false
set_option maxRecDepth 100000
set_option maxHeartbeats 4000000
namespace K04
open PySem MP
theorem gRev_ok (ds : List D) (s : S) : gRv (.tup ds) (.int (-1)) s = some (.tup ds.reverse, s) := rfl
theorem tup_eb {s : S} {ds : List D} (h : ∀ d ∈ ds, Nb B80 d) : EB s (.tup ds) := by
  match ds, h with
  | [], h => exact not_eb trivial rfl
  | [x], h => exact not_eb trivial (by cases x <;> rfl)
  | x :: y :: z :: r, h => exact not_eb trivial (by cases x <;> cases y <;> rfl)
  | [x, y], h =>
    obtain ⟨p, q, rfl, _⟩ := h x (by simp)
    obtain ⟨p', q', rfl, _⟩ := h y (by simp)
    exact not_eb ⟨trivial, trivial⟩ rfl
theorem pap_sub {s : S} {ds es : List D} (hl : es.length ≤ 1000) (h : ∀ d ∈ ds, EB s d) (hs : ∀ e ∈ es, e ∈ ds) : EPap s (.tup es) := pap_of hl fun e he => h e (hs e he)
def th6 (one : D) : List D := [.non, .str ("1" : Str), .tup [], .tup [one], fr 1 0, fr 0 0]
theorem th6_eb (one : D) : ∀ th ∈ th6 one, ∀ s, EB s th := by
  intro o ho s
  have : o = .non ∨ o = .str ("1" : Str) ∨ o = .tup [] ∨ o = .tup [one] ∨ o = fr 1 0 ∨ o = fr 0 0 := by simpa [th6] using ho
  rcases this with e | e | e | e | e | e <;> rw [e]
  · exact not_eb trivial rfl
  · exact not_eb trivial rfl
  · exact not_eb trivial rfl
  · exact not_eb trivial (by cases one <;> rfl)
  · exact fr_eb' _ _ (by decide) (by decide)
  · exact fr_eb' _ _ (by decide) (by decide)
def th8 (l : Nat) (ds : List D) : List D := [.non, .int 0, .tup [], .loc l, .str ("ab" : Str), .bl true, .tup [fr 0 1, .int 0], .tup [.tup ds]]
theorem th8_ep {l : Nat} {ds : List D} {s : S} (hd : ∀ d ∈ ds, Nb B80 d) (hl : ∃ xs, lstAt s l = some xs) : ∀ th ∈ th8 l ds, EPap s th := by
  intro o ho
  have : o = .non ∨ o = .int 0 ∨ o = .tup [] ∨ o = .loc l ∨ o = .str ("ab" : Str) ∨ o = .bl true ∨ o = .tup [fr 0 1, .int 0] ∨ o = .tup [.tup ds] := by simpa [th8] using ho
  rcases this with e | e | e | e | e | e | e | e <;> rw [e]
  · trivial
  · trivial
  · exact pap_of (by decide) (fun _ h => nomatch h)
  · exact hl
  · trivial
  · trivial
  · refine pap_of (by decide) (fun d hd => ?_)
    rcases List.mem_cons.mp hd with q | q
    · rw [q]; exact fr_eb' _ _ (by decide) (by decide)
    · rw [List.mem_singleton.mp q]; exact not_eb trivial rfl
  · refine pap_of (show 1 ≤ 1000 by decide) (fun d hd' => ?_)
    rw [List.mem_singleton.mp hd']
    exact tup_eb hd
section
variable {b n m spot k a0 : Nat} {st s : S} {ds us : List D} {a c more : Int} {x8 x9 : Option D}
theorem app0 (h : PK b n st s m) (hm : m ≤ 100) (hl9 : ds.length ≤ 900) (hd : ∀ d ∈ ds, Nb B80 d) (nb9 : Nb (10 ^ 9) (fr a c)) (ha : a.natAbs < 10 ^ 9) (hc : c.natAbs < 10 ^ 9) (hmore : 0 ≤ more ∧ more < 10) :
    ∃ s2, sExpr (fLM gAppend (fVar 7) (fCons (fCall g__law_put (fCons (fVar 1) (fCons (fVar 3) (fCons (fTup (fCons (fBin gMul (fBin gIx (fVar 4) (fC (.int 0))) (fVar 5)) (fCons (fBin gMul (fBin gIx (fVar 4) (fC (.int 1))) (fVar 5)) (fNil)))) (fNil))))) (fNil))) (bE b ds spot k (fr a c) more us n x8 x9) s = .nx (bE b ds spot k (fr a c) more us n x8 x9) s2 ∧ PK b n st s2 (m + 1) ∧ Px b n s s2 := by
  have hl : ds.length ≤ 1000 := by omega
  have hu : ∀ d ∈ ds, ∀ s, EB s d := fun d h' s => nb_eb (hd d h')
  have nb : Nb B80 (fr a c) := nb9.le (by decide)
  have b1 : (a * more).natAbs < 10 ^ 20 := Nat.lt_of_lt_of_le (natAbs_mul_lt (B := 10) ha (by omega)) (by decide)
  have b2 : (c * more).natAbs < 10 ^ 20 := Nat.lt_of_lt_of_le (natAbs_mul_lt (B := 10) hc (by omega)) (by decide)
  have m1 : MulOk a more := mm (sm_lt (Nat.lt_trans ha (by decide +kernel))) (sm_lt (Nat.lt_trans (show more.natAbs < 10 by omega) (by decide +kernel)))
  have m2 : MulOk c more := mm (sm_lt (Nat.lt_trans hc (by decide +kernel))) (sm_lt (Nat.lt_trans (show more.natAbs < 10 by omega) (by decide +kernel)))
  exact pk_app (i := 7) h (by omega) rfl (v := .tup (putL ds k (fr (a * more) (c * more)))) (s1 := s) (call_ok (cons_ok rfl (cons_ok rfl (cons_ok (tup_ok (cons_ok (bin_ok (bin_ok rfl c_ok (d := .int a) (st3 := s) (by simp)) rfl (d := .int (a * more)) (st3 := s) (by simp [m1])) (cons_ok (bin_ok (bin_ok rfl c_ok (d := .int c) (st3 := s) (by simp)) rfl (d := .int (c * more)) (st3 := s) (by simp [m2])) nil_ok))) nil_ok))) (put_ok hl s)) (Ext.refl h.ext.bag) (pap_put hl9 (fun d hd => hu d hd s) (fr_eb' _ _ b1 b2))
theorem app1 (h : PK b n st s m) (hm : m ≤ 100) (hl9 : ds.length ≤ 900) (hd : ∀ d ∈ ds, Nb B80 d) (nb9 : Nb (10 ^ 9) (fr a c)) (ha : a.natAbs < 10 ^ 9) (hc : c.natAbs < 10 ^ 9) (hmore : 0 ≤ more ∧ more < 10) :
    ∃ s2, sExpr (fLM gAppend (fVar 7) (fCons (fCall g__law_put (fCons (fVar 1) (fCons (fVar 3) (fCons (fTup (fCons (fUn gNeg (fBin gIx (fVar 4) (fC (.int 0)))) (fCons (fUn gNeg (fBin gIx (fVar 4) (fC (.int 1)))) (fNil)))) (fNil))))) (fNil))) (bE b ds spot k (fr a c) more us n x8 x9) s = .nx (bE b ds spot k (fr a c) more us n x8 x9) s2 ∧ PK b n st s2 (m + 1) ∧ Px b n s s2 := by
  have hl : ds.length ≤ 1000 := by omega
  have hu : ∀ d ∈ ds, ∀ s, EB s d := fun d h' s => nb_eb (hd d h')
  have nb : Nb B80 (fr a c) := nb9.le (by decide)
  exact pk_app (i := 7) h (by omega) rfl (v := .tup (putL ds k (fr (-a) (-c)))) (s1 := s) (call_ok (cons_ok rfl (cons_ok rfl (cons_ok (tup_ok (cons_ok (un_ok (bin_ok rfl c_ok (d := .int a) (st3 := s) (by simp)) rfl) (cons_ok (un_ok (bin_ok rfl c_ok (d := .int c) (st3 := s) (by simp)) rfl) nil_ok))) nil_ok))) (put_ok hl s)) (Ext.refl h.ext.bag) (pap_put hl9 (fun d hd => hu d hd s) (fr_eb' _ _ (by rw [Int.natAbs_neg]; omega) (by rw [Int.natAbs_neg]; omega)))
theorem app2 (h : PK b n st s m) (hm : m ≤ 100) (hl9 : ds.length ≤ 900) (hd : ∀ d ∈ ds, Nb B80 d) (nb9 : Nb (10 ^ 9) (fr a c)) (ha : a.natAbs < 10 ^ 9) (hc : c.natAbs < 10 ^ 9) (hmore : 0 ≤ more ∧ more < 10) :
    ∃ s2, sExpr (fLM gAppend (fVar 7) (fCons (fCall g__law_put (fCons (fVar 1) (fCons (fVar 3) (fCons (fLst (fCons (fBin gIx (fVar 4) (fC (.int 0))) (fCons (fBin gIx (fVar 4) (fC (.int 1))) (fNil)))) (fNil))))) (fNil))) (bE b ds spot k (fr a c) more us n x8 x9) s = .nx (bE b ds spot k (fr a c) more us n x8 x9) s2 ∧ PK b n st s2 (m + 1) ∧ Px b n s s2 := by
  have hl : ds.length ≤ 1000 := by omega
  have hu : ∀ d ∈ ds, ∀ s, EB s d := fun d h' s => nb_eb (hd d h')
  have nb : Nb B80 (fr a c) := nb9.le (by decide)
  exact pk_app (i := 7) h (by omega) rfl (v := .tup (putL ds k (.loc s.length))) (s1 := s ++ [.lst [.int a, .int c]]) (call_ok (cons_ok rfl (cons_ok rfl (cons_ok (lst_ok (cons_ok (bin_ok rfl c_ok (d := .int a) (st3 := s) (by simp)) (cons_ok (bin_ok rfl c_ok (d := .int c) (st3 := s) (by simp)) nil_ok))) nil_ok))) (put_ok hl _)) (K04.Gr.ext (Gr.app _) h.ext.bag) (pap_put hl9 (fun d hd => hu d hd _) (not_eb ⟨_, lstAt_lst app_new⟩ rfl))
theorem app3 (h : PK b n st s m) (hm : m ≤ 100) (hl9 : ds.length ≤ 900) (hd : ∀ d ∈ ds, Nb B80 d) (nb9 : Nb (10 ^ 9) (fr a c)) (ha : a.natAbs < 10 ^ 9) (hc : c.natAbs < 10 ^ 9) (hmore : 0 ≤ more ∧ more < 10) :
    ∃ s2, sExpr (fLM gAppend (fVar 7) (fCons (fCall g__law_put (fCons (fVar 1) (fCons (fVar 3) (fCons (fTup (fCons (fBin gIx (fVar 4) (fC (.int 0))) (fCons (fBin gIx (fVar 4) (fC (.int 1))) (fCons (fC (.int 1)) (fNil))))) (fNil))))) (fNil))) (bE b ds spot k (fr a c) more us n x8 x9) s = .nx (bE b ds spot k (fr a c) more us n x8 x9) s2 ∧ PK b n st s2 (m + 1) ∧ Px b n s s2 := by
  have hl : ds.length ≤ 1000 := by omega
  have hu : ∀ d ∈ ds, ∀ s, EB s d := fun d h' s => nb_eb (hd d h')
  have nb : Nb B80 (fr a c) := nb9.le (by decide)
  exact pk_app (i := 7) h (by omega) rfl (v := .tup (putL ds k (.tup [.int a, .int c, .int 1]))) (s1 := s) (call_ok (cons_ok rfl (cons_ok rfl (cons_ok (tup_ok (cons_ok (bin_ok rfl c_ok (d := .int a) (st3 := s) (by simp)) (cons_ok (bin_ok rfl c_ok (d := .int c) (st3 := s) (by simp)) (cons_ok c_ok nil_ok)))) nil_ok))) (put_ok hl s)) (Ext.refl h.ext.bag) (pap_put hl9 (fun d hd => hu d hd s) (not_eb trivial rfl))
theorem app4 (h : PK b n st s m) (hm : m ≤ 100) (hl9 : ds.length ≤ 900) (hd : ∀ d ∈ ds, Nb B80 d) (nb9 : Nb (10 ^ 9) (fr a c)) (ha : a.natAbs < 10 ^ 9) (hc : c.natAbs < 10 ^ 9) (hmore : 0 ≤ more ∧ more < 10) :
    ∃ s2, sExpr (fLM gAppend (fVar 7) (fCons (fCall g__law_put (fCons (fVar 1) (fCons (fVar 3) (fCons (fBin gIx (fLst (fCons (fC .non) (fCons (fC (.str ("1" : Str))) (fCons (fTup (fNil)) (fCons (fTup (fCons (fVar 4) (fNil))) (fCons (fTup (fCons (fC (.int 1)) (fCons (fC (.int 0)) (fNil)))) (fCons (fTup (fCons (fC (.int 0)) (fCons (fC (.int 0)) (fNil)))) (fNil)))))))) (fCall g__law_take (fCons (fVar 0) (fCons (fC (.int 6)) (fNil))))) (fNil))))) (fNil))) (bE b ds spot k (fr a c) more us n x8 x9) s = .nx (bE b ds spot k (fr a c) more us n x8 x9) s2 ∧ PK b n st s2 (m + 1) ∧ Px b n s s2 := by
  have hl : ds.length ≤ 1000 := by omega
  have hu : ∀ d ∈ ds, ∀ s, EB s d := fun d h' s => nb_eb (hd d h')
  have nb : Nb B80 (fr a c) := nb9.le (by decide)
  obtain ⟨r, s1, er, r0, r1, x1⟩ := take_ok (h.ext.bag.gr (Gr.app [.lst (th6 (fr a c))])) (m := 6) (by decide) (by decide)
  obtain ⟨j, rfl⟩ : ∃ j : Nat, r = (j : Int) := ⟨r.toNat, by omega⟩
  have hj : j < (th6 (fr a c)).length := by show j < 6; omega
  have lb := h.ext.bag.lt
  have n1 : s1[s.length]? = some (.lst (th6 (fr a c))) := x1.keep _ _ (by omega) app_new
  have x0 : Ext b s (s ++ [Ob.lst (th6 (fr a c))]) := K04.Gr.ext (Gr.app _) h.ext.bag
  refine pk_app (i := 7) h (by omega) rfl (v := .tup (putL ds k (th6 (fr a c))[j])) (s1 := s1) (call_ok (cons_ok rfl (cons_ok rfl (cons_ok (bin_ok (lst_ok (ds := th6 (fr a c)) (cons_ok c_ok (cons_ok c_ok (cons_ok (tup_ok nil_ok) (cons_ok (tup_ok (cons_ok rfl nil_ok)) (cons_ok (tup_ok (cons_ok c_ok (cons_ok c_ok nil_ok))) (cons_ok (tup_ok (cons_ok c_ok (cons_ok c_ok nil_ok))) nil_ok))))))) (call_ok (cons_ok rfl (cons_ok c_ok nil_ok)) er) (by rw [gIx_loc _ _ (lstAt_lst n1), atI_nat (List.getElem?_eq_getElem hj)]; rfl)) nil_ok))) (put_ok hl s1)) (x0.trans x1) ?_
  exact pap_put hl9 (fun d hd => hu d hd s1) (th6_eb _ _ (List.getElem_mem _) s1)
theorem app5 (h : PK b n st s m) (hm : m ≤ 100) (hl9 : ds.length ≤ 900) (hd : ∀ d ∈ ds, Nb B80 d) (nb9 : Nb (10 ^ 9) (fr a c)) (ha : a.natAbs < 10 ^ 9) (hc : c.natAbs < 10 ^ 9) (hmore : 0 ≤ more ∧ more < 10) :
    ∃ s2, sExpr (fLM gAppend (fVar 7) (fCons (fCall g__law_put (fCons (fVar 1) (fCons (fVar 3) (fCons (fCall g__law_add (fCons (fVar 4) (fCons (fTup (fCons (fC (.int 1)) (fCons (fC (.int 1)) (fNil)))) (fNil)))) (fNil))))) (fNil))) (bE b ds spot k (fr a c) more us n x8 x9) s = .nx (bE b ds spot k (fr a c) more us n x8 x9) s2 ∧ PK b n st s2 (m + 1) ∧ Px b n s s2 := by
  have hl : ds.length ≤ 1000 := by omega
  have hu : ∀ d ∈ ds, ∀ s, EB s d := fun d h' s => nb_eb (hd d h')
  have nb : Nb B80 (fr a c) := nb9.le (by decide)
  exact pk_app (i := 7) h (by omega) rfl (v := .tup (putL ds k (addD (fr a c) (fr 1 1)))) (s1 := s) (call_ok (cons_ok rfl (cons_ok rfl (cons_ok (call_ok (cons_ok rfl (cons_ok (tup_ok (cons_ok c_ok (cons_ok c_ok nil_ok))) nil_ok)) (ladd_nb nb (int_nb (by decide) (by decide)) s)) nil_ok))) (put_ok hl s)) (Ext.refl h.ext.bag) (pap_put hl9 (fun d hd => hu d hd s) (nb_eb ((add_nb nb9 (int_nb (B := 10) (by decide) (by decide))).le (by decide))))
theorem app6 (h : PK b n st s m) (hm : m ≤ 100) (hl9 : ds.length ≤ 900) (hd : ∀ d ∈ ds, Nb B80 d) (nb9 : Nb (10 ^ 9) (fr a c)) (ha : a.natAbs < 10 ^ 9) (hc : c.natAbs < 10 ^ 9) (hmore : 0 ≤ more ∧ more < 10) :
    ∃ s2, sExpr (fLM gAppend (fVar 7) (fCons (fCall g__law_put (fCons (fVar 1) (fCons (fVar 3) (fCons (fCall g__law_neg (fCons (fVar 4) (fNil))) (fNil))))) (fNil))) (bE b ds spot k (fr a c) more us n x8 x9) s = .nx (bE b ds spot k (fr a c) more us n x8 x9) s2 ∧ PK b n st s2 (m + 1) ∧ Px b n s s2 := by
  have hl : ds.length ≤ 1000 := by omega
  have hu : ∀ d ∈ ds, ∀ s, EB s d := fun d h' s => nb_eb (hd d h')
  have nb : Nb B80 (fr a c) := nb9.le (by decide)
  exact pk_app (i := 7) h (by omega) rfl (v := .tup (putL ds k (negD (fr a c)))) (s1 := s) (call_ok (cons_ok rfl (cons_ok rfl (cons_ok (call_ok (cons_ok rfl nil_ok) (lneg_nb nb s)) nil_ok))) (put_ok hl s)) (Ext.refl h.ext.bag) (pap_put hl9 (fun d hd => hu d hd s) (nb_eb (neg_nb nb)))
theorem app7 (h : PK b n st s m) (hm : m ≤ 100) (hl9 : ds.length ≤ 900) (hd : ∀ d ∈ ds, Nb B80 d) (nb9 : Nb (10 ^ 9) (fr a c)) (ha : a.natAbs < 10 ^ 9) (hc : c.natAbs < 10 ^ 9) (hmore : 0 ≤ more ∧ more < 10) :
    ∃ s2, sExpr (fLM gAppend (fVar 7) (fCons (fCall g__law_put (fCons (fVar 1) (fCons (fVar 2) (fCons (fTup (fCons (fC (.int 0)) (fCons (fC (.int 1)) (fNil)))) (fNil))))) (fNil))) (bE b ds spot k (fr a c) more us n x8 x9) s = .nx (bE b ds spot k (fr a c) more us n x8 x9) s2 ∧ PK b n st s2 (m + 1) ∧ Px b n s s2 := by
  have hl : ds.length ≤ 1000 := by omega
  have hu : ∀ d ∈ ds, ∀ s, EB s d := fun d h' s => nb_eb (hd d h')
  have nb : Nb B80 (fr a c) := nb9.le (by decide)
  exact pk_app (i := 7) h (by omega) rfl (v := .tup (putL ds spot (fr 0 1))) (s1 := s) (call_ok (cons_ok rfl (cons_ok rfl (cons_ok (tup_ok (cons_ok c_ok (cons_ok c_ok nil_ok))) nil_ok))) (put_ok hl s)) (Ext.refl h.ext.bag) (pap_put hl9 (fun d hd => hu d hd s) (fr_eb' _ _ (by decide) (by decide)))
theorem app8 (h : PK b n st s m) (hm : m ≤ 100) (hl9 : ds.length ≤ 900) (hd : ∀ d ∈ ds, Nb B80 d) (nb9 : Nb (10 ^ 9) (fr a c)) (ha : a.natAbs < 10 ^ 9) (hc : c.natAbs < 10 ^ 9) (hmore : 0 ≤ more ∧ more < 10) :
    ∃ s2, sExpr (fLM gAppend (fVar 7) (fCons (fCall g__law_scaled (fCons (fVar 1) (fCons (fTup (fCons (fUn gNeg (fC (.int 1))) (fCons (fC (.int 1)) (fNil)))) (fNil)))) (fNil))) (bE b ds spot k (fr a c) more us n x8 x9) s = .nx (bE b ds spot k (fr a c) more us n x8 x9) s2 ∧ PK b n st s2 (m + 1) ∧ Px b n s s2 := by
  have hl : ds.length ≤ 1000 := by omega
  have hu : ∀ d ∈ ds, ∀ s, EB s d := fun d h' s => nb_eb (hd d h')
  have nb : Nb B80 (fr a c) := nb9.le (by decide)
  obtain ⟨s1, e1, g1⟩ := scaled_ok (x := fr (-1) 1) hd (int_nb (by decide) (by decide)) hl s
  refine pk_app (i := 7) h (by omega) rfl (v := .tup (ds.map (mulD · (fr (-1) 1)))) (s1 := s1) (call_ok (cons_ok rfl (cons_ok (tup_ok (cons_ok (un_ok c_ok (d := .int (-1)) (st2 := s) rfl) (cons_ok c_ok nil_ok))) nil_ok)) e1) (K04.Gr.ext g1 h.ext.bag) ?_
  refine pap_of (by rw [List.length_map]; exact hl) fun d hd' => ?_
  obtain ⟨y, hy, rfl⟩ := List.mem_map.mp hd'
  exact nb_eb (by rw [mul_neg1 (hd y hy)]; exact neg_nb (hd y hy))
theorem app9 (h : PK b n st s m) (hm : m ≤ 100) (hl9 : ds.length ≤ 900) (hd : ∀ d ∈ ds, Nb B80 d) (nb9 : Nb (10 ^ 9) (fr a c)) (ha : a.natAbs < 10 ^ 9) (hc : c.natAbs < 10 ^ 9) (hmore : 0 ≤ more ∧ more < 10) :
    ∃ s2, sExpr (fLM gAppend (fVar 7) (fCons (fCall g__law_scaled (fCons (fVar 1) (fCons (fTup (fCons (fC (.int 0)) (fCons (fC (.int 1)) (fNil)))) (fNil)))) (fNil))) (bE b ds spot k (fr a c) more us n x8 x9) s = .nx (bE b ds spot k (fr a c) more us n x8 x9) s2 ∧ PK b n st s2 (m + 1) ∧ Px b n s s2 := by
  have hl : ds.length ≤ 1000 := by omega
  have hu : ∀ d ∈ ds, ∀ s, EB s d := fun d h' s => nb_eb (hd d h')
  have nb : Nb B80 (fr a c) := nb9.le (by decide)
  obtain ⟨s1, e1, g1⟩ := scaled_ok (x := fr 0 1) hd (int_nb (by decide) (by decide)) hl s
  refine pk_app (i := 7) h (by omega) rfl (v := .tup (ds.map (mulD · (fr 0 1)))) (s1 := s1) (call_ok (cons_ok rfl (cons_ok (tup_ok (cons_ok c_ok (cons_ok c_ok nil_ok))) nil_ok)) e1) (K04.Gr.ext g1 h.ext.bag) ?_
  refine pap_of (by rw [List.length_map]; exact hl) fun d hd' => ?_
  obtain ⟨y, hy, rfl⟩ := List.mem_map.mp hd'
  exact nb_eb (by obtain ⟨p, q, rfl, N⟩ := hd y hy; show Nb B80 (low (p * 0) (q * 1)); rw [Int.mul_zero, Int.mul_one, low_zero N.pos]; exact int_nb (by decide) (by decide))
theorem app10 (h : PK b n st s m) (hm : m ≤ 100) (hl9 : ds.length ≤ 900) (hd : ∀ d ∈ ds, Nb B80 d) (nb9 : Nb (10 ^ 9) (fr a c)) (ha : a.natAbs < 10 ^ 9) (hc : c.natAbs < 10 ^ 9) (hmore : 0 ≤ more ∧ more < 10) :
    ∃ s2, sExpr (fLM gAppend (fVar 7) (fCons (fArgs gList (fCons (fVar 1) (fNil))) (fNil))) (bE b ds spot k (fr a c) more us n x8 x9) s = .nx (bE b ds spot k (fr a c) more us n x8 x9) s2 ∧ PK b n st s2 (m + 1) ∧ Px b n s s2 := by
  have hl : ds.length ≤ 1000 := by omega
  have hu : ∀ d ∈ ds, ∀ s, EB s d := fun d h' s => nb_eb (hd d h')
  have nb : Nb B80 (fr a c) := nb9.le (by decide)
  exact pk_app (i := 7) h (by omega) rfl (v := .loc s.length) (s1 := s ++ [.lst ds]) (args_ok (cons_ok rfl nil_ok) (gList_tup ..)) (K04.Gr.ext (Gr.app _) h.ext.bag) (⟨_, lstAt_lst app_new⟩)
theorem app11 (h : PK b n st s m) (hm : m ≤ 100) (hl9 : ds.length ≤ 900) (hd : ∀ d ∈ ds, Nb B80 d) (nb9 : Nb (10 ^ 9) (fr a c)) (ha : a.natAbs < 10 ^ 9) (hc : c.natAbs < 10 ^ 9) (hmore : 0 ≤ more ∧ more < 10) :
    ∃ s2, sExpr (fLM gAppend (fVar 7) (fCons (fSl gSl (fVar 1) (fNo) (fPart (fUn gNeg (fC (.int 1))))) (fNil))) (bE b ds spot k (fr a c) more us n x8 x9) s = .nx (bE b ds spot k (fr a c) more us n x8 x9) s2 ∧ PK b n st s2 (m + 1) ∧ Px b n s s2 := by
  have hl : ds.length ≤ 1000 := by omega
  have hu : ∀ d ∈ ds, ∀ s, EB s d := fun d h' s => nb_eb (hd d h')
  have nb : Nb B80 (fr a c) := nb9.le (by decide)
  exact pk_app (i := 7) h (by omega) rfl (v := .tup (ds.take (ds.length - 1))) (s1 := s) (by rw [← cut_last]; rfl) (Ext.refl h.ext.bag) (pap_sub (by rw [List.length_take]; omega) (fun d hd => hu d hd s) (fun e he => List.mem_of_mem_take he))
theorem app12 (h : PK b n st s m) (hm : m ≤ 100) (hl9 : ds.length ≤ 900) (hd : ∀ d ∈ ds, Nb B80 d) (nb9 : Nb (10 ^ 9) (fr a c)) (ha : a.natAbs < 10 ^ 9) (hc : c.natAbs < 10 ^ 9) (hmore : 0 ≤ more ∧ more < 10) :
    ∃ s2, sExpr (fLM gAppend (fVar 7) (fCons (fBin gAdd (fVar 1) (fTup (fCons (fTup (fCons (fC (.int 0)) (fCons (fC (.int 1)) (fNil)))) (fNil)))) (fNil))) (bE b ds spot k (fr a c) more us n x8 x9) s = .nx (bE b ds spot k (fr a c) more us n x8 x9) s2 ∧ PK b n st s2 (m + 1) ∧ Px b n s s2 := by
  have hl : ds.length ≤ 1000 := by omega
  have hu : ∀ d ∈ ds, ∀ s, EB s d := fun d h' s => nb_eb (hd d h')
  have nb : Nb B80 (fr a c) := nb9.le (by decide)
  exact pk_app (i := 7) h (by omega) rfl (v := .tup (ds ++ [fr 0 1])) (s1 := s) (bin_ok rfl (tup_ok (cons_ok (tup_ok (cons_ok c_ok (cons_ok c_ok nil_ok))) nil_ok)) (by rw [gAdd_tup, if_pos (sumlen (by rw [List.length_singleton]; omega))])) (Ext.refl h.ext.bag) (pap_of (by rw [List.length_append, List.length_singleton]; omega) (fun d hd => by
      rcases List.mem_append.mp hd with q | q
      · exact hu d q s
      · rw [List.mem_singleton.mp q]; exact fr_eb' _ _ (by decide) (by decide)))
theorem app13 (h : PK b n st s m) (hm : m ≤ 100) (hl9 : ds.length ≤ 900) (hd : ∀ d ∈ ds, Nb B80 d) (nb9 : Nb (10 ^ 9) (fr a c)) (ha : a.natAbs < 10 ^ 9) (hc : c.natAbs < 10 ^ 9) (hmore : 0 ≤ more ∧ more < 10) :
    ∃ s2, sExpr (fLM gAppend (fVar 7) (fCons (fRv (fVar 1) (fUn gNeg (fC (.int 1)))) (fNil))) (bE b ds spot k (fr a c) more us n x8 x9) s = .nx (bE b ds spot k (fr a c) more us n x8 x9) s2 ∧ PK b n st s2 (m + 1) ∧ Px b n s s2 := by
  have hl : ds.length ≤ 1000 := by omega
  have hu : ∀ d ∈ ds, ∀ s, EB s d := fun d h' s => nb_eb (hd d h')
  have nb : Nb B80 (fr a c) := nb9.le (by decide)
  exact pk_app (i := 7) h (by omega) rfl (v := .tup ds.reverse) (s1 := s) (by rw [fRv_ap, v_ok (d := .tup ds) rfl, Out.bind_ok, un_ok (d := .int (-1)) (st2 := s) c_ok rfl, Out.bind_ok, gRev_ok]; rfl) (Ext.refl h.ext.bag) (pap_sub (by rw [List.length_reverse]; omega) (fun d hd => hu d hd s) (fun e he => List.mem_reverse.mp he))
theorem app14 (h : PK b n st s m) (hm : m ≤ 100) (hl9 : ds.length ≤ 900) (hd : ∀ d ∈ ds, Nb B80 d) (nb9 : Nb (10 ^ 9) (fr a c)) (ha : a.natAbs < 10 ^ 9) (hc : c.natAbs < 10 ^ 9) (hmore : 0 ≤ more ∧ more < 10) :
    ∃ s2, sExpr (fLM gAppend (fVar 7) (fCons (fBin gIx (fLst (fCons (fC .non) (fCons (fC (.int 0)) (fCons (fTup (fNil)) (fCons (fLst (fNil)) (fCons (fC (.str ("ab" : Str))) (fCons (fC (.bl true)) (fCons (fTup (fCons (fTup (fCons (fC (.int 0)) (fCons (fC (.int 1)) (fNil)))) (fCons (fC (.int 0)) (fNil)))) (fCons (fTup (fCons (fVar 1) (fNil))) (fNil)))))))))) (fCall g__law_take (fCons (fVar 0) (fCons (fC (.int 8)) (fNil))))) (fNil))) (bE b ds spot k (fr a c) more us n x8 x9) s = .nx (bE b ds spot k (fr a c) more us n x8 x9) s2 ∧ PK b n st s2 (m + 1) ∧ Px b n s s2 := by
  have hl : ds.length ≤ 1000 := by omega
  have hu : ∀ d ∈ ds, ∀ s, EB s d := fun d h' s => nb_eb (hd d h')
  have nb : Nb B80 (fr a c) := nb9.le (by decide)
  obtain ⟨r, s1, er, r0, r1, x1⟩ := take_ok ((h.ext.bag.gr (Gr.app [.lst []])).gr (Gr.app [.lst (th8 s.length ds)])) (m := 8) (by decide) (by decide)
  obtain ⟨j, rfl⟩ : ∃ j : Nat, r = (j : Int) := ⟨r.toNat, by omega⟩
  have hj : j < (th8 s.length ds).length := by show j < 8; omega
  have lb := h.ext.bag.lt
  have n1 : s1[(s ++ [Ob.lst []]).length]? = some (.lst (th8 s.length ds)) := x1.keep _ _ (by rw [List.length_append]; omega) app_new
  have n0 : s1[s.length]? = some (.lst []) := x1.keep _ _ (by omega) (app_at app_new _)
  have x0 : Ext b s (s ++ [Ob.lst []] ++ [Ob.lst (th8 s.length ds)]) := by rw [List.append_assoc]; exact K04.Gr.ext (Gr.app _) h.ext.bag
  refine pk_app (i := 7) h (by omega) rfl (v := (th8 s.length ds)[j]) (s1 := s1) (bin_ok (lst_ok (ds := th8 s.length ds) (cons_ok c_ok (cons_ok c_ok (cons_ok (tup_ok nil_ok) (cons_ok (lst_ok nil_ok) (cons_ok c_ok (cons_ok c_ok (cons_ok (tup_ok (cons_ok (tup_ok (cons_ok c_ok (cons_ok c_ok nil_ok))) (cons_ok c_ok nil_ok))) (cons_ok (tup_ok (cons_ok rfl nil_ok)) nil_ok))))))))) (call_ok (cons_ok rfl (cons_ok c_ok nil_ok)) er) (by rw [gIx_loc _ _ (lstAt_lst n1), atI_nat (List.getElem?_eq_getElem hj)]; rfl)) (x0.trans x1) ?_
  exact th8_ep hd ⟨_, lstAt_lst n0⟩ _ (List.getElem_mem _)
end
end K04

set_option Elab.async false
set_option linter.all false
set_option maxRecDepth 100000
set_option maxHeartbeats 4000000
namespace K04
open PySem MP
theorem bent_ok {st : S} {b spot : Nat} {ds : List D} (hb : Bag st b) (hp : ∀ d ∈ ds, PEnt d) (hs : spot < ds.length) (hpp : PPos ds[spot]) (h11 : ds.length ≤ 11) :
    ∃ (n : Nat) (ps : List D) (st' : S), g__law_bent [.loc b, .tup ds, .int (spot : Nat)] st = .ok (.loc n) st' ∧ Ext b st st' ∧ n ≠ b ∧ st'[n]? = some (.lst ps) ∧ ps.length ≤ 100 ∧ ∀ p ∈ ps, EPap st' p := by
  have hd : ∀ d ∈ ds, Nb B80 d := fun d h => ((hp d h).h12.le (C := B80) (by decide)).nb (by decide)
  have hd9 : ∀ d ∈ ds, Nb (10 ^ 9) d := fun d h => (hp d h).h12.nb (by decide)
  have hu : ∀ d ∈ ds, ∀ s, EB s d := fun d h' s => nb_eb (hd d h')
  have lb := hb.lt
  obtain ⟨kk, s1, e1, k0, k1, x1⟩ := take_ok hb (m := (ds.length : Int)) (by omega) (divok_small (by omega) (Nat.lt_of_lt_of_le (show (ds.length : Int).natAbs < 2 ^ 10 by omega) (Nat.pow_le_pow_right (by decide) (by decide))))
  obtain ⟨k, rfl⟩ : ∃ k : Nat, kk = (k : Int) := ⟨kk.toNat, by omega⟩
  have hk : k < ds.length := by omega
  have i1 : L2.atI ds ((k : Nat) : Int) = some ds[k] := atI_nat (List.getElem?_eq_getElem hk)
  obtain ⟨a, c, ea, N⟩ := hd9 ds[k] (List.getElem_mem _)
  rw [ea] at i1
  obtain ⟨mo, s2, e2, m0, m1, x2⟩ := take_ok x1.bag (m := 5) (by decide) (by decide)
  -- the unit
  obtain ⟨m, em, mp, m9⟩ := hpp
  obtain ⟨g', x, y, hg', q3, q4, hy, hr', e'⟩ := low_spec (p := m) (q := 12) (by decide)
  have lx : x.natAbs ≤ m.natAbs := by rw [q3, Int.natAbs_mul]; exact Nat.le_mul_of_pos_left _ (by omega)
  have ly : y.natAbs ≤ 12 := by
    have : y.natAbs ≤ (12 : Int).natAbs := by rw [q4, Int.natAbs_mul]; exact Nat.le_mul_of_pos_left _ (by omega)
    exact this
  have hx : 0 < x := by
    rcases Int.lt_trichotomy x 0 with h | h | h
    · have := Int.mul_neg_of_pos_of_neg hg' h
      omega
    · subst h
      rw [Int.mul_zero] at q3
      omega
    · exact h
  have i2 : L2.atI ds ((spot : Nat) : Int) = some (fr x y) := by
    rw [← e', ← em]
    exact atI_nat (List.getElem?_eq_getElem hs)
  have en := num_pos (p := y) (q := x) hx (sm_lt (Nat.lt_of_le_of_lt (Nat.le_trans lx (show m.natAbs ≤ 10 ^ 9 by omega)) (by decide +kernel))) s2
  have nu : Nb (10 ^ 10) (low y x) := low_nb hx (by omega) (by omega)
  obtain ⟨s3, e3, g3⟩ := scaled_ok (x := low y x) hd (nu.le (by decide)) (by omega) s2
  obtain ⟨us, hus⟩ : ∃ us, us = ds.map (mulD · (low y x)) := ⟨_, rfl⟩
  have hun : ∀ d ∈ us, Nb B80 d := fun d h => by
    rw [hus] at h
    obtain ⟨z, hz, rfl⟩ := List.mem_map.mp h
    exact (mul_nb (hd9 z hz) nu).le (by decide)
  have hul : us.length = ds.length := by rw [hus, List.length_map]
  rw [← hus] at e3
  have huu : ∀ d ∈ us, ∀ s, EB s d := fun d h' s => nb_eb (hun d h')
  have x3 := (x1.trans x2).gr g3
  -- the third paper
  obtain ⟨t9, s4, e4, t0, t1, x4⟩ := take_ok x3.bag (m := 9) (by decide) (by decide)
  obtain ⟨t4, s5, e5, u0, u1, x5⟩ := take_ok x4.bag (m := 4) (by decide) (by decide)
  have en2 := num_pos (p := 1 + t9) (q := 1 + t4) (by omega) (sm_lt (by omega)) s5
  have nl : Nb (10 ^ 10) (low (1 + t9) (1 + t4)) := low_nb (by omega) (by omega) (by omega)
  obtain ⟨s6, e6, g6⟩ := scaled_ok (x := low (1 + t9) (1 + t4)) hd (nl.le (by decide)) (by omega) s5
  have x6 := ((x3.trans x4).trans x5).gr g6
  have x7 := x6.gr (Gr.app [Ob.lst [.tup ds, .tup us, .tup (ds.map (mulD · (low (1 + t9) (1 + t4))))]])
  have P0 : PK b s6.length st (s6 ++ [Ob.lst [.tup ds, .tup us, .tup (ds.map (mulD · (low (1 + t9) (1 + t4))))]]) 3 := by
    refine ⟨x7, hb, x6.len, _, app_new, by show 3 ≤ 3; decide, fun p hp' => ?_⟩
    have : p = .tup ds ∨ p = .tup us ∨ p = .tup (ds.map (mulD · (low (1 + t9) (1 + t4)))) := by simpa using hp'
    rcases this with q | q | q <;> rw [q]
    · exact pap_of (by omega) (fun d h => hu d h _)
    · exact pap_of (by omega) (fun d h => huu d h _)
    · refine pap_of (by rw [List.length_map]; omega) (fun d h => ?_)
      obtain ⟨z, hz, rfl⟩ := List.mem_map.mp h
      exact nb_eb ((mul_nb (hd9 z hz) nl).le (by decide))
  generalize hsP : s6 ++ [Ob.lst [.tup ds, .tup us, .tup (ds.map (mulD · (low (1 + t9) (1 + t4))))]] = sP at P0
  obtain ⟨y8, s7, e7, P1, _⟩ := t1_ok (ds := ds) (spot := spot) (k := k) (one := fr a c) (more := 2 + mo) (x9 := none) P0 (by decide) (by omega) huu
  obtain ⟨z8, z9, s8, e8, P2, _⟩ := pl_ok (us := us) (spot := spot) (k := k) (one := fr a c) (more := 2 + mo) (x8 := y8) P1 (by decide) (by omega) hp hu
  have nb9 : Nb (10 ^ 9) (fr a c) := ⟨a, c, rfl, N⟩
  have hm : 0 ≤ 2 + mo ∧ 2 + mo < 10 := by omega
  obtain ⟨w0, a0, Q0, _⟩ := app0 (us := us) (spot := spot) (k := k) (x8 := z8) (x9 := z9) P2 (by decide) (by omega) hd nb9 N.top N.bot hm
  obtain ⟨w1, a1, Q1, _⟩ := app1 (us := us) (spot := spot) (k := k) (x8 := z8) (x9 := z9) Q0 (by decide) (by omega) hd nb9 N.top N.bot hm
  obtain ⟨w2, a2, Q2, _⟩ := app2 (us := us) (spot := spot) (k := k) (x8 := z8) (x9 := z9) Q1 (by decide) (by omega) hd nb9 N.top N.bot hm
  obtain ⟨w3, a3, Q3, _⟩ := app3 (us := us) (spot := spot) (k := k) (x8 := z8) (x9 := z9) Q2 (by decide) (by omega) hd nb9 N.top N.bot hm
  obtain ⟨w4, a4, Q4, _⟩ := app4 (us := us) (spot := spot) (k := k) (x8 := z8) (x9 := z9) Q3 (by decide) (by omega) hd nb9 N.top N.bot hm
  obtain ⟨w5, a5, Q5, _⟩ := app5 (us := us) (spot := spot) (k := k) (x8 := z8) (x9 := z9) Q4 (by decide) (by omega) hd nb9 N.top N.bot hm
  obtain ⟨w6, a6, Q6, _⟩ := app6 (us := us) (spot := spot) (k := k) (x8 := z8) (x9 := z9) Q5 (by decide) (by omega) hd nb9 N.top N.bot hm
  obtain ⟨w7, a7, Q7, _⟩ := app7 (us := us) (spot := spot) (k := k) (x8 := z8) (x9 := z9) Q6 (by decide) (by omega) hd nb9 N.top N.bot hm
  obtain ⟨w8, a8, Q8, _⟩ := app8 (us := us) (spot := spot) (k := k) (x8 := z8) (x9 := z9) Q7 (by decide) (by omega) hd nb9 N.top N.bot hm
  obtain ⟨w9, a9, Q9, _⟩ := app9 (us := us) (spot := spot) (k := k) (x8 := z8) (x9 := z9) Q8 (by decide) (by omega) hd nb9 N.top N.bot hm
  obtain ⟨w10, a10, Q10, _⟩ := app10 (us := us) (spot := spot) (k := k) (x8 := z8) (x9 := z9) Q9 (by decide) (by omega) hd nb9 N.top N.bot hm
  obtain ⟨w11, a11, Q11, _⟩ := app11 (us := us) (spot := spot) (k := k) (x8 := z8) (x9 := z9) Q10 (by decide) (by omega) hd nb9 N.top N.bot hm
  obtain ⟨w12, a12, Q12, _⟩ := app12 (us := us) (spot := spot) (k := k) (x8 := z8) (x9 := z9) Q11 (by decide) (by omega) hd nb9 N.top N.bot hm
  obtain ⟨w13, a13, Q13, _⟩ := app13 (us := us) (spot := spot) (k := k) (x8 := z8) (x9 := z9) Q12 (by decide) (by omega) hd nb9 N.top N.bot hm
  obtain ⟨w14, a14, Q14, _⟩ := app14 (us := us) (spot := spot) (k := k) (x8 := z8) (x9 := z9) Q13 (by decide) (by omega) hd nb9 N.top N.bot hm
  obtain ⟨acc, hn, hl, ha⟩ := Q14.at_
  have le := Q14.le
  refine ⟨s6.length, acc, w14, ?_, Q14.ext, by omega, hn, by omega, ha⟩
  have z : m__law_bent [some (.loc b), some (.tup ds), some (.int (spot : Nat)), none, none, none, none, none, none, none, none] st = .rt (.loc s6.length) w14 := by
    unfold m__law_bent
    refine seq_nx (ρ1 := [some (.loc b), some (.tup ds), some (.int (spot : Nat)), some (.int (k : Nat)), none, none, none, none, none, none, none]) (st1 := s1) (set_ok (call_ok (cons_ok rfl (cons_ok (args_ok (cons_ok rfl nil_ok) (gLen_tup ..)) nil_ok)) e1)) ?_
    refine seq_nx (ρ1 := [some (.loc b), some (.tup ds), some (.int (spot : Nat)), some (.int (k : Nat)), some (fr a c), none, none, none, none, none, none]) (st1 := s1) (set_ok (bin_ok rfl rfl (by simp [i1]))) ?_
    refine seq_nx (ρ1 := [some (.loc b), some (.tup ds), some (.int (spot : Nat)), some (.int (k : Nat)), some (fr a c), some (.int (2 + mo)), none, none, none, none, none]) (st1 := s2) (set_ok (bin_ok c_ok (call_ok (cons_ok rfl (cons_ok c_ok nil_ok)) e2) rfl)) ?_
    refine seq_nx (ρ1 := [some (.loc b), some (.tup ds), some (.int (spot : Nat)), some (.int (k : Nat)), some (fr a c), some (.int (2 + mo)), some (.tup us), none, none, none, none]) (st1 := s3) (set_ok (call_ok (cons_ok rfl (cons_ok (call_ok (cons_ok (bin_ok (bin_ok rfl rfl (d := fr x y) (st3 := s2) (by simp [i2])) c_ok (d := .int y) (st3 := s2) (by simp)) (cons_ok (bin_ok (bin_ok rfl rfl (d := fr x y) (st3 := s2) (by simp [i2])) c_ok (d := .int x) (st3 := s2) (by simp)) nil_ok)) en) nil_ok)) e3)) ?_
    refine seq_nx (ρ1 := bE b ds spot k (fr a c) (2 + mo) us s6.length none none) (st1 := sP) (by rw [← hsP]; exact set_ok (lst_ok (cons_ok rfl (cons_ok rfl (cons_ok (call_ok (cons_ok rfl (cons_ok (call_ok (cons_ok (bin_ok c_ok (call_ok (cons_ok rfl (cons_ok c_ok nil_ok)) e4) rfl) (cons_ok (bin_ok c_ok (call_ok (cons_ok rfl (cons_ok c_ok nil_ok)) e5) rfl) nil_ok)) en2) nil_ok)) e6) nil_ok))))) ?_
    refine seq_nx (ρ1 := bE b ds spot k (fr a c) (2 + mo) us s6.length y8 none) (st1 := s7) e7 ?_
    refine seq_nx (ρ1 := bE b ds spot k (fr a c) (2 + mo) us s6.length z8 z9) (st1 := s8) e8 ?_
    refine seq_nx a0 ?_
    refine seq_nx a1 ?_
    refine seq_nx a2 ?_
    refine seq_nx a3 ?_
    refine seq_nx a4 ?_
    refine seq_nx a5 ?_
    refine seq_nx a6 ?_
    refine seq_nx a7 ?_
    refine seq_nx a8 ?_
    refine seq_nx a9 ?_
    refine seq_nx a10 ?_
    refine seq_nx a11 ?_
    refine seq_nx a12 ?_
    refine seq_nx a13 ?_
    refine seq_nx a14 ?_
    exact ret_ok rfl
  exact den_end rfl z
end K04

set_option Elab.async false
set_option linter.all false
set_option maxRecDepth 100000
set_option maxHeartbeats 4000000
namespace K04
open PySem MP
def RowOk (b n w : Nat) (s : S) (d : D) : Prop := ∃ (r f g : Nat) (p : D) (Fs Gs : List D), d = .loc r ∧ s[r]? = some (.lst [.loc f, .loc g, p]) ∧ s[f]? = some (.lst Fs) ∧ s[g]? = some (.lst Gs) ∧ (r ≠ b ∧ r ≠ n ∧ f ≠ b ∧ f ≠ n ∧ g ≠ b ∧ g ≠ n) ∧ Gs.length = Fs.length ∧ Fs.length ≤ 12 ∧ (∀ d ∈ Fs, GForm B80 w d) ∧ (∀ d ∈ Gs, isBl d = true) ∧ EPap s p
theorem RowOk.px {b n w : Nat} {s s' : S} {d : D} (h : RowOk b n w s d) (x : Px b n s s') (l : Ls s s') : RowOk b n w s' d := by
  obtain ⟨r, f, g, p, Fs, Gs, e, h1, h2, h3, ⟨a1, a2, a3, a4, a5, a6⟩, h4, h5, h6, h7, h8⟩ := h
  exact ⟨r, f, g, p, Fs, Gs, e, x.keep _ _ a1 a2 h1, x.keep _ _ a3 a4 h2, x.keep _ _ a5 a6 h3, ⟨a1, a2, a3, a4, a5, a6⟩, h4, h5, h6, h7, h8.ls l⟩
structure RK (b n w : Nat) (st s : S) (m : Nat) : Prop where
  ext : Ext b st s
  bag : Bag st b
  le : st.length ≤ n
  at_ : ∃ acc, s[n]? = some (.lst acc) ∧ acc.length ≤ m ∧ ∀ r ∈ acc, RowOk b n w s r
theorem RK.nlt {b n w m : Nat} {st s : S} (h : RK b n w st s m) : n < s.length := by
  obtain ⟨acc, hn, _, _⟩ := h.at_
  exact lt_of_at hn
theorem RK.gr {b n w m : Nat} {st s s' : S} (h : RK b n w st s m) (x : Ext b s s') : RK b n w st s' m := by
  obtain ⟨acc, hn, hl, hp⟩ := h.at_
  have lb := h.bag.lt
  have nb : n ≠ b := by have := h.le; omega
  exact ⟨h.ext.trans x, h.bag, h.le, acc, x.keep n _ nb hn, hl, fun p hp' => (hp p hp').px x.px x.ls⟩
/-- row.append([A, B, C]) -/
theorem row_app {b n w m i f g : Nat} {st s s1 s2 s3 : S} {ρ : En} {A B C : FE} {p : D} {Fs Gs : List D} (h : RK b n w st s m) (hm : m ≤ 900) (hr : ρ[i]? = some (some (.loc n)))
    (hA : A ρ s = .ok (.loc f) s1) (hB : B ρ s1 = .ok (.loc g) s2) (hC : C ρ s2 = .ok p s3) (g3 : Gr s s3) (hf : s3[f]? = some (.lst Fs)) (hg : s3[g]? = some (.lst Gs)) (nf : f ≠ b ∧ f ≠ n) (ng : g ≠ b ∧ g ≠ n)
    (hl : Gs.length = Fs.length) (h12 : Fs.length ≤ 12) (hF : ∀ d ∈ Fs, GForm B80 w d) (hG : ∀ d ∈ Gs, isBl d = true) (hp : EPap s3 p) :
    ∃ s', sExpr (fLM gAppend (fVar i) (fCons (fLst (fCons A (fCons B (fCons C (fNil))))) (fNil))) ρ s = .nx ρ s' ∧ RK b n w st s' (m + 1) ∧ Px b n s s' := by
  obtain ⟨acc, hn, hla, hac⟩ := h.at_
  have lb := h.ext.bag.lt
  have lb0 := h.bag.lt
  have nb : n ≠ b := by have := h.le; omega
  have nl := lt_of_at hn
  have n3 := g3.keep _ _ hn
  have l3 := lt_of_at n3
  have n4 : (s3 ++ [Ob.lst [.loc f, .loc g, p]])[n]? = some (.lst acc) := app_at n3 _
  have hr4 : s3.length ≠ n := by omega
  have hrb : s3.length ≠ b := by have := g3.len; omega
  have x4 : Ext b s (s3 ++ [Ob.lst [.loc f, .loc g, p]]) := (K04.Gr.ext g3 h.ext.bag).gr (Gr.app _)
  have x5 := (h.ext.trans x4).wr (o := .lst (acc ++ [.loc s3.length])) h.bag h.le
  have px : Px b n s ((s3 ++ [Ob.lst [.loc f, .loc g, p]]).set n (.lst (acc ++ [.loc s3.length]))) := ⟨x5.bag, fun k o k1 k2 e => by rw [set_ne k2]; exact x4.keep k o k1 e⟩
  have ls : Ls s ((s3 ++ [Ob.lst [.loc f, .loc g, p]]).set n (.lst (acc ++ [.loc s3.length]))) := x4.ls.trans set_ls
  refine ⟨_, app_ok hr (lstAt_lst hn) (lst_ok (cons_ok hA (cons_ok hB (cons_ok hC nil_ok)))) n4 (short (by omega)), ⟨x5, h.bag, h.le, _, set_at (lt_of_at n4), by rw [List.length_append, List.length_singleton]; omega, fun r hr' => ?_⟩, px⟩
  rcases List.mem_append.mp hr' with q | q
  · exact (hac r q).px px ls
  · rw [List.mem_singleton.mp q]
    refine ⟨s3.length, f, g, p, Fs, Gs, rfl, by rw [set_ne hr4]; exact app_new, by rw [set_ne nf.2]; exact app_at hf _, by rw [set_ne ng.2]; exact app_at hg _, ⟨hrb, hr4, nf.1, nf.2, ng.1, ng.2⟩, hl, h12, hF, hG, (hp.ls (Gr.ls (Gr.app _))).ls set_ls⟩
/-- xs[:j] + [v] + xs[j + 1:] of lists -/
theorem splice_ok {s : S} {ρ : En} {vf vj vx f j : Nat} {v : D} {Fs : List D} (hf : s[f]? = some (.lst Fs)) (hl : Fs.length ≤ 12) (h1 : ρ[vf]? = some (some (.loc f))) (h2 : ρ[vj]? = some (some (.int (j : Nat)))) (h3 : ρ[vx]? = some (some v)) :
    ∃ (l : Nat) (s' : S), (fBin gAdd (fBin gAdd (fSl gSl (fVar vf) (fNo) (fPart (fVar vj))) (fLst (fCons (fVar vx) (fNil)))) (fSl gSl (fVar vf) (fPart (fBin gAdd (fVar vj) (fC (.int 1)))) (fNo))) ρ s = .ok (.loc l) s' ∧ Gr s s' ∧ s.length ≤ l ∧ s'[l]? = some (.lst (putL Fs j v)) := by
  have g1 := gSl_loc (lo := none) (hi := some ((j : Nat) : Int)) (lstAt_lst hf)
  rw [cut_take] at g1
  have b1 : (fSl gSl (fVar vf) (fNo) (fPart (fVar vj))) ρ s = .ok (.loc s.length) (s ++ [Ob.lst (Fs.take j)]) := by
    rw [fSl_ap, v_ok h1, Out.bind_ok, fNo_ap, Out.bind_ok]
    have : fPart (fVar vj) ρ s = .ok (some ((j : Nat) : Int)) s := by
      unfold fPart
      rw [v_ok h2]
      rfl
    rw [this, Out.bind_ok, g1]
    rfl
  have k1 : (s ++ [Ob.lst (Fs.take j)] ++ [Ob.lst [v]])[s.length]? = some (.lst (Fs.take j)) := app_at app_new _
  have k2 : (s ++ [Ob.lst (Fs.take j)] ++ [Ob.lst [v]])[(s ++ [Ob.lst (Fs.take j)]).length]? = some (.lst [v]) := app_new
  have ga := gAdd_loc k1 k2 (sumlen (by rw [List.length_take, List.length_singleton]; omega))
  have b2 := lst_ok (st := s ++ [Ob.lst (Fs.take j)]) (cons_ok (v_ok h3) nil_ok)
  generalize hs2 : s ++ [Ob.lst (Fs.take j)] ++ [Ob.lst [v]] = s2 at ga k1 k2 b2
  have gr2 : Gr s s2 := by rw [← hs2, List.append_assoc]; exact Gr.app _
  have f3 : lstAt (s2 ++ [Ob.lst (Fs.take j ++ [v])]) f = some Fs := (gr2.trans (Gr.app _)).lst (lstAt_lst hf)
  have g3 := gSl_loc (lo := some (((j + 1 : Nat)) : Int)) (hi := none) f3
  rw [cut_drop] at g3
  have b3 : (fSl gSl (fVar vf) (fPart (fBin gAdd (fVar vj) (fC (.int 1)))) (fNo)) ρ (s2 ++ [Ob.lst (Fs.take j ++ [v])]) = .ok (.loc (s2 ++ [Ob.lst (Fs.take j ++ [v])]).length) (s2 ++ [Ob.lst (Fs.take j ++ [v])] ++ [Ob.lst (Fs.drop (j + 1))]) := by
    rw [fSl_ap, v_ok h1, Out.bind_ok]
    have : fPart (fBin gAdd (fVar vj) (fC (.int 1))) ρ (s2 ++ [Ob.lst (Fs.take j ++ [v])]) = .ok (some (((j + 1 : Nat)) : Int)) (s2 ++ [Ob.lst (Fs.take j ++ [v])]) := by
      unfold fPart
      rw [bin_ok (v_ok h2) c_ok (d := .int ((j : Int) + 1)) (st3 := s2 ++ [Ob.lst (Fs.take j ++ [v])]) rfl]
      rfl
    rw [this, Out.bind_ok, fNo_ap, Out.bind_ok, g3]
    rfl
  have k3 : (s2 ++ [Ob.lst (Fs.take j ++ [v])] ++ [Ob.lst (Fs.drop (j + 1))])[s2.length]? = some (.lst (Fs.take j ++ [v])) := app_at app_new _
  have k4 : (s2 ++ [Ob.lst (Fs.take j ++ [v])] ++ [Ob.lst (Fs.drop (j + 1))])[(s2 ++ [Ob.lst (Fs.take j ++ [v])]).length]? = some (.lst (Fs.drop (j + 1))) := app_new
  have gb := gAdd_loc k3 k4 (sumlen (by rw [List.length_append, List.length_take, List.length_singleton, List.length_drop]; omega))
  have gx : Gr s (s2 ++ [Ob.lst (Fs.take j ++ [v])] ++ [Ob.lst (Fs.drop (j + 1))]) := by rw [List.append_assoc]; exact gr2.trans (Gr.app _)
  exact ⟨_, _, bin_ok (bin_ok b1 b2 ga) b3 gb, gx.trans (Gr.app _), gx.len, app_new⟩
/-- xs + [v] -/
theorem cat_ok {s : S} {ρ : En} {vf f : Nat} {e : FE} {v : D} {Fs : List D} (hf : s[f]? = some (.lst Fs)) (hl : Fs.length ≤ 12) (h1 : ρ[vf]? = some (some (.loc f))) (he : e ρ s = .ok v s) :
    (fBin gAdd (fVar vf) (fLst (fCons e (fNil)))) ρ s = .ok (.loc (s ++ [Ob.lst [v]]).length) (s ++ [Ob.lst [v]] ++ [Ob.lst (Fs ++ [v])]) :=
  bin_ok (v_ok h1) (lst_ok (cons_ok he nil_ok)) (gAdd_loc (app_at hf _) app_new (sumlen (by rw [List.length_singleton]; omega)))
theorem putL_mem {ds : List D} {k : Nat} {o d : D} (h : d ∈ putL ds k o) : d ∈ ds ∨ d = o := by
  unfold putL at h
  rcases List.mem_append.mp h with q | q
  · rcases List.mem_append.mp q with q | q
    · exact .inl (List.mem_of_mem_take q)
    · exact .inr (List.mem_singleton.mp q)
  · exact .inl (List.mem_of_mem_drop q)
theorem putL_len {ds : List D} {k : Nat} {o : D} (h : k < ds.length) : (putL ds k o).length = ds.length := by
  unfold putL
  rw [List.length_append, List.length_append, List.length_take, List.length_singleton, List.length_drop]
  omega
/-! ### pairs of forms and flags -/
def facOf : D → D → Fac
  | .tup es, .bl x => (es, x)
  | _, _ => ([], false)
theorem with_ok {w nf ng : Nat} {Fs Gs : List D} {s : S} (hf : s[nf]? = some (.lst Fs)) (hg : s[ng]? = some (.lst Gs)) (hl : Gs.length = Fs.length) (h12 : Fs.length ≤ 12) (hF : ∀ d ∈ Fs, GForm B80 w d) (hG : ∀ d ∈ Gs, isBl d = true) :
    ∃ (F : List Fac), g__law_with [.loc nf, .loc ng] s = .ok (.loc s.length) (s ++ [Ob.lst (F.map fD)]) ∧ F.length = Fs.length ∧ ∀ f ∈ F, FOk w f := by
  have ln := gLen_loc s (lstAt_lst hf)
  have er : (fRng1 (fCons (fArgs gLen (fCons (fVar 0) (fNil))) (fNil))) [some (.loc nf), some (.loc ng), none] s = .ok (rngK 0 Fs.length, fun _ => true) s := by
    unfold fRng1
    rw [show (fCons (fArgs gLen (fCons (fVar 0) (fNil))) (fNil)) [some (.loc nf), some (.loc ng), none] s = .ok [.int (Fs.length : Int)] s from cons_ok (args_ok (cons_ok rfl nil_ok) ln) nil_ok, Out.bind_ok]
    simp only
    rw [if_pos (small_nat (by omega)), rng_k]
  have e1 := fLc_map (own := [2]) (fi := fRng1 (fCons (fArgs gLen (fCons (fVar 0) (fNil))) (fNil))) (g := tgN 2) (fe := fTup (fCons (fBin gIx (fVar 0) (fVar 2)) (fCons (fBin gIx (fVar 1) (fVar 2)) (fNil)))) (F := fun d => match d with
    | .int i => fD (facOf (Fs.getD i.toNat .non) (Gs.getD i.toNat .non))
    | _ => .non) er (by rw [rngK_len]; exact short (by omega)) (fun _ => rfl) (fun d hd xs => by
    rw [rngK_eq] at hd
    obtain ⟨i, hi, rfl⟩ := List.mem_map.mp hd
    rw [List.mem_range] at hi
    rw [Nat.zero_add]
    have i1 : L2.atI Fs ((i : Nat) : Int) = some Fs[i] := atI_nat (by simp [hi])
    have i2 : L2.atI Gs ((i : Nat) : Int) = some (Gs[i]'(by omega)) := atI_nat (List.getElem?_eq_getElem (by omega))
    have l1 : lstAt (s ++ [Ob.lst xs]) nf = some Fs := lstAt_lst (app_at hf _)
    have l2 : lstAt (s ++ [Ob.lst xs]) ng = some Gs := lstAt_lst (app_at hg _)
    refine ⟨[some (.loc nf), some (.loc ng), some (.int (i : Int))], rfl, ?_⟩
    show _ = Out.ok (fD (facOf (Fs.getD ((i : Nat) : Int).toNat .non) (Gs.getD ((i : Nat) : Int).toNat .non))) _
    rw [show Fs.getD ((i : Nat) : Int).toNat .non = Fs[i] by simp [hi], show Gs.getD ((i : Nat) : Int).toNat .non = Gs[i]'(by omega) by simp [show i < Gs.length by omega]]
    obtain ⟨es, e0, _, _⟩ := hF Fs[i] (List.getElem_mem _)
    obtain ⟨x, ex⟩ : ∃ x, Gs[i]'(by omega) = .bl x := by
      have := hG (Gs[i]'(by omega)) (List.getElem_mem _)
      cases q : Gs[i]'(by omega) <;> rw [q] at this <;> first | exact ⟨_, rfl⟩ | cases this
    rw [e0, ex]
    rw [e0] at i1
    rw [ex] at i2
    exact tup_ok (cons_ok (bin_ok rfl rfl (d := .tup es) (st3 := s ++ [Ob.lst xs]) (by rw [gIx_loc _ _ l1, i1]; rfl)) (cons_ok (bin_ok rfl rfl (d := .bl x) (st3 := s ++ [Ob.lst xs]) (by rw [gIx_loc _ _ l2, i2]; rfl)) nil_ok)))
  have em : (rngK 0 Fs.length).map (fun d => match d with
    | .int i => fD (facOf (Fs.getD i.toNat .non) (Gs.getD i.toNat .non))
    | _ => .non) = ((List.range Fs.length).map fun i => facOf (Fs.getD i .non) (Gs.getD i .non)).map fD := by
    rw [rngK_eq, List.map_map, List.map_map]
    refine List.map_congr_left fun i hi => ?_
    show fD (facOf (Fs.getD (((0 + i : Nat)) : Int).toNat .non) (Gs.getD (((0 + i : Nat)) : Int).toNat .non)) = _
    rw [Nat.zero_add]
    rfl
  rw [em] at e1
  refine ⟨_, den_end (f := m__law_with) rfl (ret_ok e1), by simp, fun f hf' => ?_⟩
  obtain ⟨i, hi, rfl⟩ := List.mem_map.mp hf'
  rw [List.mem_range] at hi
  rw [show Fs.getD i .non = Fs[i] by simp [hi], show Gs.getD i .non = Gs[i]'(by omega) by simp [show i < Gs.length by omega]]
  obtain ⟨es, e0, e1, e2⟩ := hF Fs[i] (List.getElem_mem _)
  obtain ⟨x, ex⟩ : ∃ x, Gs[i]'(by omega) = .bl x := by
    have := hG (Gs[i]'(by omega)) (List.getElem_mem _)
    cases q : Gs[i]'(by omega) <;> rw [q] at this <;> first | exact ⟨_, rfl⟩ | cases this
  rw [e0, ex]
  exact ⟨e1, e2⟩
end K04

set_option Elab.async false
set_option linter.all false
set_option maxRecDepth 100000
set_option maxHeartbeats 4000000
namespace K04
open PySem MP
structure Z where
  (b n w cnt nf be le ab ev nv id spot lit : Nat)
  (Fs Be Le Ab Ev Nv Id ds : List D)
  (dr : D)
abbrev Z.env (z : Z) (x14 x15 x16 x17 x18 : Option D) : En := [some (.loc z.b), some (.loc z.nf), some (.tup z.ds), some (.int (z.spot : Nat)), some z.dr, some (.int (z.cnt : Nat)), some (.loc z.be), some (.loc z.le), some (.loc z.ab), some (.loc z.ev), some (.loc z.nv), some (.loc z.id), some (.int (z.lit : Nat)), some (.loc z.n), x14, x15, x16, x17, x18, none, none]
structure GsP (w cnt : Nat) (xs : List D) : Prop where
  len : xs.length = cnt
  g : ∀ d ∈ xs, GForm (10 ^ 60) w d
structure Fl (cnt : Nat) (xs : List D) : Prop where
  len : xs.length = cnt
  b : ∀ d ∈ xs, isBl d = true
structure ZS (z : Z) : Prop where
  fl : z.Fs.length = z.cnt
  fh : ∀ d ∈ z.Fs, HForm z.w d
  c11 : z.cnt ≤ 11
  be : GsP z.w z.cnt z.Be
  le : GsP z.w z.cnt z.Le
  ab : GsP z.w z.cnt z.Ab
  ev : Fl z.cnt z.Ev
  nv : Fl z.cnt z.Nv
  id : Fl z.cnt z.Id
  dl : z.ds.length = z.cnt
  dp : ∀ d ∈ z.ds, PEnt d
  sp : z.spot < z.cnt
  li : z.lit < z.cnt
  w1 : 1 ≤ z.w
  w2 : z.w ≤ 100
structure LL (b n : Nat) (s : S) (k : Nat) (xs : List D) : Prop where
  at_ : s[k]? = some (.lst xs)
  nb : k ≠ b
  nn : k ≠ n
theorem LL.px {b n k : Nat} {s s' : S} {xs : List D} (h : LL b n s k xs) (x : Px b n s s') : LL b n s' k xs := ⟨x.keep _ _ h.nb h.nn h.at_, h.nb, h.nn⟩
theorem LL.gr {b n k : Nat} {s s' : S} {xs : List D} (h : LL b n s k xs) (x : Gr s s') : LL b n s' k xs := ⟨x.keep _ _ h.at_, h.nb, h.nn⟩
structure ZA (z : Z) (s : S) : Prop where
  nf : LL z.b z.n s z.nf z.Fs
  be : LL z.b z.n s z.be z.Be
  le : LL z.b z.n s z.le z.Le
  ab : LL z.b z.n s z.ab z.Ab
  ev : LL z.b z.n s z.ev z.Ev
  nv : LL z.b z.n s z.nv z.Nv
  id : LL z.b z.n s z.id z.Id
theorem ZA.px {z : Z} {s s' : S} (h : ZA z s) (x : Px z.b z.n s s') : ZA z s' := ⟨h.nf.px x, h.be.px x, h.le.px x, h.ab.px x, h.ev.px x, h.nv.px x, h.id.px x⟩
theorem ZA.gr {z : Z} {s s' : S} (h : ZA z s) (x : Gr s s') : ZA z s' := ⟨h.nf.gr x, h.be.gr x, h.le.gr x, h.ab.gr x, h.ev.gr x, h.nv.gr x, h.id.gr x⟩
theorem ZS.pe {z : Z} (h : ZS z) (s : S) : ∀ d ∈ z.ds, EB s d := fun d hd => nb_eb (((h.dp d hd).h12.le (C := B80) (by decide)).nb (by decide))
theorem ZS.pap {z : Z} (h : ZS z) (s : S) : EPap s (.tup z.ds) := pap_of (by have := h.dl; have := h.c11; omega) (h.pe s)
theorem g80 {w : Nat} {d : D} (h : GForm (10 ^ 60) w d) : GForm B80 w d := h.le (by decide)
section
variable {z : Z} {st s : S} {m : Nat} {x14 x15 x16 x17 x18 : Option D}
/-- rows of lists that stand -/
theorem row_vars {va vg f g : Nat} {Xs Ys : List D} (Q : ZS z) (h : RK z.b z.n z.w st s m) (hm : m ≤ 900) (r1 : (z.env x14 x15 x16 x17 x18)[va]? = some (some (.loc f))) (r2 : (z.env x14 x15 x16 x17 x18)[vg]? = some (some (.loc g))) (a1 : LL z.b z.n s f Xs) (a2 : LL z.b z.n s g Ys) (h1 : GsP z.w z.cnt Xs) (h2 : Fl z.cnt Ys) :
    ∃ s', sExpr (fLM gAppend (fVar 13) (fCons (fLst (fCons (fVar va) (fCons (fVar vg) (fCons (fVar 2) (fNil))))) (fNil))) (z.env x14 x15 x16 x17 x18) s = .nx (z.env x14 x15 x16 x17 x18) s' ∧ RK z.b z.n z.w st s' (m + 1) ∧ Px z.b z.n s s' :=
  row_app h hm rfl (v_ok r1) (v_ok r2) (v_ok (d := .tup z.ds) rfl) Gr.refl a1.at_ a2.at_ ⟨a1.nb, a1.nn⟩ ⟨a2.nb, a2.nn⟩ (by rw [h1.len, h2.len]) (by have := Q.c11; have := h1.len; omega) (fun d hd => g80 (h1.g d hd)) h2.b (Q.pap s)
/-- flags by a comprehension -/
theorem flags_ok {ρ : En} {e : FE} {cnt : Nat} (G : Nat → Bool) (h5 : ρ[5]? = some (some (.int (cnt : Nat)))) (hc : cnt ≤ 11) (he : ∀ k, k < cnt → ∀ xs, e ((wipeE ρ [19]).set 19 (some (.int (k : Nat)))) (s ++ [Ob.lst xs]) = .ok (.bl (G k)) (s ++ [Ob.lst xs])) :
    ∃ L, fLc [19] (fRng1 (fCons (fVar 5) (fNil))) (tgN 19) (fYes) e ρ s = .ok (.loc s.length) (s ++ [Ob.lst L]) ∧ Fl cnt L := by
  have er : (fRng1 (fCons (fVar 5) (fNil))) ρ s = .ok (rngK 0 cnt, fun _ => true) s := by
    unfold fRng1
    rw [show (fCons (fVar 5) (fNil)) ρ s = .ok [.int (cnt : Int)] s from cons_ok (v_ok h5) nil_ok, Out.bind_ok]
    simp only
    rw [if_pos (small_nat (by omega)), rng_k]
  have e1 := fLc_map (own := [19]) (g := tgN 19) (fe := e) (F := fun d => match d with
    | .int i => .bl (G i.toNat)
    | _ => .non) er (by rw [rngK_len]; exact short (by omega)) (fun _ => rfl) (fun d hd xs => by
    rw [rngK_eq] at hd
    obtain ⟨i, hi, rfl⟩ := List.mem_map.mp hd
    rw [List.mem_range] at hi
    rw [Nat.zero_add]
    refine ⟨(wipeE ρ [19]).set 19 (some (.int (i : Nat))), rfl, ?_⟩
    exact he i hi xs)
  refine ⟨_, e1, by rw [List.length_map, rngK_len], fun d hd => ?_⟩
  obtain ⟨y, hy, rfl⟩ := List.mem_map.mp hd
  rw [rngK_eq] at hy
  obtain ⟨i, hi, rfl⟩ := List.mem_map.mp hy
  rfl
/-- level with flags drawn by place -/
theorem row_eq {v v2 : Nat} (Q : ZS z) (A : ZA z s) (h : RK z.b z.n z.w st s m) (hm : m ≤ 900) (r : (z.env x14 x15 x16 x17 x18)[v]? = some (some (.int (v2 : Nat)))) (hv : v ≠ 19) :
    ∃ s', sExpr (fLM gAppend (fVar 13) (fCons (fLst (fCons (fVar 7) (fCons (fLc [19] (fRng1 (fCons (fVar 5) (fNil))) (tgN 19) (fYes) (fBin gEq (fVar 19) (fVar v))) (fCons (fVar 2) (fNil))))) (fNil))) (z.env x14 x15 x16 x17 x18) s = .nx (z.env x14 x15 x16 x17 x18) s' ∧ RK z.b z.n z.w st s' (m + 1) ∧ Px z.b z.n s s' := by
  obtain ⟨L, e, hL⟩ := flags_ok (s := s) (ρ := z.env x14 x15 x16 x17 x18) (e := fBin gEq (fVar 19) (fVar v)) (cnt := z.cnt) (fun k => decide ((k : Int) = (v2 : Int))) rfl Q.c11 (fun k hk xs => by
    have r' : ((wipeE (z.env x14 x15 x16 x17 x18) [19]).set 19 (some (.int (k : Nat))))[v]? = some (some (.int (v2 : Nat))) := by
      rw [List.getElem?_set_ne (Ne.symm hv)]
      show ((z.env x14 x15 x16 x17 x18).set 19 none)[v]? = _
      rw [List.getElem?_set_ne (Ne.symm hv)]
      exact r
    exact bin_ok (v_ok (d := .int (k : Nat)) rfl) (v_ok r') (gEq_int _ _ _))
  have lb := h.ext.bag.lt
  have nl := h.nlt
  exact row_app h hm rfl (v_ok (d := .loc z.le) rfl) e (v_ok (d := .tup z.ds) rfl) (Gr.app _) (A.le.gr (Gr.app _)).at_ app_new ⟨A.le.nb, A.le.nn⟩ ⟨by omega, by omega⟩ (by rw [hL.len, Q.le.len]) (by have := Q.c11; have := Q.le.len; omega) (fun d hd => g80 (Q.le.g d hd)) hL.b (Q.pap _)
/-- a form of below exchanged -/
theorem row_spl {vx j : Nat} {v : D} {C : FE} {p : D} (Q : ZS z) (A : ZA z s) (h : RK z.b z.n z.w st s m) (hm : m ≤ 900) (r14 : (z.env x14 x15 x16 x17 x18)[14]? = some (some (.int (j : Nat)))) (rx : (z.env x14 x15 x16 x17 x18)[vx]? = some (some v)) (hj : j < z.cnt) (hv : GForm B80 z.w v)
    (hC : ∀ s, C (z.env x14 x15 x16 x17 x18) s = .ok p s) (hp : ∀ s, EPap s p) :
    ∃ s', sExpr (fLM gAppend (fVar 13) (fCons (fLst (fCons (fBin gAdd (fBin gAdd (fSl gSl (fVar 6) (fNo) (fPart (fVar 14))) (fLst (fCons (fVar vx) (fNil)))) (fSl gSl (fVar 6) (fPart (fBin gAdd (fVar 14) (fC (.int 1)))) (fNo))) (fCons (fVar 10) (fCons C (fNil))))) (fNil))) (z.env x14 x15 x16 x17 x18) s = .nx (z.env x14 x15 x16 x17 x18) s' ∧ RK z.b z.n z.w st s' (m + 1) ∧ Px z.b z.n s s' := by
  have c := Q.c11
  have bl := Q.be.len
  obtain ⟨l, s1, e, g, hl, hn⟩ := splice_ok (ρ := z.env x14 x15 x16 x17 x18) (vf := 6) (vj := 14) (vx := vx) (j := j) (v := v) A.be.at_ (by omega) rfl r14 rx
  have lb := h.ext.bag.lt
  have nl := h.nlt
  have pl : (putL z.Be j v).length = z.cnt := by rw [putL_len (by omega), bl]
  exact row_app h hm rfl e (v_ok (d := .loc z.nv) rfl) (hC s1) g hn (A.nv.gr g).at_ ⟨by omega, by omega⟩ ⟨A.nv.nb, A.nv.nn⟩ (by rw [pl, Q.nv.len]) (by omega) (fun d hd => by
    rcases putL_mem hd with q | q
    · exact g80 (Q.be.g d q)
    · rw [q]; exact hv) Q.nv.b (hp s1)
/-- one more fact -/
theorem row_cat {va f : Nat} {Xs : List D} {C : FE} {p : D} (Q : ZS z) (A : ZA z s) (h : RK z.b z.n z.w st s m) (hm : m ≤ 900) (r1 : (z.env x14 x15 x16 x17 x18)[va]? = some (some (.loc f))) (a1 : LL z.b z.n s f Xs) (h1 : GsP z.w z.cnt Xs)
    (hC : ∀ s, C (z.env x14 x15 x16 x17 x18) s = .ok p s) (hp : ∀ s, EPap s p) :
    ∃ s', sExpr (fLM gAppend (fVar 13) (fCons (fLst (fCons (fBin gAdd (fVar va) (fLst (fCons (fBin gIx (fVar 1) (fVar 12)) (fNil)))) (fCons (fBin gAdd (fVar 10) (fLst (fCons (fC (.bl true)) (fNil)))) (fCons C (fNil))))) (fNil))) (z.env x14 x15 x16 x17 x18) s = .nx (z.env x14 x15 x16 x17 x18) s' ∧ RK z.b z.n z.w st s' (m + 1) ∧ Px z.b z.n s s' := by
  have c := Q.c11
  have fl := Q.fl
  have li := Q.li
  have xl := h1.len
  have nl' := Q.nv.len
  have i1 : L2.atI z.Fs ((z.lit : Nat) : Int) = some (z.Fs[z.lit]'(by omega)) := atI_nat (List.getElem?_eq_getElem (by omega))
  have e1 := cat_ok (ρ := z.env x14 x15 x16 x17 x18) (vf := va) (e := fBin gIx (fVar 1) (fVar 12)) (v := z.Fs[z.lit]'(by omega)) a1.at_ (by omega) r1 (bin_ok (v_ok (d := .loc z.nf) rfl) (v_ok (d := .int (z.lit : Nat)) rfl) (by rw [gIx_loc _ _ (lstAt_lst A.nf.at_), i1]; rfl))
  generalize hs1 : s ++ [Ob.lst [z.Fs[z.lit]'(by omega)]] ++ [Ob.lst (Xs ++ [z.Fs[z.lit]'(by omega)])] = s1 at e1
  have g1 : Gr s s1 := by rw [← hs1, List.append_assoc]; exact Gr.app _
  have n1 : s1[(s ++ [Ob.lst [z.Fs[z.lit]'(by omega)]]).length]? = some (.lst (Xs ++ [z.Fs[z.lit]'(by omega)])) := by rw [← hs1]; exact app_new
  have l1 : (s ++ [Ob.lst [z.Fs[z.lit]'(by omega)]]).length = s.length + 1 := by rw [List.length_append]; rfl
  rw [l1] at e1 n1
  have nv1 := A.nv.gr g1
  have e2 := cat_ok (ρ := z.env x14 x15 x16 x17 x18) (vf := 10) (e := fC (.bl true)) (v := .bl true) nv1.at_ (by omega) rfl c_ok
  generalize hs2 : s1 ++ [Ob.lst [D.bl true]] ++ [Ob.lst (z.Nv ++ [D.bl true])] = s2 at e2
  have g2 : Gr s1 s2 := by rw [← hs2, List.append_assoc]; exact Gr.app _
  have n2 : s2[(s1 ++ [Ob.lst [D.bl true]]).length]? = some (.lst (z.Nv ++ [D.bl true])) := by rw [← hs2]; exact app_new
  have l2 : (s1 ++ [Ob.lst [D.bl true]]).length = s1.length + 1 := by rw [List.length_append]; rfl
  rw [l2] at e2 n2
  have lb := h.ext.bag.lt
  have nl := h.nlt
  have ln := g1.len
  exact row_app h hm rfl e1 e2 (hC s2) (g1.trans g2) (g2.keep _ _ n1) n2 ⟨by omega, by omega⟩ ⟨by omega, by omega⟩ (by rw [List.length_append, List.length_append, nl', xl]; rfl) (by rw [List.length_append, List.length_singleton]; omega) (fun d hd => by
    rcases List.mem_append.mp hd with q | q
    · exact g80 (h1.g d q)
    · rw [List.mem_singleton.mp q]
      exact g80 (Q.fh _ (List.getElem_mem _)).g) (fun d hd => by
    rcases List.mem_append.mp hd with q | q
    · exact Q.nv.b d q
    · rw [List.mem_singleton.mp q]; rfl) (hp s2)
end
end K04

set_option Elab.async false
set_option linter.all false
set_option maxRecDepth 100000
set_option maxHeartbeats 4000000
namespace K04
open PySem MP
noncomputable def fbB : FS := (sSeq (sSet 15 (fBin gAdd (fC (.int 1)) (fCall g__law_take (fCons (fVar 0) (fCons (fBin gSub (fArgs gLen (fCons (fBin gIx (fVar 1) (fC (.int 0))) (fNil))) (fC (.int 1))) (fNil))))))
  (sSeq (sSet 16 (fCall g__law_num (fCons (fBin gAdd (fC (.int 1)) (fCall g__law_take (fCons (fVar 0) (fCons (fC (.int 5)) (fNil))))) (fCons (fBin gAdd (fC (.int 1)) (fCall g__law_take (fCons (fVar 0) (fCons (fC (.int 2)) (fNil))))) (fNil)))))
  (sSeq (sSet 17 (fCall g__law_put (fCons (fBin gIx (fVar 6) (fVar 14)) (fCons (fVar 15) (fCons (fCall g__law_add (fCons (fBin gIx (fBin gIx (fVar 6) (fVar 14)) (fVar 15)) (fCons (fVar 16) (fNil)))) (fNil))))))
  (sSeq (sExpr (fLM gAppend (fVar 13) (fCons (fLst (fCons (fBin gAdd (fBin gAdd (fSl gSl (fVar 6) (fNo) (fPart (fVar 14))) (fLst (fCons (fVar 17) (fNil)))) (fSl gSl (fVar 6) (fPart (fBin gAdd (fVar 14) (fC (.int 1)))) (fNo))) (fCons (fVar 10) (fCons (fVar 2) (fNil))))) (fNil))))
  (sSeq (sSet 18 (fArgs gTuple (fCons (fLc [20] (fSeq (fBin gIx (fVar 6) (fVar 14))) (tgN 20) (fYes) (fCall g__law_neg (fCons (fVar 20) (fNil)))) (fNil))))
  (sSeq (sExpr (fLM gAppend (fVar 13) (fCons (fLst (fCons (fBin gAdd (fBin gAdd (fSl gSl (fVar 6) (fNo) (fPart (fVar 14))) (fLst (fCons (fVar 18) (fNil)))) (fSl gSl (fVar 6) (fPart (fBin gAdd (fVar 14) (fC (.int 1)))) (fNo))) (fCons (fVar 10) (fCons (fCall g__law_put (fCons (fVar 2) (fCons (fVar 14) (fCons (fCall g__law_neg (fCons (fBin gIx (fVar 2) (fVar 14)) (fNil))) (fNil))))) (fNil))))) (fNil))))
  (sExpr (fLM gAppend (fVar 13) (fCons (fLst (fCons (fBin gAdd (fBin gAdd (fSl gSl (fVar 6) (fNo) (fPart (fVar 14))) (fLst (fCons (fVar 18) (fNil)))) (fSl gSl (fVar 6) (fPart (fBin gAdd (fVar 14) (fC (.int 1)))) (fNo))) (fCons (fVar 10) (fCons (fVar 2) (fNil))))) (fNil))))))))))
section
variable {z : Z} {st s : S} {m : Nat}
theorem fb_ok {j : Nat} {x15 x16 x17 x18 : Option D} (Q : ZS z) (A : ZA z s) (h : RK z.b z.n z.w st s m) (hm : m ≤ 800) (hj : j < z.cnt) :
    ∃ y15 y16 y17 y18 s', fbB (z.env (some (.int (j : Nat))) x15 x16 x17 x18) s = .nx (z.env (some (.int (j : Nat))) y15 y16 y17 y18) s' ∧ RK z.b z.n z.w st s' (m + 3) ∧ Px z.b z.n s s' := by
  have c := Q.c11
  have w1 := Q.w1
  have w2 := Q.w2
  have fl := Q.fl
  have bl := Q.be.len
  have dl := Q.dl
  -- place
  obtain ⟨e0, ef0, el0, eh0⟩ := Q.fh (z.Fs[0]'(by omega)) (List.getElem_mem _)
  have i0 : L2.atI z.Fs 0 = some (.tup e0) := by rw [← ef0]; exact atI_nat (k := 0) (List.getElem?_eq_getElem (by omega))
  have m0 : ((e0.length : Int) - 1) = (z.w : Int) := by omega
  obtain ⟨t, s1, q1, t0, t1, x1⟩ := take_ok h.ext.bag (m := (z.w : Int)) (by omega) (divok_small (by omega) (Nat.lt_of_lt_of_le (show (z.w : Int).natAbs < 2 ^ 10 by omega) (Nat.pow_le_pow_right (by decide) (by decide))))
  obtain ⟨pl, hpl⟩ : ∃ pl : Nat, 1 + t = (pl : Int) := ⟨(1 + t).toNat, by omega⟩
  -- step
  obtain ⟨t5, s2, q2, u0, u1, x2⟩ := take_ok x1.bag (m := 5) (by decide) (by decide)
  obtain ⟨t2, s3, q3, v0, v1, x3⟩ := take_ok x2.bag (m := 2) (by decide) (by decide)
  have en := num_pos (p := 1 + t5) (q := 1 + t2) (by omega) (sm_lt (by omega)) s3
  have ns : Nb 100 (low (1 + t5) (1 + t2)) := low_nb (by omega) (by omega) (by omega)
  have x := (x1.trans x2).trans x3
  have A3 := A.px (x.px (n := z.n))
  have R3 := h.gr x
  -- moved
  obtain ⟨es, ef, el, eh⟩ := Q.be.g (z.Be[j]'(by omega)) (List.getElem_mem _)
  have ib : L2.atI z.Be ((j : Nat) : Int) = some (.tup es) := by rw [← ef]; exact atI_nat (List.getElem?_eq_getElem (by omega))
  have hple : pl < es.length := by omega
  have ip : L2.atI es ((pl : Nat) : Int) = some es[pl] := atI_nat (List.getElem?_eq_getElem hple)
  have nl := eh es[pl] (List.getElem_mem _)
  have ea := ladd_nb (nl.le (C := B80) (by decide)) (ns.le (C := B80) (by decide)) s3
  have na : Nb B80 (addD es[pl] (low (1 + t5) (1 + t2))) := (add_nb nl ns).le (by decide)
  have ep := put_ok (k := pl) (o := addD es[pl] (low (1 + t5) (1 + t2))) (show es.length ≤ 1000 by omega) s3
  have gm : GForm B80 z.w (.tup (putL es pl (addD es[pl] (low (1 + t5) (1 + t2))))) := ⟨_, rfl, by rw [putL_len hple]; exact el, fun d hd => by
    rcases putL_mem hd with q | q
    · exact (eh d q).le (by decide)
    · rw [q]; exact na⟩
  generalize addD es[pl] (low (1 + t5) (1 + t2)) = ad at ea ep gm
  have lbe := lstAt_lst A3.be.at_
  have b0 : ∀ y15 y16 y17 y18, (fBin gIx (fVar 6) (fVar 14)) (z.env (some (.int (j : Nat))) y15 y16 y17 y18) s3 = .ok (.tup es) s3 := fun _ _ _ _ => bin_ok (v_ok (d := .loc z.be) rfl) (v_ok (d := .int (j : Nat)) rfl) (by rw [gIx_loc _ _ lbe, ib]; rfl)
  -- the first row
  obtain ⟨s4, e4, R4, P4⟩ := row_spl (x14 := some (.int (j : Nat))) (x15 := some (.int (pl : Nat))) (x16 := some (low (1 + t5) (1 + t2))) (x17 := some (.tup (putL es pl ad))) (x18 := x18) (vx := 17) (C := fVar 2) (p := .tup z.ds) Q A3 R3 (by omega) rfl rfl hj gm (fun _ => v_ok rfl) (fun s => Q.pap s)
  have A4 := A3.px P4
  -- turned
  have lbe4 := lstAt_lst A4.be.at_
  have b4 : (fBin gIx (fVar 6) (fVar 14)) (z.env (some (.int (j : Nat))) (some (.int (pl : Nat))) (some (low (1 + t5) (1 + t2))) (some (.tup (putL es pl ad))) x18) s4 = .ok (.tup es) s4 := bin_ok (v_ok (d := .loc z.be) rfl) (v_ok (d := .int (j : Nat)) rfl) (by rw [gIx_loc _ _ lbe4, ib]; rfl)
  have e5 := fLc_map (own := [20]) (fi := fSeq (fBin gIx (fVar 6) (fVar 14))) (g := tgN 20) (fe := fCall g__law_neg (fCons (fVar 20) (fNil))) (ρ := z.env (some (.int (j : Nat))) (some (.int (pl : Nat))) (some (low (1 + t5) (1 + t2))) (some (.tup (putL es pl ad))) x18) (st := s4) (st1 := s4) (ds := es) (chk := fun _ => true) (F := negD)
    (by rw [fSeq_ap, b4]; rfl) (short (by omega)) (fun _ => rfl) (fun d hd xs => ⟨_, rfl, call_ok (cons_ok (v_ok (d := d) rfl) nil_ok) (lneg_nb (eh d hd) _)⟩)
  have gt := gTuple_loc (lstAt_lst (app_new (st := s4) (o := .lst (es.map negD))))
  have g5 : Gr s4 (s4 ++ [Ob.lst (es.map negD)]) := Gr.app _
  have x5 : Ext z.b s4 (s4 ++ [Ob.lst (es.map negD)]) := K04.Gr.ext g5 R4.ext.bag
  have A5 := A4.px (x5.px (n := z.n))
  have R5 := R4.gr x5
  generalize hs5 : s4 ++ [Ob.lst (es.map negD)] = s5 at e5 gt x5 A5 R5
  have gt5 : GForm B80 z.w (.tup (es.map negD)) := ⟨_, rfl, by rw [List.length_map]; exact el, fun d hd => by
    obtain ⟨y, hy, rfl⟩ := List.mem_map.mp hd
    exact (neg_nb (eh y hy)).le (by decide)⟩
  -- the paper with one entry negated
  have id1 : L2.atI z.ds ((j : Nat) : Int) = some (z.ds[j]'(by omega)) := atI_nat (List.getElem?_eq_getElem (by omega))
  have np : Nb B80 (z.ds[j]'(by omega)) := ((Q.dp _ (List.getElem_mem _)).h12.le (C := B80) (by decide)).nb (by decide)
  have hC : ∀ s, (fCall g__law_put (fCons (fVar 2) (fCons (fVar 14) (fCons (fCall g__law_neg (fCons (fBin gIx (fVar 2) (fVar 14)) (fNil))) (fNil))))) (z.env (some (.int (j : Nat))) (some (.int (pl : Nat))) (some (low (1 + t5) (1 + t2))) (some (.tup (putL es pl ad))) (some (.tup (es.map negD)))) s = .ok (.tup (putL z.ds j (negD (z.ds[j]'(by omega))))) s := fun s =>
    call_ok (cons_ok (v_ok (d := .tup z.ds) rfl) (cons_ok (v_ok (d := .int (j : Nat)) rfl) (cons_ok (call_ok (cons_ok (bin_ok (v_ok (d := .tup z.ds) rfl) (v_ok (d := .int (j : Nat)) rfl) (d := z.ds[j]'(by omega)) (st3 := s) (by show (L2.atI z.ds ((j : Nat) : Int)).map _ = _; rw [id1]; rfl)) nil_ok) (lneg_nb np s)) nil_ok))) (put_ok (by omega) s)
  obtain ⟨s6, e6, R6, P6⟩ := row_spl (x14 := some (.int (j : Nat))) (x15 := some (.int (pl : Nat))) (x16 := some (low (1 + t5) (1 + t2))) (x17 := some (.tup (putL es pl ad))) (x18 := some (.tup (es.map negD))) (vx := 18) Q A5 R5 (by omega) rfl rfl hj gt5 hC (fun s => pap_put (by omega) (Q.pe s) (nb_eb (neg_nb np)))
  have A6 := A5.px P6
  obtain ⟨s7, e7, R7, P7⟩ := row_spl (x14 := some (.int (j : Nat))) (x15 := some (.int (pl : Nat))) (x16 := some (low (1 + t5) (1 + t2))) (x17 := some (.tup (putL es pl ad))) (x18 := some (.tup (es.map negD))) (vx := 18) (C := fVar 2) (p := .tup z.ds) Q A6 R6 (by omega) rfl rfl hj gt5 (fun _ => v_ok rfl) (fun s => Q.pap s)
  refine ⟨some (.int (pl : Nat)), some (low (1 + t5) (1 + t2)), some (.tup (putL es pl ad)), some (.tup (es.map negD)), s7, ?_, R7, (x.px.trans P4).trans ((x5.px.trans P6).trans P7)⟩
  have lnf := lstAt_lst A.nf.at_
  unfold fbB
  refine seq_nx (ρ1 := z.env (some (.int (j : Nat))) (some (.int (pl : Nat))) x16 x17 x18) (st1 := s1) (set_ok (bin_ok c_ok (call_ok (cons_ok (v_ok (d := .loc z.b) rfl) (cons_ok (bin_ok (args_ok (cons_ok (bin_ok (v_ok (d := .loc z.nf) rfl) c_ok (d := .tup e0) (st3 := s) (by rw [gIx_loc _ _ lnf, i0]; rfl)) nil_ok) (gLen_tup ..)) c_ok (d := .int (z.w : Int)) (st3 := s) (by rw [← m0]; rfl)) nil_ok)) q1) (by rw [← hpl]; rfl))) ?_
  refine seq_nx (ρ1 := z.env (some (.int (j : Nat))) (some (.int (pl : Nat))) (some (low (1 + t5) (1 + t2))) x17 x18) (st1 := s3) (set_ok (call_ok (cons_ok (bin_ok c_ok (call_ok (cons_ok (v_ok (d := .loc z.b) rfl) (cons_ok c_ok nil_ok)) q2) rfl) (cons_ok (bin_ok c_ok (call_ok (cons_ok (v_ok (d := .loc z.b) rfl) (cons_ok c_ok nil_ok)) q3) rfl) nil_ok)) en)) ?_
  refine seq_nx (ρ1 := z.env (some (.int (j : Nat))) (some (.int (pl : Nat))) (some (low (1 + t5) (1 + t2))) (some (.tup (putL es pl ad))) x18) (st1 := s3) (set_ok (call_ok (cons_ok (b0 _ _ _ _) (cons_ok (v_ok (d := .int (pl : Nat)) rfl) (cons_ok (call_ok (cons_ok (bin_ok (b0 _ _ _ _) (v_ok (d := .int (pl : Nat)) rfl) (d := es[pl]) (st3 := s3) (by show (L2.atI es ((pl : Nat) : Int)).map _ = _; rw [ip]; rfl)) (cons_ok (v_ok (d := low (1 + t5) (1 + t2)) rfl) nil_ok)) ea) nil_ok))) ep)) ?_
  refine seq_nx e4 ?_
  refine seq_nx (ρ1 := z.env (some (.int (j : Nat))) (some (.int (pl : Nat))) (some (low (1 + t5) (1 + t2))) (some (.tup (putL es pl ad))) (some (.tup (es.map negD)))) (st1 := s5) (set_ok (args_ok (cons_ok e5 nil_ok) (by rw [gt]))) ?_
  refine seq_nx e6 ?_
  exact e7
end
end K04

set_option Elab.async false
set_option linter.all false
set_option maxRecDepth 100000
set_option maxHeartbeats 4000000
namespace K04
open PySem MP
theorem facts_loop {z : Z} {st s : S} {m : Nat} (Q : ZS z) (A : ZA z s) (h : RK z.b z.n z.w st s m) (hm : m ≤ 700) : ∃ y14 y15 y16 y17 y18 s', (sFor (fLst (fCons (fVar 3) (fCons (fVar 12) (fNil)))) (tgN 14) fbB) (z.env none none none none none) s = .nx (z.env y14 y15 y16 y17 y18) s' ∧ RK z.b z.n z.w st s' (m + 6) ∧ Px z.b z.n s s' := by
  have lb := h.ext.bag.lt
  have nl := h.nlt
  have x0 : Ext z.b s (s ++ [Ob.lst [.int (z.spot : Nat), .int (z.lit : Nat)]]) := K04.Gr.ext (Gr.app _) h.ext.bag
  have n0 : (s ++ [Ob.lst [.int (z.spot : Nat), .int (z.lit : Nat)]])[s.length]? = some (.lst [.int (z.spot : Nat), .int (z.lit : Nat)]) := app_new
  obtain ⟨a15, a16, a17, a18, s1, e1, R1, P1⟩ := fb_ok (j := z.spot) (x15 := none) (x16 := none) (x17 := none) (x18 := none) Q (A.px x0.px) (h.gr x0) (by omega) Q.sp
  have n1 := P1.keep s.length _ (by omega) (by omega) n0
  obtain ⟨b15, b16, b17, b18, s2, e2, R2, P2⟩ := fb_ok (j := z.lit) (x15 := a15) (x16 := a16) (x17 := a17) (x18 := a18) Q ((A.px x0.px).px P1) R1 (by omega) Q.li
  have n2 := P2.keep s.length _ (by omega) (by omega) n1
  refine ⟨some (.int (z.lit : Nat)), b15, b16, b17, b18, s2, ?_, R2, (x0.px.trans P1).trans P2⟩
  rw [sFor_loc (n := s.length) (st1 := s ++ [Ob.lst [.int (z.spot : Nat), .int (z.lit : Nat)]]) (ds := [.int (z.spot : Nat), .int (z.lit : Nat)]) (lst_ok (cons_ok (v_ok rfl) (cons_ok (v_ok rfl) nil_ok))) (lstAt_lst n0)]
  refine (sLoop_nx (decide_eq_true (lstAt_lst n0)) rfl e1).trans ?_
  refine (sLoop_nx (decide_eq_true (lstAt_lst n1)) rfl e2).trans ?_
  rw [sLoop_nil, if_pos (decide_eq_true (lstAt_lst n2))]
theorem facts_tail {z : Z} {st s : S} (Q : ZS z) (A : ZA z s) (h : RK z.b z.n z.w st s 4) :
    ∃ s', RK z.b z.n z.w st s' 18 ∧ (sSeq (sExpr (fLM gAppend (fVar 13) (fCons (fLst (fCons (fVar 7) (fCons (fVar 11) (fCons (fVar 2) (fNil))))) (fNil))))
  (sSeq (sExpr (fLM gAppend (fVar 13) (fCons (fLst (fCons (fVar 7) (fCons (fLc [19] (fRng1 (fCons (fVar 5) (fNil))) (tgN 19) (fYes) (fBin gEq (fVar 19) (fVar 12))) (fCons (fVar 2) (fNil))))) (fNil))))
  (sSeq (sExpr (fLM gAppend (fVar 13) (fCons (fLst (fCons (fVar 7) (fCons (fLc [19] (fRng1 (fCons (fVar 5) (fNil))) (tgN 19) (fYes) (fBin gEq (fVar 19) (fVar 3))) (fCons (fVar 2) (fNil))))) (fNil))))
  (sSeq (sExpr (fLM gAppend (fVar 13) (fCons (fLst (fCons (fVar 8) (fCons (fVar 9) (fCons (fVar 2) (fNil))))) (fNil))))
  (sSeq (sExpr (fLM gAppend (fVar 13) (fCons (fLst (fCons (fVar 8) (fCons (fVar 10) (fCons (fVar 2) (fNil))))) (fNil))))
  (sSeq (sFor (fLst (fCons (fVar 3) (fCons (fVar 12) (fNil)))) (tgN 14) fbB)
  (sSeq (sExpr (fLM gAppend (fVar 13) (fCons (fLst (fCons (fBin gAdd (fVar 6) (fLst (fCons (fBin gIx (fVar 1) (fVar 12)) (fNil)))) (fCons (fBin gAdd (fVar 10) (fLst (fCons (fC (.bl true)) (fNil)))) (fCons (fBin gAdd (fVar 2) (fTup (fCons (fTup (fCons (fC (.int 0)) (fCons (fC (.int 1)) (fNil)))) (fNil)))) (fNil))))) (fNil))))
  (sSeq (sExpr (fLM gAppend (fVar 13) (fCons (fLst (fCons (fBin gAdd (fVar 6) (fLst (fCons (fBin gIx (fVar 1) (fVar 12)) (fNil)))) (fCons (fBin gAdd (fVar 10) (fLst (fCons (fC (.bl true)) (fNil)))) (fCons (fVar 2) (fNil))))) (fNil))))
  (sSeq (sExpr (fLM gAppend (fVar 13) (fCons (fLst (fCons (fBin gAdd (fVar 7) (fLst (fCons (fBin gIx (fVar 1) (fVar 12)) (fNil)))) (fCons (fBin gAdd (fVar 10) (fLst (fCons (fC (.bl true)) (fNil)))) (fCons (fBin gAdd (fVar 2) (fTup (fCons (fTup (fCons (fC (.int 0)) (fCons (fC (.int 1)) (fNil)))) (fNil)))) (fNil))))) (fNil))))
  (sRet (fVar 13))))))))))) (z.env none none none none none) s = .rt (.loc z.n) s' := by
  have c := Q.c11
  have dl := Q.dl
  obtain ⟨s1, e1, R1, P1⟩ := row_vars (va := 7) (vg := 11) (x14 := none) (x15 := none) (x16 := none) (x17 := none) (x18 := none) Q h (by decide) rfl rfl A.le A.id Q.le Q.id
  have A1 := A.px P1
  obtain ⟨s2, e2, R2, P2⟩ := row_eq (v := 12) (v2 := z.lit) (x14 := none) (x15 := none) (x16 := none) (x17 := none) (x18 := none) Q A1 R1 (by decide) rfl (by decide)
  have A2 := A1.px P2
  obtain ⟨s3, e3, R3, P3⟩ := row_eq (v := 3) (v2 := z.spot) (x14 := none) (x15 := none) (x16 := none) (x17 := none) (x18 := none) Q A2 R2 (by decide) rfl (by decide)
  have A3 := A2.px P3
  obtain ⟨s4, e4, R4, P4⟩ := row_vars (va := 8) (vg := 9) (x14 := none) (x15 := none) (x16 := none) (x17 := none) (x18 := none) Q R3 (by decide) rfl rfl A3.ab A3.ev Q.ab Q.ev
  have A4 := A3.px P4
  obtain ⟨s5, e5, R5, P5⟩ := row_vars (va := 8) (vg := 10) (x14 := none) (x15 := none) (x16 := none) (x17 := none) (x18 := none) Q R4 (by decide) rfl rfl A4.ab A4.nv Q.ab Q.nv
  have A5 := A4.px P5
  obtain ⟨y14, y15, y16, y17, y18, s6, e6, R6, P6⟩ := facts_loop Q A5 R5 (by decide)
  have A6 := A5.px P6
  have hC : ∀ s, (fBin gAdd (fVar 2) (fTup (fCons (fTup (fCons (fC (.int 0)) (fCons (fC (.int 1)) (fNil)))) (fNil)))) (z.env y14 y15 y16 y17 y18) s = .ok (.tup (z.ds ++ [fr 0 1])) s := fun s => bin_ok (v_ok (d := .tup z.ds) rfl) (tup_ok (cons_ok (tup_ok (cons_ok c_ok (cons_ok c_ok nil_ok))) nil_ok)) (by rw [gAdd_tup, if_pos (sumlen (by rw [List.length_singleton]; omega))])
  have hP : ∀ s, EPap s (.tup (z.ds ++ [fr 0 1])) := fun s => pap_of (by rw [List.length_append, List.length_singleton]; omega) (fun d hd => by
    rcases List.mem_append.mp hd with q | q
    · exact Q.pe s d q
    · rw [List.mem_singleton.mp q]; exact fr_eb' _ _ (by decide) (by decide))
  obtain ⟨s7, e7, R7, P7⟩ := row_cat (va := 6) (x14 := y14) (x15 := y15) (x16 := y16) (x17 := y17) (x18 := y18) Q A6 R6 (by decide) rfl A6.be Q.be hC hP
  have A7 := A6.px P7
  obtain ⟨s8, e8, R8, P8⟩ := row_cat (va := 6) (C := fVar 2) (p := .tup z.ds) (x14 := y14) (x15 := y15) (x16 := y16) (x17 := y17) (x18 := y18) Q A7 R7 (by decide) rfl A7.be Q.be (fun _ => v_ok rfl) (fun s => Q.pap s)
  have A8 := A7.px P8
  obtain ⟨s9, e9, R9, P9⟩ := row_cat (va := 7) (x14 := y14) (x15 := y15) (x16 := y16) (x17 := y17) (x18 := y18) Q A8 R8 (by decide) rfl A8.le Q.le hC hP
  refine ⟨s9, R9, ?_⟩
  exact seq_nx e1 (seq_nx e2 (seq_nx e3 (seq_nx e4 (seq_nx e5 (seq_nx e6 (seq_nx e7 (seq_nx e8 (seq_nx e9 (ret_ok (v_ok rfl))))))))))
theorem facts_ok {st : S} {b nf w spot : Nat} {Fs ds : List D} {dr : D} (hb : Bag st b) (hf : st[nf]? = some (.lst Fs)) (hnf : nf ≠ b) (hF : ∀ d ∈ Fs, HForm w d) (hd : ∀ d ∈ ds, PEnt d) (hl : ds.length = Fs.length) (h11 : Fs.length ≤ 11) (w1 : 1 ≤ w) (w2 : w ≤ 100) (hs : spot < ds.length) (hp : PPos ds[spot]) (hdr : H12 (10 ^ 31) dr) :
    ∃ (n : Nat) (acc : List D) (st' : S), g__law_facts [.loc b, .loc nf, .tup ds, .int (spot : Nat), dr] st = .ok (.loc n) st' ∧ Ext b st st' ∧ n ≠ b ∧ st'[n]? = some (.lst acc) ∧ acc.length ≤ 100 ∧ ∀ r ∈ acc, RowOk b n w st' r := by
  have lb := hb.lt
  have lf := lt_of_at hf
  have ln := gLen_loc st (lstAt_lst hf)
  obtain ⟨be, Be, s1, e1, g1, l1, n1, c1, f1⟩ := bal_ok hf hF hd hl h11 w2 hs hp hdr
  have hz : H12 (10 ^ 31) (fr 0 1) := ⟨0, (low_zero (by decide)).symm, by decide⟩
  obtain ⟨le, Le, s2, e2, g2, l2, n2, c2, f2⟩ := bal_ok (g1.keep _ _ hf) hF hd hl h11 w2 hs hp hz
  have ndr := (hdr.le (C := B80) (by decide)).nb (by decide)
  have hng : H12 (10 ^ 31) (negD dr) := by
    obtain ⟨m, e, hm⟩ := hdr
    exact ⟨-m, by rw [e, neg_low (by decide)], by rw [Int.natAbs_neg]; exact hm⟩
  have en := lneg_nb ndr s2
  obtain ⟨ab, Ab, s3, e3, g3, l3, n3, c3, f3⟩ := bal_ok ((g1.trans g2).keep _ _ hf) hF hd hl h11 w2 hs hp hng
  have k1 := g1.len
  have k2 := g2.len
  have k3 := g3.len
  obtain ⟨Ev, e4, F4⟩ := flags_ok (s := s3) (ρ := [some (.loc b), some (.loc nf), some (.tup ds), some (.int (spot : Nat)), some dr, some (.int (Fs.length : Nat)), some (.loc be), some (.loc le), some (.loc ab), none, none, none, none, none, none, none, none, none, none, none, none]) (e := fC (.bl true)) (cnt := Fs.length) (fun _ => true) rfl h11 (fun _ _ _ => rfl)
  have k4 : (s3 ++ [Ob.lst Ev]).length = s3.length + 1 := by rw [List.length_append]; rfl
  obtain ⟨Nv, e5, F5⟩ := flags_ok (s := s3 ++ [Ob.lst Ev]) (ρ := [some (.loc b), some (.loc nf), some (.tup ds), some (.int (spot : Nat)), some dr, some (.int (Fs.length : Nat)), some (.loc be), some (.loc le), some (.loc ab), some (.loc s3.length), none, none, none, none, none, none, none, none, none, none, none]) (e := fC (.bl false)) (cnt := Fs.length) (fun _ => false) rfl h11 (fun _ _ _ => rfl)
  rw [k4] at e5
  have k5 : (s3 ++ [Ob.lst Ev] ++ [Ob.lst Nv]).length = s3.length + 2 := by rw [List.length_append, k4]; rfl
  obtain ⟨Id, e6, F6⟩ := flags_ok (s := s3 ++ [Ob.lst Ev] ++ [Ob.lst Nv]) (ρ := [some (.loc b), some (.loc nf), some (.tup ds), some (.int (spot : Nat)), some dr, some (.int (Fs.length : Nat)), some (.loc be), some (.loc le), some (.loc ab), some (.loc s3.length), some (.loc (s3.length + 1)), none, none, none, none, none, none, none, none, none, none]) (e := fBin gEq (fBin gIx (fBin gIx (fVar 2) (fVar 19)) (fC (.int 0))) (fC (.int 0))) (cnt := Fs.length) (fun k => decide (topD (ds.getD k .non) = 0)) rfl h11 (fun k hk xs => by
    obtain ⟨p, q, ep, _⟩ := ((hd (ds[k]'(by omega)) (List.getElem_mem _)).h12.le (C := B80) (by decide)).nb (by decide)
    have i1 : L2.atI ds ((k : Nat) : Int) = some (fr p q) := by rw [← ep]; exact atI_nat (List.getElem?_eq_getElem (by omega))
    rw [show ds.getD k .non = ds[k]'(by omega) by simp [show k < ds.length by omega], ep]
    generalize s3 ++ [Ob.lst Ev] ++ [Ob.lst Nv] ++ [Ob.lst xs] = sx
    exact bin_ok (bin_ok (bin_ok (v_ok (d := .tup ds) rfl) (v_ok (d := .int (k : Nat)) rfl) (d := fr p q) (st3 := sx) (by show (L2.atI ds ((k : Nat) : Int)).map _ = _; rw [i1]; rfl)) c_ok (d := .int p) (st3 := sx) (by simp)) c_ok (gEq_int _ _ _))
  rw [k5] at e6
  have g6 : Gr s3 (s3 ++ [Ob.lst Ev] ++ [Ob.lst Nv] ++ [Ob.lst Id]) := by rw [List.append_assoc, List.append_assoc]; exact Gr.app _
  have m4 : (s3 ++ [Ob.lst Ev] ++ [Ob.lst Nv] ++ [Ob.lst Id])[s3.length]? = some (.lst Ev) := app_at (app_at app_new _) _
  have m5 : (s3 ++ [Ob.lst Ev] ++ [Ob.lst Nv] ++ [Ob.lst Id])[s3.length + 1]? = some (.lst Nv) := by rw [← k4]; exact app_at app_new _
  have m6 : (s3 ++ [Ob.lst Ev] ++ [Ob.lst Nv] ++ [Ob.lst Id])[s3.length + 2]? = some (.lst Id) := by rw [← k5]; exact app_new
  have k6 : (s3 ++ [Ob.lst Ev] ++ [Ob.lst Nv] ++ [Ob.lst Id]).length = s3.length + 3 := by rw [List.length_append, k5]; rfl
  generalize hs6 : s3 ++ [Ob.lst Ev] ++ [Ob.lst Nv] ++ [Ob.lst Id] = s6 at e6 g6 m4 m5 m6 k6
  have g06 : Gr st s6 := ((g1.trans g2).trans g3).trans g6
  obtain ⟨li, s7, e7, li0, li1, x7⟩ := take_ok (hb.gr g06) (m := (Fs.length : Int)) (by omega) (divok_small (by omega) (Nat.lt_of_lt_of_le (show (Fs.length : Int).natAbs < 2 ^ 10 by omega) (Nat.pow_le_pow_right (by decide) (by decide))))
  obtain ⟨lit, rfl⟩ : ∃ lit : Nat, li = (lit : Int) := ⟨li.toNat, by omega⟩
  have x : Ext b st s7 := (K04.Gr.ext g06 hb).trans x7
  have k7 := x7.len
  -- all lists at s7
  have a0 := x.keep _ _ hnf hf
  have a1 := x7.keep be _ (by omega) (((g2.trans g3).trans g6).keep _ _ n1)
  have a2 := x7.keep le _ (by omega) ((g3.trans g6).keep _ _ n2)
  have a3 := x7.keep ab _ (by omega) (g6.keep _ _ n3)
  have a4 := x7.keep s3.length _ (by omega) m4
  have a5 := x7.keep (s3.length + 1) _ (by omega) m5
  have a6 := x7.keep (s3.length + 2) _ (by omega) m6
  have b1 := lt_of_at a1
  have b2 := lt_of_at a2
  have b3 := lt_of_at a3
  have b4 := lt_of_at a4
  -- the first four rows
  obtain ⟨t1, ht1⟩ : ∃ t, t = s7 ++ [Ob.lst [.loc be, .loc (s3.length + 1), .tup ds]] := ⟨_, rfl⟩
  obtain ⟨t2, ht2⟩ : ∃ t, t = t1 ++ [Ob.lst [.loc be, .loc s3.length, .tup ds]] := ⟨_, rfl⟩
  obtain ⟨t3, ht3⟩ : ∃ t, t = t2 ++ [Ob.lst [.loc le, .loc s3.length, .tup ds]] := ⟨_, rfl⟩
  obtain ⟨t4, ht4⟩ : ∃ t, t = t3 ++ [Ob.lst [.loc le, .loc (s3.length + 1), .tup ds]] := ⟨_, rfl⟩
  obtain ⟨t5, ht5⟩ : ∃ t, t = t4 ++ [Ob.lst [.loc s7.length, .loc t1.length, .loc t2.length, .loc t3.length]] := ⟨_, rfl⟩
  have q1 : t1.length = s7.length + 1 := by rw [ht1, List.length_append]; rfl
  have q2 : t2.length = s7.length + 2 := by rw [ht2, List.length_append, q1]; rfl
  have q3 : t3.length = s7.length + 3 := by rw [ht3, List.length_append, q2]; rfl
  have q4 : t4.length = s7.length + 4 := by rw [ht4, List.length_append, q3]; rfl
  have G5 : Gr s7 t5 := by
    have a : Gr s7 t1 := by rw [ht1]; exact Gr.app _
    have b : Gr t1 t2 := by rw [ht2]; exact Gr.app _
    have c : Gr t2 t3 := by rw [ht3]; exact Gr.app _
    have d : Gr t3 t4 := by rw [ht4]; exact Gr.app _
    have e : Gr t4 t5 := by rw [ht5]; exact Gr.app _
    exact (((a.trans b).trans c).trans d).trans e
  have r1 : t5[s7.length]? = some (.lst [.loc be, .loc (s3.length + 1), .tup ds]) := by rw [ht5, ht4, ht3, ht2, ht1]; exact app_at (app_at (app_at (app_at app_new _) _) _) _
  have r2 : t5[t1.length]? = some (.lst [.loc be, .loc s3.length, .tup ds]) := by rw [ht5, ht4, ht3, ht2]; exact app_at (app_at (app_at app_new _) _) _
  have r3 : t5[t2.length]? = some (.lst [.loc le, .loc s3.length, .tup ds]) := by rw [ht5, ht4, ht3]; exact app_at (app_at app_new _) _
  have r4 : t5[t3.length]? = some (.lst [.loc le, .loc (s3.length + 1), .tup ds]) := by rw [ht5, ht4]; exact app_at app_new _
  have r5 : t5[t4.length]? = some (.lst [.loc s7.length, .loc t1.length, .loc t2.length, .loc t3.length]) := by rw [ht5]; exact app_new
  let z : Z := ⟨b, t4.length, w, Fs.length, nf, be, le, ab, s3.length, s3.length + 1, s3.length + 2, spot, lit, Fs, Be, Le, Ab, Ev, Nv, Id, ds, dr⟩
  have Q : ZS z := ⟨rfl, hF, h11, ⟨c1, f1⟩, ⟨c2, f2⟩, ⟨c3, f3⟩, F4, F5, F6, hl, hd, by show spot < Fs.length; omega, by show lit < Fs.length; omega, w1, w2⟩
  have A : ZA z t5 := ⟨⟨G5.keep _ _ a0, hnf, by show nf ≠ t4.length; omega⟩, ⟨G5.keep _ _ a1, by show be ≠ b; omega, by show be ≠ t4.length; omega⟩, ⟨G5.keep _ _ a2, by show le ≠ b; omega, by show le ≠ t4.length; omega⟩, ⟨G5.keep _ _ a3, by show ab ≠ b; omega, by show ab ≠ t4.length; omega⟩, ⟨G5.keep _ _ a4, by show s3.length ≠ b; omega, by show s3.length ≠ t4.length; omega⟩, ⟨G5.keep _ _ a5, by show s3.length + 1 ≠ b; omega, by show s3.length + 1 ≠ t4.length; omega⟩, ⟨G5.keep _ _ a6, by show s3.length + 2 ≠ b; omega, by show s3.length + 2 ≠ t4.length; omega⟩⟩
  have R : RK z.b z.n z.w st t5 4 := by
    refine ⟨x.gr G5, hb, by show st.length ≤ t4.length; have := x.len; omega, _, r5, (show 4 ≤ 4 by decide), fun r hr => ?_⟩
    have : r = .loc s7.length ∨ r = .loc t1.length ∨ r = .loc t2.length ∨ r = .loc t3.length := by simpa using hr
    have L4 := F4.len
    have L5 := F5.len
    rcases this with q | q | q | q
    · exact ⟨s7.length, be, s3.length + 1, .tup ds, Be, Nv, q, r1, A.be.at_, A.nv.at_, ⟨by show s7.length ≠ b; omega, by show s7.length ≠ t4.length; omega, A.be.nb, A.be.nn, A.nv.nb, A.nv.nn⟩, by omega, by omega, fun d hd => g80 (f1 d hd), F5.b, Q.pap t5⟩
    · exact ⟨t1.length, be, s3.length, .tup ds, Be, Ev, q, r2, A.be.at_, A.ev.at_, ⟨by show t1.length ≠ b; omega, by show t1.length ≠ t4.length; omega, A.be.nb, A.be.nn, A.ev.nb, A.ev.nn⟩, by omega, by omega, fun d hd => g80 (f1 d hd), F4.b, Q.pap t5⟩
    · exact ⟨t2.length, le, s3.length, .tup ds, Le, Ev, q, r3, A.le.at_, A.ev.at_, ⟨by show t2.length ≠ b; omega, by show t2.length ≠ t4.length; omega, A.le.nb, A.le.nn, A.ev.nb, A.ev.nn⟩, by omega, by omega, fun d hd => g80 (f2 d hd), F4.b, Q.pap t5⟩
    · exact ⟨t3.length, le, s3.length + 1, .tup ds, Le, Nv, q, r4, A.le.at_, A.nv.at_, ⟨by show t3.length ≠ b; omega, by show t3.length ≠ t4.length; omega, A.le.nb, A.le.nn, A.nv.nb, A.nv.nn⟩, by omega, by omega, fun d hd => g80 (f2 d hd), F5.b, Q.pap t5⟩
  obtain ⟨s9, R9, e9⟩ := facts_tail Q A R
  obtain ⟨acc, na, la, ha⟩ := R9.at_
  refine ⟨t4.length, acc, s9, ?_, R9.ext, by omega, na, by omega, ha⟩
  have er : (fLst (fCons (fLst (fCons (fVar 6) (fCons (fVar 10) (fCons (fVar 2) (fNil))))) (fCons (fLst (fCons (fVar 6) (fCons (fVar 9) (fCons (fVar 2) (fNil))))) (fCons (fLst (fCons (fVar 7) (fCons (fVar 9) (fCons (fVar 2) (fNil))))) (fCons (fLst (fCons (fVar 7) (fCons (fVar 10) (fCons (fVar 2) (fNil))))) (fNil)))))) [some (.loc b), some (.loc nf), some (.tup ds), some (.int (spot : Nat)), some dr, some (.int (Fs.length : Nat)), some (.loc be), some (.loc le), some (.loc ab), some (.loc s3.length), some (.loc (s3.length + 1)), some (.loc (s3.length + 2)), some (.int (lit : Nat)), none, none, none, none, none, none, none, none] s7 = .ok (.loc t4.length) t5 := by
    have c1 := lst_ok (st := s7) (A := fCons (fVar 6) (fCons (fVar 10) (fCons (fVar 2) (fNil)))) (ρ := [some (.loc b), some (.loc nf), some (.tup ds), some (.int (spot : Nat)), some dr, some (.int (Fs.length : Nat)), some (.loc be), some (.loc le), some (.loc ab), some (.loc s3.length), some (.loc (s3.length + 1)), some (.loc (s3.length + 2)), some (.int (lit : Nat)), none, none, none, none, none, none, none, none]) (cons_ok (v_ok rfl) (cons_ok (v_ok rfl) (cons_ok (v_ok rfl) nil_ok)))
    rw [← ht1] at c1
    have c2 := lst_ok (st := t1) (A := fCons (fVar 6) (fCons (fVar 9) (fCons (fVar 2) (fNil)))) (ρ := [some (.loc b), some (.loc nf), some (.tup ds), some (.int (spot : Nat)), some dr, some (.int (Fs.length : Nat)), some (.loc be), some (.loc le), some (.loc ab), some (.loc s3.length), some (.loc (s3.length + 1)), some (.loc (s3.length + 2)), some (.int (lit : Nat)), none, none, none, none, none, none, none, none]) (cons_ok (v_ok rfl) (cons_ok (v_ok rfl) (cons_ok (v_ok rfl) nil_ok)))
    rw [← ht2] at c2
    have c3 := lst_ok (st := t2) (A := fCons (fVar 7) (fCons (fVar 9) (fCons (fVar 2) (fNil)))) (ρ := [some (.loc b), some (.loc nf), some (.tup ds), some (.int (spot : Nat)), some dr, some (.int (Fs.length : Nat)), some (.loc be), some (.loc le), some (.loc ab), some (.loc s3.length), some (.loc (s3.length + 1)), some (.loc (s3.length + 2)), some (.int (lit : Nat)), none, none, none, none, none, none, none, none]) (cons_ok (v_ok rfl) (cons_ok (v_ok rfl) (cons_ok (v_ok rfl) nil_ok)))
    rw [← ht3] at c3
    have c4 := lst_ok (st := t3) (A := fCons (fVar 7) (fCons (fVar 10) (fCons (fVar 2) (fNil)))) (ρ := [some (.loc b), some (.loc nf), some (.tup ds), some (.int (spot : Nat)), some dr, some (.int (Fs.length : Nat)), some (.loc be), some (.loc le), some (.loc ab), some (.loc s3.length), some (.loc (s3.length + 1)), some (.loc (s3.length + 2)), some (.int (lit : Nat)), none, none, none, none, none, none, none, none]) (cons_ok (v_ok rfl) (cons_ok (v_ok rfl) (cons_ok (v_ok rfl) nil_ok)))
    rw [← ht4] at c4
    have c5 := lst_ok (cons_ok c1 (cons_ok c2 (cons_ok c3 (cons_ok c4 nil_ok))))
    rw [← ht5] at c5
    exact c5
  have zz : m__law_facts [some (.loc b), some (.loc nf), some (.tup ds), some (.int (spot : Nat)), some dr, none, none, none, none, none, none, none, none, none, none, none, none, none, none, none, none] st = .rt (.loc t4.length) s9 := by
    unfold m__law_facts
    refine seq_nx (set_ok (args_ok (cons_ok (v_ok (d := .loc nf) rfl) nil_ok) ln)) ?_
    refine seq_nx (set_ok (call_ok (cons_ok (v_ok (d := .loc nf) rfl) (cons_ok (v_ok (d := .tup ds) rfl) (cons_ok (v_ok (d := .int (spot : Nat)) rfl) (cons_ok (v_ok (d := dr) rfl) nil_ok)))) e1)) ?_
    refine seq_nx (set_ok (call_ok (cons_ok (v_ok (d := .loc nf) rfl) (cons_ok (v_ok (d := .tup ds) rfl) (cons_ok (v_ok (d := .int (spot : Nat)) rfl) (cons_ok (tup_ok (cons_ok c_ok (cons_ok c_ok nil_ok))) nil_ok)))) e2)) ?_
    refine seq_nx (set_ok (call_ok (cons_ok (v_ok (d := .loc nf) rfl) (cons_ok (v_ok (d := .tup ds) rfl) (cons_ok (v_ok (d := .int (spot : Nat)) rfl) (cons_ok (call_ok (cons_ok (v_ok (d := dr) rfl) nil_ok) en) nil_ok)))) e3)) ?_
    refine seq_nx (set_ok e4) ?_
    refine seq_nx (set_ok e5) ?_
    rw [← hs6] at e6
    refine seq_nx (set_ok e6) ?_
    rw [hs6]
    refine seq_nx (set_ok (call_ok (cons_ok (v_ok (d := .loc b) rfl) (cons_ok (v_ok (d := .int (Fs.length : Nat)) rfl) nil_ok)) e7)) ?_
    refine seq_nx (set_ok er) ?_
    exact e9
  exact den_end rfl zz
end K04

set_option Elab.async false
set_option linter.all false
set_option maxRecDepth 100000
set_option maxHeartbeats 4000000
namespace K04
open PySem MP
theorem loop_ext {b i : Nat} {body : FS} {ρ0 : En} {chk : S → Bool} {s0 : S} (hchk : ∀ s, Ext b s0 s → chk s = true) : ∀ (ds : List D) (x : Option D) (s : S), Ext b s0 s → (∀ d ∈ ds, ∀ s, Ext b s0 s → ∃ s', body (ρ0.set i (some d)) s = .nx (ρ0.set i (some d)) s' ∧ Ext b s s') →
    ∃ y s', sLoop chk (tgN i) body ds (ρ0.set i x) s = .nx (ρ0.set i y) s' ∧ Ext b s0 s'
  | [], x, s, h, hb => ⟨x, s, by rw [sLoop_nil, if_pos (hchk s h)], h⟩
  | d :: ds, x, s, h, hb => by
    obtain ⟨s1, e1, x1⟩ := hb d List.mem_cons_self s h
    obtain ⟨y, s2, e2, x2⟩ := loop_ext (i := i) (body := body) (ρ0 := ρ0) hchk ds (some d) s1 (h.trans x1) (fun d' h' => hb d' (List.mem_cons_of_mem _ h'))
    exact ⟨y, s2, (sLoop_nx (hchk s h) (by rw [tgN_ap, List.set_set]) e1).trans e2, x2⟩
theorem rng_v {i c : Nat} {ρ : En} {s : S} (h : ρ[i]? = some (some (.int (c : Nat)))) (hc : c ≤ 100) : (fRng1 (fCons (fVar i) (fNil))) ρ s = .ok (rngK 0 c, fun _ => true) s := by
  unfold fRng1
  rw [show (fCons (fVar i) (fNil)) ρ s = .ok [.int (c : Int)] s from cons_ok (v_ok h) nil_ok, Out.bind_ok]
  simp only
  rw [if_pos (small_nat (by omega)), rng_k]
/-- one row asked -/
theorem row_answers {b n w : Nat} {s : S} {r : D} {ρ : En} (hb : Bag s b) (h : RowOk b n w s r) (hw : w ≤ 100) (h1 : ρ[1]? = some (some (.loc b))) (h2 : ρ[2]? = some (some (.int (w : Nat)))) (h9 : ρ[9]? = some (some r)) :
    ∃ s', (sIf (fNot (fTru (fCall g__law_answers (fCons (fVar 1) (fCons (fCall g__law_with (fCons (fBin gIx (fVar 9) (fC (.int 0))) (fCons (fBin gIx (fVar 9) (fC (.int 1))) (fNil)))) (fCons (fVar 2) (fCons (fBin gIx (fVar 9) (fC (.int 2))) (fNil)))))))) (sRet (fC (.bl false))) (sSkip)) ρ s = .nx ρ s' ∧ Ext b s s' := by
  obtain ⟨r', f, g, p, Fs, Gs, rfl, a1, a2, a3, _, a4, a5, a6, a7, a8⟩ := h
  obtain ⟨F, e1, hl, hF⟩ := with_ok (w := w) a2 a3 a4 a5 a6 a7
  have g1 : Gr s (s ++ [Ob.lst (F.map fD)]) := Gr.app _
  have lb := hb.lt
  obtain ⟨s', e2, x2⟩ := answers_ok (nf := s.length) (hb.gr g1) (lstAt_lst app_new) (by omega) hF (by omega) hw (a8.gr g1)
  have l1 := lstAt_lst a1
  have l1' := lstAt_lst (g1.keep _ _ a1)
  refine ⟨s', ifn_ok (call_ok (cons_ok (v_ok h1) (cons_ok (call_ok (cons_ok (bin_ok (v_ok h9) c_ok (d := .loc f) (st3 := s) (by rw [gIx_loc _ _ l1]; simp)) (cons_ok (bin_ok (v_ok h9) c_ok (d := .loc g) (st3 := s) (by rw [gIx_loc _ _ l1]; simp)) nil_ok)) e1) (cons_ok (v_ok h2) (cons_ok (bin_ok (v_ok h9) c_ok (d := p) (st3 := s ++ [Ob.lst (F.map fD)]) (by rw [gIx_loc _ _ l1']; simp)) nil_ok)))) e2), (K04.Gr.ext g1 hb).trans x2⟩
theorem fac_at {w : Nat} {F : List Fac} {d : D} (hF : ∀ f ∈ F, FOk w f) (h : d ∈ F.map fD) : ∃ f, d = fD f ∧ FOk w f := by
  obtain ⟨f, hf, rfl⟩ := List.mem_map.mp h
  exact ⟨f, rfl, hF f hf⟩
theorem orv_t {a b : FE} {ρ : En} {st st1 : S} (h1 : a ρ st = .ok (.bl true) st1) : fOrV a b ρ st = .ok (.bl true) st1 := by
  simp [h1]
theorem orv_f {a b : FE} {ρ : En} {st st1 : S} {o : Out D} (h1 : a ρ st = .ok (.bl false) st1) (h2 : b ρ st1 = o) : fOrV a b ρ st = o := by
  simp [h1, h2]
theorem flag_item {b c spot k : Nat} {ρ : En} {s : S} (hb : Bag s b) (h1 : ρ[1]? = some (some (.loc b))) (h4 : ρ[4]? = some (some (.int (spot : Nat)))) (h15 : ρ[15]? = some (some (.int (k : Nat)))) :
    ∃ v s', (fOrV (fBin gEq (fVar 15) (fVar 4)) (fBin gEq (fCall g__law_take (fCons (fVar 1) (fCons (fC (.int 3)) (fNil)))) (fC (.int 1)))) ρ s = .ok v s' ∧ Ext b s s' ∧ isBl v = true := by
  by_cases q : (k : Int) = (spot : Int)
  · exact ⟨.bl true, s, orv_t (bin_ok (v_ok h15) (v_ok h4) (by rw [gEq_int, decide_eq_true q])), Ext.refl hb, rfl⟩
  · obtain ⟨r, s1, e1, r0, r1, x1⟩ := take_ok hb (m := 3) (by decide) (by decide)
    exact ⟨.bl (decide (r = 1)), s1, orv_f (bin_ok (v_ok h15) (v_ok h4) (by rw [gEq_int, decide_eq_false q])) (bin_ok (call_ok (cons_ok (v_ok h1) (cons_ok c_ok nil_ok)) e1) c_ok (gEq_int _ _ _)), x1, rfl⟩
theorem law_true (ns : List Int) (hl : ns.length ≤ 63) : ∃ st', arN 1 (den 16 m_law) [.loc 0] [.fz (ns.map D.int)] = .ok (.bl true) st' := by
  obtain ⟨s1, e1, b1, n1⟩ := open_ok hl
  obtain ⟨r2, s2, e2, r20, r21, x2⟩ := take_ok b1 (m := 4) (by decide) (by decide)
  obtain ⟨w, hw⟩ : ∃ w : Nat, 1 + r2 = (w : Int) := ⟨(1 + r2).toNat, by omega⟩
  obtain ⟨r3, s3, e3, r30, r31, x3⟩ := take_ok x2.bag (m := 11) (by decide) (by decide)
  obtain ⟨c, hc⟩ : ∃ c : Nat, 1 + r3 = (c : Int) := ⟨(1 + r3).toNat, by omega⟩
  obtain ⟨r4, s4, e4, r40, r41, x4⟩ := take_ok x3.bag (m := (c : Int)) (by omega) (divok_small (by omega) (Nat.lt_of_lt_of_le (show (c : Int).natAbs < 2 ^ 10 by omega) (Nat.pow_le_pow_right (by decide) (by decide))))
  obtain ⟨spot, rfl⟩ : ∃ spot : Nat, r4 = (spot : Int) := ⟨r4.toNat, by omega⟩
  obtain ⟨r5, s5, e5, r50, r51, x5⟩ := take_ok x4.bag (m := 8) (by decide) (by decide)
  obtain ⟨ds, s6, e6, dl, dp, dpp, x6⟩ := paper_ok (n := c) (spot := spot) x5.bag (by omega) (by omega)
  have hsp : spot < ds.length := by omega
  have w1 : 1 ≤ w := by omega
  have w2 : w ≤ 100 := by omega
  -- forms
  obtain ⟨far, hfar⟩ : ∃ far : Bool, far = decide (r5 = 1) := ⟨_, rfl⟩
  obtain ⟨Fs, s7, e7, x7, n7, a7⟩ := lc_ext (own := [15]) (fi := fRng1 (fCons (fVar 3) (fNil))) (g := tgN 15) (fe := fCall g__law_form (fCons (fVar 1) (fCons (fVar 2) (fCons (fVar 5) (fNil))))) (ρ := [some (.loc 0), some (.loc 3), some (.int (w : Nat)), some (.int (c : Nat)), some (.int (spot : Nat)), some (.bl far), some (.tup ds), none, none, none, none, none, none, none, none, none]) (st := s6) (st1 := s6) (ds := rngK 0 c) (chk := fun _ => true) (b := 3) (fun _ v => HForm w v) x6.bag (rng_v (i := 3) rfl (by omega)) (by rw [rngK_len]; exact short (by omega)) (fun _ _ => rfl) (fun d hd s hs => by
    obtain ⟨v, s', e, hv, x⟩ := form_ok (w := w) (far := far) hs.bag w2
    exact ⟨_, rfl, v, s', call_ok (cons_ok (v_ok (d := .loc 3) rfl) (cons_ok (v_ok (d := .int (w : Nat)) rfl) (cons_ok (v_ok (d := .bl far) rfl) nil_ok))) e, x, hv⟩)
  have Fl := a7.len
  rw [rngK_len] at Fl
  have Fh : ∀ d ∈ Fs, HForm w d := fun d hd => by
    obtain ⟨_, _, h⟩ := a7.mem d hd
    exact h
  have l6 := x6.bag.lt
  have hnf : s6.length ≠ 3 := by omega
  -- drop
  obtain ⟨t9, s8, e8, t90, t91, x8⟩ := take_ok x7.bag (m := 9) (by decide) (by decide)
  obtain ⟨t3, s9, e9, t30, t31, x9⟩ := take_ok x8.bag (m := 3) (by decide) (by decide)
  have en := num_pos (p := -1 - t9) (q := 1 + t3) (by omega) (sm_lt (by omega)) s9
  have hdr : H12 (10 ^ 31) (low (-1 - t9) (1 + t3)) := (h12_of (A := 20) (by omega) (by omega) (by omega)).le (by decide)
  generalize low (-1 - t9) (1 + t3) = dr at en hdr
  have n9 := x9.keep _ _ hnf (x8.keep _ _ hnf n7)
  -- rows
  obtain ⟨n, rows, sA, eA, xA, nA, atA, lA, hA⟩ := facts_ok (w := w) x9.bag n9 hnf Fh dp (by omega) (by omega) w1 w2 hsp (dpp hsp) hdr
  obtain ⟨y9, sB, eB, xB⟩ := loop_ext (i := 9) (body := sIf (fNot (fTru (fCall g__law_answers (fCons (fVar 1) (fCons (fCall g__law_with (fCons (fBin gIx (fVar 9) (fC (.int 0))) (fCons (fBin gIx (fVar 9) (fC (.int 1))) (fNil)))) (fCons (fVar 2) (fCons (fBin gIx (fVar 9) (fC (.int 2))) (fNil)))))))) (sRet (fC (.bl false))) (sSkip)) (ρ0 := [some (.loc 0), some (.loc 3), some (.int (w : Nat)), some (.int (c : Nat)), some (.int (spot : Nat)), some (.bl far), some (.tup ds), some (.loc s6.length), some dr, none, none, none, none, none, none, none]) (chk := fun s => decide (lstAt s n = some rows)) (s0 := sA) (b := 3) (fun s h => decide_eq_true (lstAt_lst (h.keep _ _ nA atA))) rows none sA (Ext.refl xA.bag) (fun d hd s hs => row_answers (n := n) hs.bag ((hA d hd).px hs.px hs.ls) w2 rfl rfl rfl)
  -- constant
  obtain ⟨t2, sC, eC, t20, t21, xC⟩ := take_ok (xB.bag.gr (Gr.app [Ob.lst [dr, fr 0 1]])) (m := 2) (by decide) (by decide)
  obtain ⟨kc, rfl⟩ : ∃ kc : Nat, t2 = (kc : Int) := ⟨t2.toNat, by omega⟩
  have lB := xB.bag.lt
  have nC : sC[sB.length]? = some (.lst [dr, fr 0 1]) := xC.keep _ _ (by omega) app_new
  obtain ⟨cn, hcn, hct⟩ : ∃ cn, [dr, fr 0 1][kc]? = some cn ∧ H12 (10 ^ 31) cn := by
    have : kc = 0 ∨ kc = 1 := by omega
    rcases this with q | q <;> rw [q]
    · exact ⟨dr, rfl, hdr⟩
    · exact ⟨fr 0 1, rfl, ⟨0, (low_zero (by decide)).symm, by decide⟩⟩
  have xBC : Ext 3 sB sC := (K04.Gr.ext (Gr.app _) xB.bag).trans xC
  -- flags
  obtain ⟨Gf, sD, eD, xD, nD, aD⟩ := lc_ext (own := [15]) (fi := fRng1 (fCons (fVar 3) (fNil))) (g := tgN 15) (fe := fOrV (fBin gEq (fVar 15) (fVar 4)) (fBin gEq (fCall g__law_take (fCons (fVar 1) (fCons (fC (.int 3)) (fNil)))) (fC (.int 1)))) (ρ := [some (.loc 0), some (.loc 3), some (.int (w : Nat)), some (.int (c : Nat)), some (.int (spot : Nat)), some (.bl far), some (.tup ds), some (.loc s6.length), some dr, y9, some cn, none, none, none, none, none]) (st := sC) (st1 := sC) (ds := rngK 0 c) (chk := fun _ => true) (b := 3) (fun _ v => isBl v = true) xC.bag (rng_v (i := 3) rfl (by omega)) (by rw [rngK_len]; exact short (by omega)) (fun _ _ => rfl) (fun d hd s hs => by
    rw [rngK_eq] at hd
    obtain ⟨k, hk, rfl⟩ := List.mem_map.mp hd
    obtain ⟨v, s', e, x, hv⟩ := flag_item (c := c) (k := 0 + k) (ρ := [some (.loc 0), some (.loc 3), some (.int (w : Nat)), some (.int (c : Nat)), some (.int (spot : Nat)), some (.bl far), some (.tup ds), some (.loc s6.length), some dr, y9, some cn, none, none, none, none, some (.int ((0 + k : Nat) : Int))]) hs.bag rfl rfl rfl
    exact ⟨_, rfl, v, s', e, x, hv⟩)
  have Gl := aD.len
  rw [rngK_len] at Gl
  have Gh : ∀ d ∈ Gf, isBl d = true := fun d hd => by
    obtain ⟨_, _, h⟩ := aD.mem d hd
    exact h
  have nFD := xD.keep _ _ hnf (xBC.keep _ _ hnf (xB.keep _ _ hnf (xA.keep _ _ hnf n9)))
  -- facts
  obtain ⟨nb, Bs, sE, eE, gE, lE, atE, cE, hE⟩ := bal_ok (w := w) nFD Fh dp (by omega) (by omega) w2 hsp (dpp hsp) hct
  have lC := xC.bag.lt
  have nfE := gE.keep _ _ nD
  obtain ⟨F, eF, cF, hF⟩ := with_ok (w := w) atE nfE (by omega) (by omega) (fun d hd => g80 (hE d hd)) Gh
  have bE := xD.bag.gr gE
  have lE' := bE.lt
  have xF : Ext 3 sE (sE ++ [Ob.lst (F.map fD)]) := K04.Gr.ext (Gr.app _) bE
  have nF : (sE ++ [Ob.lst (F.map fD)])[sE.length]? = some (.lst (F.map fD)) := app_new
  have hnE : sE.length ≠ 3 := by omega
  -- bent
  obtain ⟨np, ps, sG, eG, xG, hnp, nG, lG, hG⟩ := bent_ok xF.bag dp hsp (dpp hsp) (by omega)
  have nFG := xG.keep _ _ hnE nF
  obtain ⟨y13, sH, eH, xH⟩ := loop_ext (i := 13) (body := sIf (fNot (fTru (fCall g__law_answers (fCons (fVar 1) (fCons (fVar 12) (fCons (fVar 2) (fCons (fVar 13) (fNil)))))))) (sRet (fC (.bl false))) (sSkip)) (ρ0 := [some (.loc 0), some (.loc 3), some (.int (w : Nat)), some (.int (c : Nat)), some (.int (spot : Nat)), some (.bl far), some (.tup ds), some (.loc s6.length), some dr, y9, some cn, some (.loc sC.length), some (.loc sE.length), none, none, none]) (chk := fun s => decide (lstAt s np = some ps)) (s0 := sG) (b := 3) (fun s h => decide_eq_true (lstAt_lst (h.keep _ _ hnp nG))) ps none sG (Ext.refl xG.bag) (fun d hd s hs => by
    obtain ⟨s', e, x⟩ := answers_ok (nf := sE.length) hs.bag (lstAt_lst (hs.keep _ _ hnE nFG)) hnE hF (by omega) w2 ((hG d hd).ls hs.ls)
    exact ⟨s', ifn_ok (call_ok (cons_ok (v_ok (d := .loc 3) rfl) (cons_ok (v_ok (d := .loc sE.length) rfl) (cons_ok (v_ok (d := .int (w : Nat)) rfl) (cons_ok (v_ok (d := d) rfl) nil_ok)))) e), x⟩)
  have nFH := xH.keep _ _ hnE nFG
  -- opposite
  have gs := gSl_loc (lo := none) (hi := some ((2 : Nat) : Int)) (lstAt_lst nFH)
  rw [cut_take] at gs
  have xI : Ext 3 sH (sH ++ [Ob.lst ((F.map fD).take 2)]) := K04.Gr.ext (Gr.app _) xH.bag
  have nI : (sH ++ [Ob.lst ((F.map fD).take 2)])[sH.length]? = some (.lst ((F.map fD).take 2)) := app_new
  have lH := xH.bag.lt
  obtain ⟨y14, sJ, eJ, xJ⟩ := loop_ext (i := 14) (body := sIf (fNot (fTru (fCall g__law_opposite (fCons (fVar 1) (fCons (fVar 14) (fCons (fVar 2) (fNil))))))) (sRet (fC (.bl false))) (sSkip)) (ρ0 := [some (.loc 0), some (.loc 3), some (.int (w : Nat)), some (.int (c : Nat)), some (.int (spot : Nat)), some (.bl far), some (.tup ds), some (.loc s6.length), some dr, y9, some cn, some (.loc sC.length), some (.loc sE.length), y13, none, none]) (chk := fun s => decide (lstAt s sH.length = some ((F.map fD).take 2))) (s0 := sH ++ [Ob.lst ((F.map fD).take 2)]) (b := 3) (fun s h => decide_eq_true (lstAt_lst (h.keep _ _ (by omega) nI))) ((F.map fD).take 2) none _ (Ext.refl xI.bag) (fun d hd s hs => by
    obtain ⟨f, rfl, hf⟩ := fac_at hF (List.mem_of_mem_take hd)
    obtain ⟨s', e, x⟩ := law_opposite_ok hs.bag hf w2
    exact ⟨s', ifn_ok (call_ok (cons_ok (v_ok (d := .loc 3) rfl) (cons_ok (v_ok (d := fD f) rfl) (cons_ok (v_ok (d := .int (w : Nat)) rfl) nil_ok))) e), x⟩)
  have nFJ := xJ.keep _ _ hnE (xI.keep _ _ hnE nFH)
  obtain ⟨sK, eK⟩ := refused_ok (w := w) (ds := ds) xJ.bag (lstAt_lst nFJ) hnE hF (by omega) (by omega) w2
  refine ⟨sK, ?_⟩
  have z : m_law [some (.loc 0), none, none, none, none, none, none, none, none, none, none, none, none, none, none, none] [.fz (ns.map D.int)] = .rt (.bl true) sK := by
    unfold m_law
    refine seq_nx (ρ1 := [some (.loc 0), some (.loc 3), none, none, none, none, none, none, none, none, none, none, none, none, none, none]) (st1 := s1) (set_ok (call_ok (cons_ok (v_ok (d := .loc 0) rfl) nil_ok) e1)) ?_
    refine seq_nx (ρ1 := [some (.loc 0), some (.loc 3), some (.int (w : Nat)), none, none, none, none, none, none, none, none, none, none, none, none, none]) (st1 := s2) (set_ok (bin_ok c_ok (call_ok (cons_ok (v_ok (d := .loc 3) rfl) (cons_ok c_ok nil_ok)) e2) (by rw [← hw]; rfl))) ?_
    refine seq_nx (ρ1 := [some (.loc 0), some (.loc 3), some (.int (w : Nat)), some (.int (c : Nat)), none, none, none, none, none, none, none, none, none, none, none, none]) (st1 := s3) (set_ok (bin_ok c_ok (call_ok (cons_ok (v_ok (d := .loc 3) rfl) (cons_ok c_ok nil_ok)) e3) (by rw [← hc]; rfl))) ?_
    refine seq_nx (ρ1 := [some (.loc 0), some (.loc 3), some (.int (w : Nat)), some (.int (c : Nat)), some (.int (spot : Nat)), none, none, none, none, none, none, none, none, none, none, none]) (st1 := s4) (set_ok (call_ok (cons_ok (v_ok (d := .loc 3) rfl) (cons_ok (v_ok (d := .int (c : Nat)) rfl) nil_ok)) e4)) ?_
    refine seq_nx (ρ1 := [some (.loc 0), some (.loc 3), some (.int (w : Nat)), some (.int (c : Nat)), some (.int (spot : Nat)), some (.bl far), none, none, none, none, none, none, none, none, none, none]) (st1 := s5) (set_ok (bin_ok (call_ok (cons_ok (v_ok (d := .loc 3) rfl) (cons_ok c_ok nil_ok)) e5) c_ok (by rw [gEq_int, ← hfar]))) ?_
    refine seq_nx (ρ1 := [some (.loc 0), some (.loc 3), some (.int (w : Nat)), some (.int (c : Nat)), some (.int (spot : Nat)), some (.bl far), some (.tup ds), none, none, none, none, none, none, none, none, none]) (st1 := s6) (set_ok (call_ok (cons_ok (v_ok (d := .loc 3) rfl) (cons_ok (v_ok (d := .int (c : Nat)) rfl) (cons_ok (v_ok (d := .int (spot : Nat)) rfl) nil_ok))) e6)) ?_
    refine seq_nx (ρ1 := [some (.loc 0), some (.loc 3), some (.int (w : Nat)), some (.int (c : Nat)), some (.int (spot : Nat)), some (.bl far), some (.tup ds), some (.loc s6.length), none, none, none, none, none, none, none, none]) (st1 := s7) (set_ok e7) ?_
    refine seq_nx (ρ1 := [some (.loc 0), some (.loc 3), some (.int (w : Nat)), some (.int (c : Nat)), some (.int (spot : Nat)), some (.bl far), some (.tup ds), some (.loc s6.length), some dr, none, none, none, none, none, none, none]) (st1 := s9) (set_ok (call_ok (cons_ok (bin_ok (un_ok c_ok (d := .int (-1)) (st2 := s7) rfl) (call_ok (cons_ok (v_ok (d := .loc 3) rfl) (cons_ok c_ok nil_ok)) e8) rfl) (cons_ok (bin_ok c_ok (call_ok (cons_ok (v_ok (d := .loc 3) rfl) (cons_ok c_ok nil_ok)) e9) rfl) nil_ok)) en)) ?_
    refine seq_nx (ρ1 := [some (.loc 0), some (.loc 3), some (.int (w : Nat)), some (.int (c : Nat)), some (.int (spot : Nat)), some (.bl far), some (.tup ds), some (.loc s6.length), some dr, y9, none, none, none, none, none, none]) (st1 := sB) ?_ ?_
    · rw [sFor_loc (n := n) (st1 := sA) (ds := rows) (call_ok (cons_ok (v_ok (d := .loc 3) rfl) (cons_ok (v_ok (d := .loc s6.length) rfl) (cons_ok (v_ok (d := .tup ds) rfl) (cons_ok (v_ok (d := .int (spot : Nat)) rfl) (cons_ok (v_ok (d := dr) rfl) nil_ok))))) eA) (lstAt_lst atA)]
      exact eB
    refine seq_nx (ρ1 := [some (.loc 0), some (.loc 3), some (.int (w : Nat)), some (.int (c : Nat)), some (.int (spot : Nat)), some (.bl far), some (.tup ds), some (.loc s6.length), some dr, y9, some cn, none, none, none, none, none]) (st1 := sC) (set_ok (bin_ok (lst_ok (cons_ok (v_ok (d := dr) rfl) (cons_ok (tup_ok (cons_ok c_ok (cons_ok c_ok nil_ok))) nil_ok))) (call_ok (cons_ok (v_ok (d := .loc 3) rfl) (cons_ok c_ok nil_ok)) eC) (by rw [gIx_loc _ _ (lstAt_lst nC), atI_nat hcn]; rfl))) ?_
    refine seq_nx (ρ1 := [some (.loc 0), some (.loc 3), some (.int (w : Nat)), some (.int (c : Nat)), some (.int (spot : Nat)), some (.bl far), some (.tup ds), some (.loc s6.length), some dr, y9, some cn, some (.loc sC.length), none, none, none, none]) (st1 := sD) (set_ok eD) ?_
    refine seq_nx (ρ1 := [some (.loc 0), some (.loc 3), some (.int (w : Nat)), some (.int (c : Nat)), some (.int (spot : Nat)), some (.bl far), some (.tup ds), some (.loc s6.length), some dr, y9, some cn, some (.loc sC.length), some (.loc sE.length), none, none, none]) (st1 := sE ++ [Ob.lst (F.map fD)]) (set_ok (call_ok (cons_ok (call_ok (cons_ok (v_ok (d := .loc s6.length) rfl) (cons_ok (v_ok (d := .tup ds) rfl) (cons_ok (v_ok (d := .int (spot : Nat)) rfl) (cons_ok (v_ok (d := cn) rfl) nil_ok)))) eE) (cons_ok (v_ok (d := .loc sC.length) rfl) nil_ok)) eF)) ?_
    refine seq_nx (ρ1 := [some (.loc 0), some (.loc 3), some (.int (w : Nat)), some (.int (c : Nat)), some (.int (spot : Nat)), some (.bl far), some (.tup ds), some (.loc s6.length), some dr, y9, some cn, some (.loc sC.length), some (.loc sE.length), y13, none, none]) (st1 := sH) ?_ ?_
    · rw [sFor_loc (n := np) (st1 := sG) (ds := ps) (call_ok (cons_ok (v_ok (d := .loc 3) rfl) (cons_ok (v_ok (d := .tup ds) rfl) (cons_ok (v_ok (d := .int (spot : Nat)) rfl) nil_ok))) eG) (lstAt_lst nG)]
      exact eH
    refine seq_nx (ρ1 := [some (.loc 0), some (.loc 3), some (.int (w : Nat)), some (.int (c : Nat)), some (.int (spot : Nat)), some (.bl far), some (.tup ds), some (.loc s6.length), some dr, y9, some cn, some (.loc sC.length), some (.loc sE.length), y13, y14, none]) (st1 := sJ) ?_ ?_
    · have e5 : (fSl gSl (fVar 12) (fNo) (fPart (fC (.int 2)))) [some (.loc 0), some (.loc 3), some (.int (w : Nat)), some (.int (c : Nat)), some (.int (spot : Nat)), some (.bl far), some (.tup ds), some (.loc s6.length), some dr, y9, some cn, some (.loc sC.length), some (.loc sE.length), y13, none, none] sH = .ok (.loc sH.length) (sH ++ [Ob.lst ((F.map fD).take 2)]) := by
        rw [fSl_ap, v_ok (d := .loc sE.length) rfl, Out.bind_ok, fNo_ap, Out.bind_ok, show (fPart (fC (.int 2))) [some (.loc 0), some (.loc 3), some (.int (w : Nat)), some (.int (c : Nat)), some (.int (spot : Nat)), some (.bl far), some (.tup ds), some (.loc s6.length), some dr, y9, some cn, some (.loc sC.length), some (.loc sE.length), y13, none, none] sH = .ok (some ((2 : Nat) : Int)) sH from rfl, Out.bind_ok, gs]
        rfl
      rw [sFor_loc (n := sH.length) e5 (lstAt_lst nI)]
      exact eJ
    exact ret_ok (call_ok (cons_ok (v_ok (d := .loc 3) rfl) (cons_ok (v_ok (d := .loc sE.length) rfl) (cons_ok (v_ok (d := .int (w : Nat)) rfl) (cons_ok (v_ok (d := .tup ds) rfl) nil_ok)))) eK)
  exact den_end rfl z
end K04

set_option Elab.async false
set_option linter.all false
set_option maxRecDepth 100000
set_option maxHeartbeats 0
open PySem PySem.W PySem.Calls PyProof.Rows
theorem PySem.Challenge.cw_pagefit_k04_multipliers_shown_holds : PySem.Challenge.rw_pagefit_k04_multipliers_shown.Holds := by
  w_on; o_law
  refine HandSHeadRun.head_imp (r := OpenLaw.row PySem.Challenge.rw_pagefit_k04_multipliers_shown) (q := view (OpenLaw.row PySem.Challenge.rw_pagefit_k04_multipliers_shown).prog [0, 54]) (H := K04.hk) (ob := K04.ob) (M := 6000) (loose := K04.loose) (d := HandSHeadRun.topDef (OpenLaw.row PySem.Challenge.rw_pagefit_k04_multipliers_shown).prog 54) (kwd := []) K04.ob_eq
    K04.run (by kernel_rfl) (by kernel_rfl) (by kernel_rfl) (by rfl) (by first | assumption | decide +kernel) (by decide +kernel) ⟨rfl, rfl, rfl, rfl, rfl, by decide +kernel⟩ ?hw ?hc
  case hw => w_witness2
  case hc =>
    refine MP.walk_ofM (l := PySem.Challenge.rw_pagefit_k04_multipliers_shown) (n := 63) (k := 9) (x := "script") rfl (by decide) (by kernel_rfl) ⟨rfl, by decide, by decide⟩ ?F
    intro w mg fa h Y Gm hmg0
    obtain ⟨K, KX, c⟩ := Y
    have hmg : mg ("law" : PySem.Str) = some (.ref fa) := by
      have e : (HandSHeadRun.topDef (OpenLaw.row PySem.Challenge.rw_pagefit_k04_multipliers_shown).prog 54).name = ("law" : PySem.Str) := by kernel_rfl
      rw [← e]
      exact hmg0
    obtain ⟨fd, hb, hF⟩ := K04.law_fn (w := w) KX Gm hmg c
    exact ⟨K, fd, _, KX, hb, fun H a ns hl hO hS => MP.sp_law 63 K04.law_true H a ns hl hO hS, hF⟩

