import PyProof.Rows.All
import Wide.All
import OpenK.AllK
import Wide.FinOn
import HandS.ForMost
import HandS.ForExc
import HandS.ExcCtx
import HandS.HotCalls
import HandS.Wide
import HandS.Gcd
import HandS.IsInst
import HandS.TupAny
import HandS.Style
import HandS.Flow
import HandS.More
import HandS.RaiseMore
import HandS.CallSlots
import HandS.Defaults
import HandS.Star
import KE.KExcInit
import KE.KExcSuper
import KE.KSuper
import HandS.Base
import HandS.Call
import HandS.Exc
import HandS.ExcSuper
import HandS.ExcInit
import HandS.ExcField
import HandS.ExcIs
import KE.KExcIs
import HandS.Head0
import HandS.Head1
import HandS.Head2
import HandS.HeadEnd
import HandS.HeadHook1
import HandS.HeadHook2
import HandS.Words
import HandS.WordsExc
import HandS.Text
import HandS.StrMore
import HandS.FStr
import HandS.Head3
import PyProof.Rows.StrLawsPart
import KE.IntTextLaws
import PySem.Challenge.RW_pagefit_k01_number_texts
set_option Elab.async false
set_option linter.all false
set_option maxRecDepth 100000
set_option maxHeartbeats 4000000
/-! MP: programs over plain data. A value is a datum D (tuples are data, lists are places of a store S); every construct
has a denotation, a plain function of environment and store; each rule says that HandS's judgement holds with the reading
that the denotation gives. -/
namespace MP
open PySem L2

inductive D where
  | non | bl (b : Bool) | int (i : Int) | str (x : Str) | tup (xs : List D) | loc (n : Nat)
  deriving Inhabited
/-- a list; a list that is only read; the own dict of an exception -/
inductive Ob where
  | lst (ds : List D) | fz (ds : List D) | xd (fs : List (Str × D)) | nu
  deriving Inhabited
abbrev S := List Ob
/-- an exception: its class's name, the place of its own dict -/
structure Ex where
  cls : Str
  at_ : Nat

/-! ### representation -/
section
variable (K : PySem.W.Frag) (m : Nat → Addr) (n : Nat) (H : Hp)
mutual
def RV : D → V → Prop
  | .non, v => v = .non
  | .bl b, v => v = .bl b
  | .int i, v => v = .int i
  | .str x, v => v = .str x
  | .loc k, v => k < n ∧ v = .ref (m k)
  | .tup ds, v => ∃ a vs, v = .ref a ∧ SqT K H a vs ∧ RVs ds vs
def RVs : List D → List V → Prop
  | [], vs => vs = []
  | d :: ds, vs => ∃ v r, vs = v :: r ∧ RV d v ∧ RVs ds r
end
end

/-- a list of the written part, or a locked one -/
def FzL (K : PySem.W.Frag) (H : Hp) (a : Addr) (xs : List V) : Prop :=
  (∃ o, H a = some (.frz o (.lst xs))) ∨
    ∃ (o : Obj) (its : Array Value) (n : Nat), K.lookup a = some o ∧ o.cls = .type "list" ∧ o.dict = none ∧ o.data = .seq its n ∧ its.size ≤ sizeLine ∧ Vals xs its.toList
theorem FzL.seq {K : PySem.W.Frag} {H : Hp} {a : Addr} {xs : List V} (h : FzL K H a xs) : SqL K H a xs := by
  rcases h with ⟨o, h⟩ | h
  · exact .inl (.inr ⟨o, h⟩)
  · exact .inr h

def RO (K : PySem.W.Frag) (m : Nat → Addr) (n : Nat) (H : Hp) : Ob → Addr → Prop
  | .lst ds, a => ∃ vs, H a = some (.lst vs) ∧ RVs K m n H ds vs
  | .fz ds, a => ∃ vs, FzL K H a vs ∧ RVs K m n H ds vs
  | .xd fs, a => ∃ vs, H a = some (.xd ((fs.map (·.1)).zip vs)) ∧ RVs K m n H (fs.map (·.2)) vs
  | .nu, _ => True
def Ob.mut : Ob → Bool
  | .lst _ => true
  | .fz _ => false
  | .xd _ => false
  | .nu => false
structure RS (K : PySem.W.Frag) (m : Nat → Addr) (st : S) (H : Hp) : Prop where
  at_ : ∀ k o, st[k]? = some o → RO K m st.length H o (m k)
  inj : ∀ i j oi oj, st[i]? = some oi → st[j]? = some oj → oi.mut = true → oj.mut = true → m i = m j → i = j

/-- what holds of values ahead holds behind -/
def Mn (K : PySem.W.Frag) (m : Nat → Addr) (n : Nat) (H : Hp) (m' : Nat → Addr) (n' : Nat) (H' : Hp) : Prop :=
  ∀ d v, RV K m n H d v → RV K m' n' H' d v
theorem Mn.refl {K : PySem.W.Frag} {m : Nat → Addr} {n : Nat} {H : Hp} : Mn K m n H m n H := fun _ _ h => h
theorem Mn.trans {K : PySem.W.Frag} {m m1 m2 : Nat → Addr} {n n1 n2 : Nat} {H H1 H2 : Hp} (a : Mn K m n H m1 n1 H1) (b : Mn K m1 n1 H1 m2 n2 H2) : Mn K m n H m2 n2 H2 :=
  fun d v h => b d v (a d v h)
theorem Mn.all {K : PySem.W.Frag} {m m' : Nat → Addr} {n n' : Nat} {H H' : Hp} (a : Mn K m n H m' n' H') : ∀ {ds : List D} {vs : List V}, RVs K m n H ds vs → RVs K m' n' H' ds vs
  | [], vs, h => h
  | d :: ds, vs, h => by
    obtain ⟨v, r, e, h1, h2⟩ := h
    exact ⟨v, r, e, a d v h1, Mn.all a h2⟩

section
variable {K : PySem.W.Frag} {m m' : Nat → Addr} {n n' : Nat} {H H' : Hp}
mutual
theorem rv_mono (ht : ∀ a vs, SqT K H a vs → SqT K H' a vs) (hn : n ≤ n') (hm : ∀ k, k < n → m' k = m k) : ∀ (d : D) (v : V), RV K m n H d v → RV K m' n' H' d v
  | .non, v, h => h
  | .bl b, v, h => h
  | .int i, v, h => h
  | .str x, v, h => h
  | .loc k, v, h => by
    obtain ⟨h1, h2⟩ := h
    exact ⟨Nat.lt_of_lt_of_le h1 hn, by rw [hm k h1]; exact h2⟩
  | .tup ds, v, h => by
    obtain ⟨a, vs, e, h1, h2⟩ := h
    exact ⟨a, vs, e, ht a vs h1, rvs_mono ht hn hm ds vs h2⟩
theorem rvs_mono (ht : ∀ a vs, SqT K H a vs → SqT K H' a vs) (hn : n ≤ n') (hm : ∀ k, k < n → m' k = m k) : ∀ (ds : List D) (vs : List V), RVs K m n H ds vs → RVs K m' n' H' ds vs
  | [], vs, h => h
  | d :: ds, vs, h => by
    obtain ⟨v, r, e, h1, h2⟩ := h
    exact ⟨v, r, e, rv_mono ht hn hm d v h1, rvs_mono ht hn hm ds r h2⟩
end
theorem Mn.of (ht : ∀ a vs, SqT K H a vs → SqT K H' a vs) (hn : n ≤ n') (hm : ∀ k, k < n → m' k = m k) : Mn K m n H m' n' H' := rv_mono ht hn hm
end

theorem sqt_upd {K : PySem.W.Frag} {H : Hp} {p : Addr} {o : HO} (hp : ∀ xs, ¬ Rd H p (.tup xs)) {a : Addr} {vs : List V} (h : SqT K H a vs) : SqT K (upd H p o) a vs := by
  rcases h with h | h
  · have ne : a ≠ p := fun e => hp vs (e ▸ h)
    rcases h with h | ⟨o', h⟩
    · exact .inl (.inl (by rw [upd_ne ne]; exact h))
    · exact .inl (.inr ⟨o', by rw [upd_ne ne]; exact h⟩)
  · exact .inr h
theorem nord_none {H : Hp} {p : Addr} (h : H p = none) (xs : List V) : ¬ Rd H p (.tup xs) := by
  rintro (q | ⟨o, q⟩) <;> rw [h] at q <;> cases q
theorem nord_lst {H : Hp} {p : Addr} {ys : List V} (h : H p = some (.lst ys)) (xs : List V) : ¬ Rd H p (.tup xs) := by
  rintro (q | ⟨o, q⟩) <;> rw [h] at q <;> cases q
theorem fz_upd {K : PySem.W.Frag} {H : Hp} {p : Addr} {o : HO} (hp : ∀ b xs, H p ≠ some (.frz b (.lst xs))) {a : Addr} {vs : List V} (h : FzL K H a vs) : FzL K (upd H p o) a vs := by
  rcases h with ⟨b, h⟩ | h
  · have ne : a ≠ p := fun e => hp b vs (e ▸ h)
    exact .inl ⟨b, by rw [upd_ne ne]; exact h⟩
  · exact .inr h

section
variable {K : PySem.W.Frag} {m : Nat → Addr} {st : S} {H : Hp}
/-- a new tuple (or another object that no place names) is laid -/
theorem RS.laid (r : RS K m st H) {p : Addr} {o : HO} (hp : H p = none) : RS K m st (upd H p o) ∧ Mn K m st.length H m st.length (upd H p o) := by
  have mn : Mn K m st.length H m st.length (upd H p o) := Mn.of (fun a vs h => sqt_upd (nord_none hp) h) (Nat.le_refl _) (fun _ _ => rfl)
  refine ⟨⟨fun k ob e => ?_, r.inj⟩, mn⟩
  have h := r.at_ k ob e
  cases ob with
  | lst ds =>
    obtain ⟨vs, h1, h2⟩ := h
    have ne : m k ≠ p := fun q => by rw [q, hp] at h1; cases h1
    exact ⟨vs, by rw [upd_ne ne]; exact h1, mn.all h2⟩
  | fz ds =>
    obtain ⟨vs, h1, h2⟩ := h
    exact ⟨vs, fz_upd (fun b xs q => by rw [hp] at q; cases q) h1, mn.all h2⟩
  | xd fs =>
    obtain ⟨vs, h1, h2⟩ := h
    have ne : m k ≠ p := fun q => by rw [q, hp] at h1; cases h1
    exact ⟨vs, by rw [upd_ne ne]; exact h1, mn.all h2⟩
  | nu => trivial
/-- a new object gets the next place -/
theorem RS.pushO (r : RS K m st H) {p : Addr} (hp : H p = none) {ob : Ob} {u : HO} (hv : ∀ m' n' H', H' p = some u → Mn K m st.length H m' n' H' → RO K m' n' H' ob p) :
    ∃ m', m' st.length = p ∧ RS K m' (st ++ [ob]) (upd H p u) ∧ Mn K m st.length H m' (st ++ [ob]).length (upd H p u) := by
  have hl : (st ++ [ob]).length = st.length + 1 := by simp
  have mn : Mn K m st.length H (fun k => if k = st.length then p else m k) (st ++ [ob]).length (upd H p u) :=
    Mn.of (fun a vs h => sqt_upd (nord_none hp) h) (by rw [hl]; omega) (fun k hk => by rw [if_neg (by omega)])
  refine ⟨fun k => if k = st.length then p else m k, by simp, ⟨fun k ob' e => ?_, fun i j oi oj ei ej mi mj q => ?_⟩, mn⟩
  · by_cases hk : k = st.length
    · subst hk
      simp at e
      subst e
      show RO K _ _ _ ob (if st.length = st.length then p else m st.length)
      rw [if_pos rfl]
      exact hv _ _ _ upd_same mn
    · have hk2 : k < st.length := by
        have := (List.getElem?_eq_some_iff.mp e).1
        rw [hl] at this
        omega
      rw [List.getElem?_append_left hk2] at e
      have h := r.at_ k ob' e
      show RO K _ _ _ ob' (if k = st.length then p else m k)
      rw [if_neg hk]
      cases ob' with
      | lst ds' =>
        obtain ⟨vs', h1, h2⟩ := h
        have ne : m k ≠ p := fun q => by rw [q, hp] at h1; cases h1
        exact ⟨vs', by rw [upd_ne ne]; exact h1, mn.all h2⟩
      | fz ds' =>
        obtain ⟨vs', h1, h2⟩ := h
        exact ⟨vs', fz_upd (fun b xs q => by rw [hp] at q; cases q) h1, mn.all h2⟩
      | xd fs =>
        obtain ⟨vs', h1, h2⟩ := h
        have ne : m k ≠ p := fun q => by rw [q, hp] at h1; cases h1
        exact ⟨vs', by rw [upd_ne ne]; exact h1, mn.all h2⟩
      | nu => trivial
  · have old : ∀ k o, (st ++ [ob])[k]? = some o → k ≠ st.length → st[k]? = some o := fun k o e hk => by
      have hk2 : k < st.length := by
        have := (List.getElem?_eq_some_iff.mp e).1
        rw [hl] at this
        omega
      rw [List.getElem?_append_left hk2] at e
      exact e
    have far : ∀ k o, st[k]? = some o → o.mut = true → m k ≠ p := fun k o e hm q => by
      have h := r.at_ k o e
      cases o with
      | lst ds' =>
        obtain ⟨vs', h1, h2⟩ := h
        rw [q, hp] at h1; cases h1
      | fz ds' => cases hm
      | xd fs => cases hm
      | nu => cases hm
    have q' : (if i = st.length then p else m i) = (if j = st.length then p else m j) := q
    by_cases hi : i = st.length
    · by_cases hj : j = st.length
      · rw [hi, hj]
      · rw [if_pos hi, if_neg hj] at q'
        exact absurd q'.symm (far j oj (old j oj ej hj) mj)
    · by_cases hj : j = st.length
      · rw [if_neg hi, if_pos hj] at q'
        exact absurd q' (far i oi (old i oi ei hi) mi)
      · rw [if_neg hi, if_neg hj] at q'
        exact r.inj i j oi oj (old i oi ei hi) (old j oj ej hj) mi mj q'
theorem RS.push (r : RS K m st H) {p : Addr} (hp : H p = none) {ds : List D} {vs : List V} (hv : RVs K m st.length H ds vs) :
    ∃ m', m' st.length = p ∧ RS K m' (st ++ [.lst ds]) (upd H p (.lst vs)) ∧ Mn K m st.length H m' (st ++ [Ob.lst ds]).length (upd H p (.lst vs)) :=
  r.pushO hp fun _ _ _ e mn => ⟨vs, e, mn.all hv⟩
theorem RS.pushX (r : RS K m st H) {p : Addr} (hp : H p = none) {fs : List (Str × D)} {vs : List V} (hv : RVs K m st.length H (fs.map (·.2)) vs) :
    ∃ m', m' st.length = p ∧ RS K m' (st ++ [.xd fs]) (upd H p (.xd ((fs.map (·.1)).zip vs))) ∧ Mn K m st.length H m' (st ++ [Ob.xd fs]).length (upd H p (.xd ((fs.map (·.1)).zip vs))) :=
  r.pushO hp fun _ _ _ e mn => ⟨vs, e, mn.all hv⟩
/-- an address gets a place, nothing is said of it -/
theorem RS.pushN (r : RS K m st H) (p : Addr) : ∃ m', m' st.length = p ∧ RS K m' (st ++ [.nu]) H ∧ Mn K m st.length H m' (st ++ [Ob.nu]).length H := by
  have hl : (st ++ [Ob.nu]).length = st.length + 1 := by simp
  have mn : Mn K m st.length H (fun k => if k = st.length then p else m k) (st ++ [Ob.nu]).length H :=
    Mn.of (fun a vs h => h) (by rw [hl]; omega) (fun k hk => by rw [if_neg (by omega)])
  have old : ∀ k o, (st ++ [Ob.nu])[k]? = some o → k ≠ st.length → k < st.length ∧ st[k]? = some o := fun k o e hk => by
    have hk2 : k < st.length := by
      have := (List.getElem?_eq_some_iff.mp e).1
      rw [hl] at this
      omega
    rw [List.getElem?_append_left hk2] at e
    exact ⟨hk2, e⟩
  have mut_old : ∀ k o, (st ++ [Ob.nu])[k]? = some o → o.mut = true → k < st.length ∧ st[k]? = some o := fun k o e hm => by
    by_cases hk : k = st.length
    · subst hk
      simp at e
      subst e
      cases hm
    · exact old k o e hk
  refine ⟨fun k => if k = st.length then p else m k, by simp, ⟨fun k ob' e => ?_, fun i j oi oj ei ej mi mj q => ?_⟩, mn⟩
  · by_cases hk : k = st.length
    · subst hk
      simp at e
      subst e
      trivial
    · obtain ⟨hk2, e⟩ := old k ob' e hk
      have h := r.at_ k ob' e
      show RO K _ _ _ ob' (if k = st.length then p else m k)
      rw [if_neg hk]
      cases ob' with
      | lst ds' =>
        obtain ⟨vs', h1, h2⟩ := h
        exact ⟨vs', h1, mn.all h2⟩
      | fz ds' =>
        obtain ⟨vs', h1, h2⟩ := h
        exact ⟨vs', h1, mn.all h2⟩
      | xd fs =>
        obtain ⟨vs', h1, h2⟩ := h
        exact ⟨vs', h1, mn.all h2⟩
      | nu => trivial
  · obtain ⟨hi, ei⟩ := mut_old i oi ei mi
    obtain ⟨hj, ej⟩ := mut_old j oj ej mj
    have q' : (if i = st.length then p else m i) = (if j = st.length then p else m j) := q
    rw [if_neg (by omega), if_neg (by omega)] at q'
    exact r.inj i j oi oj ei ej mi mj q'
/-- a list is changed -/
theorem RS.write (r : RS K m st H) {k : Nat} {ds0 ds : List D} {vs : List V} (e0 : st[k]? = some (.lst ds0)) (hv : RVs K m st.length H ds vs) :
    RS K m (st.set k (.lst ds)) (upd H (m k) (.lst vs)) ∧ Mn K m st.length H m (st.set k (.lst ds)).length (upd H (m k) (.lst vs)) := by
  obtain ⟨vs0, h0, _⟩ := r.at_ k _ e0
  have hl : (st.set k (.lst ds)).length = st.length := by simp
  have hk : k < st.length := (List.getElem?_eq_some_iff.mp e0).1
  have mn : Mn K m st.length H m (st.set k (.lst ds)).length (upd H (m k) (.lst vs)) :=
    Mn.of (fun a vs h => sqt_upd (nord_lst h0) h) (by rw [hl]; omega) (fun _ _ => rfl)
  have old : ∀ i ob, (st.set k (.lst ds))[i]? = some ob → i ≠ k → st[i]? = some ob := fun i ob e hi => by
    rw [List.getElem?_set_ne (Ne.symm hi)] at e; exact e
  refine ⟨⟨fun i ob e => ?_, fun i j oi oj ei ej mi mj q => ?_⟩, mn⟩
  · by_cases hi : i = k
    · subst hi
      rw [List.getElem?_set_self hk] at e
      cases e
      exact ⟨vs, upd_same, mn.all hv⟩
    · have e' := old i ob e hi
      have h := r.at_ i ob e'
      cases ob with
      | lst ds' =>
        obtain ⟨vs', h1, h2⟩ := h
        have ne : m i ≠ m k := fun q => hi (r.inj i k _ _ e' e0 rfl rfl q)
        exact ⟨vs', by rw [upd_ne ne]; exact h1, mn.all h2⟩
      | fz ds' =>
        obtain ⟨vs', h1, h2⟩ := h
        exact ⟨vs', fz_upd (fun b xs q => by rw [h0] at q; cases q) h1, mn.all h2⟩
      | xd fs =>
        obtain ⟨vs', h1, h2⟩ := h
        have ne : m i ≠ m k := fun q => by rw [q, h0] at h1; cases h1
        exact ⟨vs', by rw [upd_ne ne]; exact h1, mn.all h2⟩
      | nu => trivial
  · have mm : ∀ (i : Nat) (oi : Ob), (st.set k (Ob.lst ds))[i]? = some oi → oi.mut = true → ∃ o' : Ob, st[i]? = some o' ∧ o'.mut = true := fun i oi e hm => by
      by_cases hi : i = k
      · exact ⟨_, hi ▸ e0, rfl⟩
      · exact ⟨oi, old i oi e hi, hm⟩
    obtain ⟨a, ea, ma⟩ := mm i oi ei mi
    obtain ⟨b, eb, mb⟩ := mm j oj ej mj
    exact r.inj i j a b ea eb ma mb q
end
/-! ### environments -/
abbrev En := List (Option D)
/-- gh: data that stand for values beside the slots -/
structure RE (gh : List (D × V)) (K : PySem.W.Frag) (m : Nat → Addr) (n : Nat) (H : Hp) (ρ : En) (σ : L2.St) : Prop where
  len : ρ.length = σ.length
  get : ∀ (i : Nat) (d : D), ρ[i]? = some (some d) → ∃ v, σ[i]? = some (some v) ∧ RV K m n H d v
  gho : ∀ p ∈ gh, RV K m n H p.1 p.2
section
variable {K : PySem.W.Frag} {m m' : Nat → Addr} {n n' : Nat} {H H' : Hp} {ρ : En} {σ : L2.St} {gh : List (D × V)}
theorem RE.mono (r : RE gh K m n H ρ σ) (mn : Mn K m n H m' n' H') : RE gh K m' n' H' ρ σ :=
  ⟨r.len, fun i d e => by obtain ⟨v, h1, h2⟩ := r.get i d e; exact ⟨v, h1, mn d v h2⟩, fun p hp => mn _ _ (r.gho p hp)⟩
theorem RE.set (r : RE gh K m n H ρ σ) {i : Nat} {d : D} {v : V} (h : RV K m n H d v) : RE gh K m n H (ρ.set i (some d)) (σ.set i (some v)) := by
  refine ⟨by simp [r.len], fun j e hj => ?_, r.gho⟩
  by_cases q : j = i
  · subst q
    have hl : j < ρ.length := by
      have := (List.getElem?_eq_some_iff.mp hj).1
      simpa using this
    rw [List.getElem?_set_self hl] at hj
    cases hj
    exact ⟨v, by rw [List.getElem?_set_self (r.len ▸ hl)], h⟩
  · rw [List.getElem?_set_ne (Ne.symm q)] at hj
    obtain ⟨w, h1, h2⟩ := r.get j e hj
    exact ⟨w, by rw [List.getElem?_set_ne (Ne.symm q)]; exact h1, h2⟩
theorem RE.drop (r : RE gh K m n H ρ σ) {i : Nat} : RE gh K m n H (ρ.set i none) (σ.set i none) := by
  refine ⟨by simp [r.len], fun j e hj => ?_, r.gho⟩
  by_cases q : j = i
  · subst q
    have hl : j < ρ.length := by
      have := (List.getElem?_eq_some_iff.mp hj).1
      simpa using this
    rw [List.getElem?_set_self hl] at hj
    cases hj
  · rw [List.getElem?_set_ne (Ne.symm q)] at hj
    obtain ⟨w, h1, h2⟩ := r.get j e hj
    exact ⟨w, by rw [List.getElem?_set_ne (Ne.symm q)]; exact h1, h2⟩
theorem RE.forget (r : RE gh K m n H ρ σ) {i : Nat} {x : Option V} : RE gh K m n H (ρ.set i none) (σ.set i x) := by
  refine ⟨by simp [r.len], fun j e hj => ?_, r.gho⟩
  by_cases q : j = i
  · subst q
    have hl : j < ρ.length := by
      have := (List.getElem?_eq_some_iff.mp hj).1
      simpa using this
    rw [List.getElem?_set_self hl] at hj
    cases hj
  · rw [List.getElem?_set_ne (Ne.symm q)] at hj
    obtain ⟨w, h1, h2⟩ := r.get j e hj
    exact ⟨w, by rw [List.getElem?_set_ne (Ne.symm q)]; exact h1, h2⟩
end
theorem RVs.len {K : PySem.W.Frag} {m : Nat → Addr} {n : Nat} {H : Hp} : ∀ {ds : List D} {vs : List V}, RVs K m n H ds vs → ds.length = vs.length
  | [], vs, h => by cases h; rfl
  | d :: ds, vs, h => by
    obtain ⟨v, r, e, _, h2⟩ := h
    subst e
    simp [RVs.len h2]
theorem RVs.get {K : PySem.W.Frag} {m : Nat → Addr} {n : Nat} {H : Hp} : ∀ {ds : List D} {vs : List V} {i : Nat} {d : D}, RVs K m n H ds vs → ds[i]? = some d → ∃ v, vs[i]? = some v ∧ RV K m n H d v
  | [], vs, i, d, h, e => by simp at e
  | d' :: ds, vs, 0, d, h, e => by
    obtain ⟨v, r, e1, h1, h2⟩ := h
    subst e1
    simp at e
    subst e
    exact ⟨v, rfl, h1⟩
  | d' :: ds, vs, i + 1, d, h, e => by
    obtain ⟨v, r, e1, h1, h2⟩ := h
    subst e1
    obtain ⟨w, h3, h4⟩ := RVs.get (i := i) h2 (by simpa using e)
    exact ⟨w, by simpa using h3, h4⟩
theorem RVs.app {K : PySem.W.Frag} {m : Nat → Addr} {n : Nat} {H : Hp} : ∀ {ds es : List D} {vs ws : List V}, RVs K m n H ds vs → RVs K m n H es ws → RVs K m n H (ds ++ es) (vs ++ ws)
  | [], es, vs, ws, h, h' => by cases h; exact h'
  | d :: ds, es, vs, ws, h, h' => by
    obtain ⟨v, r, e, h1, h2⟩ := h
    subst e
    exact ⟨v, r ++ ws, rfl, h1, RVs.app h2 h'⟩
theorem RVs.one {K : PySem.W.Frag} {m : Nat → Addr} {n : Nat} {H : Hp} {d : D} {v : V} (h : RV K m n H d v) : RVs K m n H [d] [v] := ⟨v, [], rfl, h, rfl⟩
theorem RVs.set {K : PySem.W.Frag} {m : Nat → Addr} {n : Nat} {H : Hp} {d : D} {v : V} (h : RV K m n H d v) : ∀ {ds : List D} {vs : List V} (i : Nat), RVs K m n H ds vs → RVs K m n H (ds.set i d) (vs.set i v)
  | [], vs, i, h' => by cases h'; exact rfl
  | d' :: ds, vs, 0, h' => by
    obtain ⟨w, r, e, h1, h2⟩ := h'
    subst e
    exact ⟨v, r, rfl, h, h2⟩
  | d' :: ds, vs, i + 1, h' => by
    obtain ⟨w, r, e, h1, h2⟩ := h'
    subst e
    exact ⟨w, r.set i v, rfl, h1, RVs.set h i h2⟩
theorem RVs.take {K : PySem.W.Frag} {m : Nat → Addr} {n : Nat} {H : Hp} : ∀ {ds : List D} {vs : List V} (i : Nat), RVs K m n H ds vs → RVs K m n H (ds.take i) (vs.take i)
  | ds, vs, 0, h => by simp only [List.take_zero]; exact rfl
  | [], vs, i + 1, h' => by cases h'; exact rfl
  | d' :: ds, vs, i + 1, h' => by
    obtain ⟨w, r, e, h1, h2⟩ := h'
    subst e
    exact ⟨w, r.take i, rfl, h1, RVs.take i h2⟩
theorem RVs.drop {K : PySem.W.Frag} {m : Nat → Addr} {n : Nat} {H : Hp} : ∀ {ds : List D} {vs : List V} (i : Nat), RVs K m n H ds vs → RVs K m n H (ds.drop i) (vs.drop i)
  | ds, vs, 0, h => h
  | [], vs, i + 1, h' => by cases h'; exact rfl
  | d' :: ds, vs, i + 1, h' => by
    obtain ⟨w, r, e, h1, h2⟩ := h'
    subst e
    exact RVs.drop i h2

/-! ### outcomes -/
inductive Out (α : Type) where
  | ok (a : α) (st : S) | exc (e : Ex) (st : S) | bad
def Out.bind {α β : Type} (o : Out α) (k : α → S → Out β) : Out β := match o with
  | .ok a st => k a st
  | .exc e st => .exc e st
  | .bad => .bad
@[simp] theorem Out.bind_ok {α β : Type} (a : α) (st : S) (k : α → S → Out β) : (Out.ok a st).bind k = k a st := rfl
@[simp] theorem Out.bind_exc {α β : Type} (e : Ex) (st : S) (k : α → S → Out β) : (Out.exc e st).bind k = .exc e st := rfl
@[simp] theorem Out.bind_bad {α β : Type} (k : α → S → Out β) : (Out.bad).bind k = .bad := rfl

/-- what an exception is -/
def RX (K : PySem.W.Frag) (mg : Str → Option Value) (m : Nat → Addr) (n : Nat) (H : Hp) (e : Ex) (cls : Value) (od : Option Addr) : Prop :=
  ∃ (C dx : Addr), mg e.cls = some (.ref C) ∧ cls = .ref C ∧ od = some dx ∧ RV K m n H (.loc e.at_) (.ref dx)
/-- behind (m, n, H): the outcome o meets what is wanted -/
def Meet {α : Type} (K : PySem.W.Frag) (mg : Str → Option Value) (m : Nat → Addr) (n : Nat) (H : Hp) (o : Out α) (Q : α → S → (Nat → Addr) → Hp → Prop) (E : XK) : Prop := match o with
  | .ok a st' => ∀ m' H', RS K m' st' H' → Mn K m n H m' st'.length H' → Q a st' m' H'
  | .exc e st' => ∀ m' H' cls od, RS K m' st' H' → Mn K m n H m' st'.length H' → RX K mg m' st'.length H' e cls od → E cls od H'
  | .bad => False
section
variable {α β : Type} {K : PySem.W.Frag} {mg : Str → Option Value} {m : Nat → Addr} {n : Nat} {H : Hp} {o : Out α} {E : XK}
theorem Meet.imp {Q Q' : α → S → (Nat → Addr) → Hp → Prop} (h : Meet K mg m n H o Q E) (hq : ∀ a st' m' H', RS K m' st' H' → Mn K m n H m' st'.length H' → Q a st' m' H' → Q' a st' m' H') : Meet K mg m n H o Q' E := by
  cases o with
  | ok a st' => exact fun m' H' r mn => hq _ _ _ _ r mn (h m' H' r mn)
  | exc e st' => exact h
  | bad => exact h
theorem Meet.bind {k : α → S → Out β} {Q : β → S → (Nat → Addr) → Hp → Prop} (h : Meet K mg m n H (o.bind k) Q E) :
    Meet K mg m n H o (fun a st' m' H' => Meet K mg m' st'.length H' (k a st') Q E) E := by
  cases o with
  | ok a st' =>
    intro m' H' r mn
    show Meet K mg m' st'.length H' (k a st') Q E
    have h1 : Meet K mg m n H (k a st') Q E := h
    cases hk : k a st' with
    | ok b st2 => rw [hk] at h1; exact fun m2 H2 r2 mn2 => h1 m2 H2 r2 (mn.trans mn2)
    | exc e st2 => rw [hk] at h1; exact fun m2 H2 cls od r2 mn2 rx => h1 m2 H2 cls od r2 (mn.trans mn2) rx
    | bad => rw [hk] at h1; exact h1
  | exc e st' => exact h
  | bad => exact h
end

/-! ### readings of denotations -/
/-- what is wanted of exceptions, and what stands for values beside the slots -/
structure Wc where
  W : WX
  gh : List (D × V) := []
abbrev FE := En → S → Out D
abbrev FT := En → S → Out Bool
abbrev FA := En → S → Out (List D)
section
variable (K : PySem.W.Frag) (mg : Str → Option Value) (W : Wc)
def rE (f : FE) : TE := fun σ H Q => ∃ m st ρ, RS K m st H ∧ RE W.gh K m st.length H ρ σ ∧
  Meet K mg m st.length H (f ρ st) (fun d st' m' H' => ∀ v, RV K m' st'.length H' d v → Q v H') (fun cls od H' => W.W cls od σ H')
def rT (f : FT) : TT := fun σ H Q => ∃ m st ρ, RS K m st H ∧ RE W.gh K m st.length H ρ σ ∧
  Meet K mg m st.length H (f ρ st) (fun b st' m' H' => Q b H') (fun cls od H' => W.W cls od σ H')
def rA (f : FA) : TA := fun σ H Q => ∃ m st ρ, RS K m st H ∧ RE W.gh K m st.length H ρ σ ∧
  Meet K mg m st.length H (f ρ st) (fun ds st' m' H' => ∀ vs, RVs K m' st'.length H' ds vs → Q vs H') (fun cls od H' => W.W cls od σ H')
end
inductive SO where
  | nx (ρ : En) (st : S) | rt (d : D) (st : S) | bk (ρ : En) (st : S) | ct (ρ : En) (st : S) | ex (e : Ex) (ρ : En) (st : S) | bad
abbrev FS := En → S → SO
/-- the statement's outcome meets its ends -/
def MeetS (K : PySem.W.Frag) (mg : Str → Option Value) (W : Wc) (m : Nat → Addr) (n : Nat) (H : Hp) (o : SO) (E : Ends) : Prop := match o with
  | .nx ρ st => ∀ m' H' σ, RS K m' st H' → Mn K m n H m' st.length H' → RE W.gh K m' st.length H' ρ σ → E.nx σ H'
  | .rt d st => ∀ m' H' v, RS K m' st H' → Mn K m n H m' st.length H' → RV K m' st.length H' d v → E.rt v H'
  | .bk ρ st => ∀ m' H' σ, RS K m' st H' → Mn K m n H m' st.length H' → RE W.gh K m' st.length H' ρ σ → E.bk σ H'
  | .ct ρ st => ∀ m' H' σ, RS K m' st H' → Mn K m n H m' st.length H' → RE W.gh K m' st.length H' ρ σ → E.ct σ H'
  | .ex e ρ st => ∀ m' H' σ cls od, RS K m' st H' → Mn K m n H m' st.length H' → RE W.gh K m' st.length H' ρ σ → RX K mg m' st.length H' e cls od → W.W cls od σ H'
  | .bad => False
def rS (K : PySem.W.Frag) (mg : Str → Option Value) (W : Wc) (f : FS) : TS := fun E σ H => ∃ m st ρ, RS K m st H ∧ RE W.gh K m st.length H ρ σ ∧ MeetS K mg W m st.length H (f ρ st) E
end MP

set_option Elab.async false
set_option linter.all false
set_option maxRecDepth 100000
set_option maxHeartbeats 4000000
namespace MP
open PySem L2

/-! ### equality of data is decidable -/
mutual
def D.same : D → D → Bool
  | .non, .non => true
  | .bl a, .bl b => a == b
  | .int i, .int j => decide (i = j)
  | .str x, .str y => decide (x = y)
  | .tup xs, .tup ys => D.sames xs ys
  | .loc i, .loc j => decide (i = j)
  | _, _ => false
def D.sames : List D → List D → Bool
  | [], [] => true
  | x :: xs, y :: ys => D.same x y && D.sames xs ys
  | _, _ => false
end
mutual
theorem D.same_eq : ∀ (a b : D), D.same a b = true → a = b
  | .non, b, h => by cases b <;> first | rfl | simp [D.same] at h
  | .bl a, b, h => by cases b <;> first | simp [D.same] at h | skip
                      all_goals (subst h; rfl)
  | .int i, b, h => by cases b <;> first | simp [D.same] at h | skip
                       all_goals (subst h; rfl)
  | .str x, b, h => by cases b <;> first | simp [D.same] at h | skip
                       all_goals (subst h; rfl)
  | .tup xs, b, h => by
    cases b with
    | tup ys =>
      have e := D.sames_eq xs ys (by simpa [D.same] using h)
      rw [e]
    | _ => simp [D.same] at h
  | .loc i, b, h => by cases b <;> first | simp [D.same] at h | skip
                       all_goals (subst h; rfl)
theorem D.sames_eq : ∀ (a b : List D), D.sames a b = true → a = b
  | [], b, h => by cases b <;> first | rfl | simp [D.sames] at h
  | x :: xs, b, h => by
    cases b with
    | nil => simp [D.sames] at h
    | cons y ys =>
      have h2 : (D.same x y && D.sames xs ys) = true := by simpa [D.sames] using h
      obtain ⟨h3, h4⟩ := Bool.and_eq_true_iff.mp h2
      rw [D.same_eq x y h3, D.sames_eq xs ys h4]
end
mutual
theorem D.same_self : ∀ a : D, D.same a a = true
  | .non => by simp [D.same]
  | .bl _ => by simp [D.same]
  | .int _ => by simp [D.same]
  | .str _ => by simp [D.same]
  | .tup xs => by simp [D.same, D.sames_self xs]
  | .loc _ => by simp [D.same]
theorem D.sames_self : ∀ a : List D, D.sames a a = true
  | [] => by simp [D.sames]
  | x :: xs => by simp [D.sames, D.same_self x, D.sames_self xs]
end
instance : DecidableEq D := fun a b => if h : D.same a b = true then .isTrue (D.same_eq a b h) else .isFalse fun e => h (by rw [e]; exact D.same_self b)
instance : DecidableEq Ob := fun a b => match a, b with
  | .lst xs, .lst ys => if h : xs = ys then .isTrue (by rw [h]) else .isFalse fun e => h (by injection e)
  | .fz xs, .fz ys => if h : xs = ys then .isTrue (by rw [h]) else .isFalse fun e => h (by injection e)
  | .xd xs, .xd ys => if h : xs = ys then .isTrue (by rw [h]) else .isFalse fun e => h (by injection e)
  | .lst _, .fz _ => .isFalse fun e => by cases e
  | .fz _, .lst _ => .isFalse fun e => by cases e
  | .lst _, .xd _ => .isFalse fun e => by cases e
  | .fz _, .xd _ => .isFalse fun e => by cases e
  | .xd _, .lst _ => .isFalse fun e => by cases e
  | .xd _, .fz _ => .isFalse fun e => by cases e
  | .nu, .nu => .isTrue rfl
  | .nu, .lst _ => .isFalse fun e => by cases e
  | .nu, .fz _ => .isFalse fun e => by cases e
  | .nu, .xd _ => .isFalse fun e => by cases e
  | .lst _, .nu => .isFalse fun e => by cases e
  | .fz _, .nu => .isFalse fun e => by cases e
  | .xd _, .nu => .isFalse fun e => by cases e
/-- the list at a place -/
def lstAt (st : S) (n : Nat) : Option (List D) := match st[n]? with
  | some (.lst ds) => some ds
  | some (.fz ds) => some ds
  | _ => none
theorem lstAt_ok {K : PySem.W.Frag} {m : Nat → Addr} {st : S} {H : Hp} (rs : RS K m st H) {n : Nat} {ds : List D} (h : lstAt st n = some ds) : ∃ vs, SqL K H (m n) vs ∧ RVs K m st.length H ds vs ∧ ((∃ xs, H (m n) = some (.lst xs)) ∨ ∃ xs, FzL K H (m n) xs) := by
  unfold lstAt at h
  cases q : st[n]? with
  | none => rw [q] at h; cases h
  | some ob =>
    rw [q] at h
    have ro := rs.at_ n ob q
    cases ob with
    | lst xs =>
      cases h
      obtain ⟨vs, h1, h2⟩ := ro
      exact ⟨vs, SqL.of h1, h2, .inl ⟨vs, h1⟩⟩
    | fz xs =>
      cases h
      obtain ⟨vs, h1, h2⟩ := ro
      exact ⟨vs, h1.seq, h2, .inr ⟨vs, h1⟩⟩
    | xd fs => cases h
    | nu => cases h

/-! ### weakening readings -/
section
variable {X : Cx} {e : Expr} {es : List Expr} {st : Stmt} {sts : List Stmt}
theorem pe_imp {t t' : TE} (h : PE X e t) (hi : ∀ σ H Q, t' σ H Q → t σ H Q) : PE X e t' := ⟨fun pins s σ H Q I hw => h.run pins s σ H Q I (hi σ H Q hw)⟩
theorem pt_imp {t t' : TT} (h : PT X e t) (hi : ∀ σ H Q, t' σ H Q → t σ H Q) : PT X e t' := ⟨fun pins s σ H Q I hw => h.run pins s σ H Q I (hi σ H Q hw)⟩
theorem pw_imp {t t' : TT} (h : PW X e t) (hi : ∀ σ H Q, t' σ H Q → t σ H Q) : PW X e t' := ⟨fun wh pins s σ H Q I hw => h.run wh pins s σ H Q I (hi σ H Q hw)⟩
theorem pa_imp {t t' : TA} (h : PA X es t) (hi : ∀ σ H Q, t' σ H Q → t σ H Q) : PA X es t' := ⟨fun pos pins s σ H Q I hw => h.run pos pins s σ H Q I (hi σ H Q hw)⟩
theorem ps_imp {t t' : TS} (h : PS X st t) (hi : ∀ E σ H, t' E σ H → t E σ H) : PS X st t' := ⟨fun pins s σ H E I hw => h.run pins s σ H E I (hi E σ H hw)⟩
theorem pss_imp {t t' : TS} (h : PSs X sts t) (hi : ∀ E σ H, t' E σ H → t E σ H) : PSs X sts t' := ⟨fun pins s σ H E I hw => h.run pins s σ H E I (hi E σ H hw)⟩
end
abbrev JE (X : Cx) (W : Wc) (e : Expr) (f : FE) : Prop := PE X e (rE X.K X.mg W f)
abbrev JT (X : Cx) (W : Wc) (e : Expr) (f : FT) : Prop := PT X e (rT X.K X.mg W f)
abbrev JW (X : Cx) (W : Wc) (e : Expr) (f : FT) : Prop := PW X e (rT X.K X.mg W f)
abbrev JA (X : Cx) (W : Wc) (es : List Expr) (f : FA) : Prop := PA X es (rA X.K X.mg W f)
abbrev JS (X : Cx) (W : Wc) (st : Stmt) (f : FS) : Prop := PS X st (rS X.K X.mg W f)
abbrev JB (X : Cx) (W : Wc) (sts : List Stmt) (f : FS) : Prop := PSs X sts (rS X.K X.mg W f)

/-! ### denotations of expressions -/
def fVar (i : Nat) : FE := fun ρ st => match ρ[i]? with
  | some (some d) => .ok d st
  | _ => .bad
def fC (d : D) : FE := fun _ st => .ok d st
def ofO {α : Type} (o : Option (α × S)) : Out α := match o with
  | some (a, st) => .ok a st
  | none => .bad
@[simp] theorem ofO_some {α : Type} (a : α) (st : S) : ofO (some (a, st)) = .ok a st := rfl
@[simp] theorem ofO_none {α : Type} : ofO (none : Option (α × S)) = .bad := rfl
def fBin (g : D → D → S → Option (D × S)) (a b : FE) : FE := fun ρ st => (a ρ st).bind fun x st1 => (b ρ st1).bind fun y st2 => ofO (g x y st2)
def fUn (g : D → S → Option (D × S)) (a : FE) : FE := fun ρ st => (a ρ st).bind fun x st1 => ofO (g x st1)
def fNil : FA := fun _ st => .ok [] st
def fCons (a : FE) (r : FA) : FA := fun ρ st => (a ρ st).bind fun x st1 => (r ρ st1).bind fun xs st2 => .ok (x :: xs) st2
def fTup (a : FA) : FE := fun ρ st => (a ρ st).bind fun ds st1 => .ok (.tup ds) st1
def fLst (a : FA) : FE := fun ρ st => (a ρ st).bind fun ds st1 => .ok (.loc st1.length) (st1 ++ [.lst ds])
def fArgs (g : List D → S → Option (D × S)) (a : FA) : FE := fun ρ st => (a ρ st).bind fun ds st1 => ofO (g ds st1)
def fMeth (g : D → List D → S → Option (D × S)) (o : FE) (a : FA) : FE := fun ρ st => (o ρ st).bind fun x st1 => (a ρ st1).bind fun ds st2 => ofO (g x ds st2)
def fCall (g : List D → S → Out D) (a : FA) : FE := fun ρ st => (a ρ st).bind fun ds st1 => g ds st1
def fIsB (a : FE) : FT := fun ρ st => (a ρ st).bind fun x st1 => match x with
  | .bl b => .ok b st1
  | _ => .bad
/-- the truth of a value -/
def truD (st : S) : D → Option Bool
  | .non => some false
  | .bl b => some b
  | .int i => some (i != 0)
  | .str x => if x.length ≤ sizeLine then some (x.length != 0) else none
  | .tup ds => some (!ds.isEmpty)
  | .loc n => (lstAt st n).map fun ds => !ds.isEmpty
def fTru (a : FE) : FT := fun ρ st => (a ρ st).bind fun x st1 => match truD st1 x with
  | some b => .ok b st1
  | none => .bad
def fAnd (a b : FT) : FT := fun ρ st => (a ρ st).bind fun x st1 => if x = true then b ρ st1 else .ok false st1
def fOr (a b : FT) : FT := fun ρ st => (a ρ st).bind fun x st1 => if x = true then .ok true st1 else b ρ st1
def fNot (a : FT) : FT := fun ρ st => (a ρ st).bind fun x st1 => .ok (!x) st1
def fAndV (a b : FE) : FE := fun ρ st => (fIsB a ρ st).bind fun x st1 => if x = true then b ρ st1 else .ok (.bl false) st1
def fOrV (a b : FE) : FE := fun ρ st => (fIsB a ρ st).bind fun x st1 => if x = true then .ok (.bl true) st1 else b ρ st1
def fNotV (a : FE) : FE := fun ρ st => (fIsB a ρ st).bind fun x st1 => .ok (.bl (!x)) st1
def fIf (t : FT) (a b : FE) : FE := fun ρ st => (t ρ st).bind fun x st1 => if x = true then a ρ st1 else b ρ st1

/-- the length of an argument list -/
def FLen (f : FA) (n : Nat) : Prop := ∀ ρ st ds st', f ρ st = .ok ds st' → ds.length = n
theorem flen_nil : FLen fNil 0 := fun _ _ _ _ h => by cases h; rfl
theorem flen_cons {a : FE} {r : FA} {n : Nat} (h : FLen r n) : FLen (fCons a r) (n + 1) := fun ρ st ds st' e => by
  unfold fCons at e
  cases ha : a ρ st with
  | ok x st1 =>
    rw [ha] at e
    simp only [Out.bind_ok] at e
    cases hr : r ρ st1 with
    | ok xs st2 =>
      rw [hr] at e
      simp only [Out.bind_ok] at e
      cases e
      simp [h _ _ _ _ hr]
    | exc _ _ => rw [hr] at e; cases e
    | bad => rw [hr] at e; cases e
  | exc _ _ => rw [ha] at e; cases e
  | bad => rw [ha] at e; cases e

/-! ### glue -/
section
variable {K : PySem.W.Frag} {mg : Str → Option Value} {W : Wc} {α : Type}
/-- two steps in a row -/
theorem re_bind {f : FE} {k : D → S → En → Out α} {m : Nat → Addr} {st : S} {ρ : En} {σ : L2.St} {H : Hp} {Qa : α → S → (Nat → Addr) → Hp → Prop} {R : V → Hp → Prop}
    (rs : RS K m st H) (re : RE W.gh K m st.length H ρ σ) (h : Meet K mg m st.length H ((f ρ st).bind fun d st1 => k d st1 ρ) Qa (fun cls od H' => W.W cls od σ H'))
    (hr : ∀ d st1 m1 H1 v, RS K m1 st1 H1 → RE W.gh K m1 st1.length H1 ρ σ → Mn K m st.length H m1 st1.length H1 → RV K m1 st1.length H1 d v → Meet K mg m1 st1.length H1 (k d st1 ρ) Qa (fun cls od H' => W.W cls od σ H') → R v H1) :
    rE K mg W f σ H R :=
  ⟨m, st, ρ, rs, re, (Meet.bind h).imp fun d st1 m1 H1 r1 mn h1 v rv => hr d st1 m1 H1 v r1 (re.mono mn) mn rv h1⟩
theorem ra_bind {f : FA} {k : List D → S → En → Out α} {m : Nat → Addr} {st : S} {ρ : En} {σ : L2.St} {H : Hp} {Qa : α → S → (Nat → Addr) → Hp → Prop} {R : List V → Hp → Prop}
    (rs : RS K m st H) (re : RE W.gh K m st.length H ρ σ) (h : Meet K mg m st.length H ((f ρ st).bind fun d st1 => k d st1 ρ) Qa (fun cls od H' => W.W cls od σ H'))
    (hr : ∀ d st1 m1 H1 v, RS K m1 st1 H1 → RE W.gh K m1 st1.length H1 ρ σ → Mn K m st.length H m1 st1.length H1 → RVs K m1 st1.length H1 d v → Meet K mg m1 st1.length H1 (k d st1 ρ) Qa (fun cls od H' => W.W cls od σ H') → R v H1) :
    rA K mg W f σ H R :=
  ⟨m, st, ρ, rs, re, (Meet.bind h).imp fun d st1 m1 H1 r1 mn h1 v rv => hr d st1 m1 H1 v r1 (re.mono mn) mn rv h1⟩
theorem rt_bind {f : FT} {k : Bool → S → En → Out α} {m : Nat → Addr} {st : S} {ρ : En} {σ : L2.St} {H : Hp} {Qa : α → S → (Nat → Addr) → Hp → Prop} {R : Bool → Hp → Prop}
    (rs : RS K m st H) (re : RE W.gh K m st.length H ρ σ) (h : Meet K mg m st.length H ((f ρ st).bind fun d st1 => k d st1 ρ) Qa (fun cls od H' => W.W cls od σ H'))
    (hr : ∀ d st1 m1 H1, RS K m1 st1 H1 → RE W.gh K m1 st1.length H1 ρ σ → Mn K m st.length H m1 st1.length H1 → Meet K mg m1 st1.length H1 (k d st1 ρ) Qa (fun cls od H' => W.W cls od σ H') → R d H1) :
    rT K mg W f σ H R :=
  ⟨m, st, ρ, rs, re, (Meet.bind h).imp fun d st1 m1 H1 r1 mn h1 => hr d st1 m1 H1 r1 (re.mono mn) mn h1⟩
/-- what an operation by data asks of its reading -/
def Fin (K : PySem.W.Frag) (m : Nat → Addr) (st : S) (H : Hp) (d : D) (st' : S) (Q : VK) : Prop :=
  ∀ v m' H', RS K m' st' H' → Mn K m st.length H m' st'.length H' → RV K m' st'.length H' d v → Q v H'
theorem meet_fin {m : Nat → Addr} {st : S} {H : Hp} {o : Option (D × S)} {Q : VK} {E : XK} (h : Meet K mg m st.length H (ofO o) (fun d st' m' H' => ∀ v, RV K m' st'.length H' d v → Q v H') E) :
    ∃ d st', o = some (d, st') ∧ Fin K m st H d st' Q := by
  cases o with
  | none => exact h.elim
  | some p =>
    obtain ⟨d, st'⟩ := p
    exact ⟨d, st', rfl, fun v m' H' r mn rv => h m' H' r mn v rv⟩
theorem Fin.here {m : Nat → Addr} {st : S} {H : Hp} {d : D} {v : V} {Q : VK} (h : Fin K m st H d st Q) (r : RS K m st H) (rv : RV K m st.length H d v) : Q v H := h v m H r Mn.refl rv
theorem Fin.tup {m : Nat → Addr} {st : S} {H : Hp} {ds : List D} {vs : List V} {Q : VK} (h : Fin K m st H (.tup ds) st Q) (r : RS K m st H) (rv : RVs K m st.length H ds vs) {p : Addr} (hp : H p = none) : Q (.ref p) (upd H p (.tup vs)) := by
  obtain ⟨r2, mn⟩ := r.laid (o := .tup vs) hp
  exact h _ _ _ r2 mn ⟨p, vs, rfl, SqT.of upd_same, mn.all rv⟩
theorem Fin.lst {m : Nat → Addr} {st : S} {H : Hp} {ds : List D} {vs : List V} {Q : VK} (h : Fin K m st H (.loc st.length) (st ++ [.lst ds]) Q) (r : RS K m st H) (rv : RVs K m st.length H ds vs) {p : Addr} (hp : H p = none) : Q (.ref p) (upd H p (.lst vs)) := by
  obtain ⟨m', e, r2, mn⟩ := r.push hp rv
  exact h _ _ _ r2 mn ⟨by simp, by rw [e]⟩
theorem Fin.wr {m : Nat → Addr} {st : S} {H : Hp} {k : Nat} {d : D} {v : V} {ds0 ds : List D} {vs : List V} {Q : VK} (h : Fin K m st H d (st.set k (.lst ds)) Q) (r : RS K m st H) (e0 : st[k]? = some (.lst ds0)) (rv : RVs K m st.length H ds vs) (rd : RV K m st.length H d v) : Q v (upd H (m k) (.lst vs)) := by
  obtain ⟨r2, mn⟩ := r.write e0 rv
  exact h _ _ _ r2 mn (mn _ _ rd)
end
/-- readings of operations by data -/
def rD (K : PySem.W.Frag) (g : D → D → S → Option (D × S)) : R2 := fun x y H Q => ∃ m st dx dy d st', RS K m st H ∧ RV K m st.length H dx x ∧ RV K m st.length H dy y ∧ g dx dy st = some (d, st') ∧ Fin K m st H d st' Q
def rD1 (K : PySem.W.Frag) (g : D → S → Option (D × S)) : V → Hp → VK → Prop := fun x H Q => ∃ m st dx d st', RS K m st H ∧ RV K m st.length H dx x ∧ g dx st = some (d, st') ∧ Fin K m st H d st' Q
def rDL (K : PySem.W.Frag) (g : List D → S → Option (D × S)) : List V → Hp → VK → Prop := fun xs H Q => ∃ m st ds d st', RS K m st H ∧ RVs K m st.length H ds xs ∧ g ds st = some (d, st') ∧ Fin K m st H d st' Q
def rDM (K : PySem.W.Frag) (g : D → List D → S → Option (D × S)) : V → List V → Hp → VK → Prop := fun x xs H Q => ∃ m st dx ds d st', RS K m st H ∧ RV K m st.length H dx x ∧ RVs K m st.length H ds xs ∧ g dx ds st = some (d, st') ∧ Fin K m st H d st' Q

/-! ### the rules of expressions -/
section
variable {X : Cx} {W : Wc} {a b c e : Expr} {es rest : List Expr} {fa fb fc : FE} {fs : FA} {pos p : Pos}
theorem je_var (i : Nat) {x : Str} (hN : X.N[i]? = some x := by rfl) (hv : Vis X.env.scope x := by first | exact Or.inl rfl | exact Or.inr (Or.inl rfl) | exact Or.inr (Or.inr rfl)) (hd : (x == ("__debug__" : Str)) = false := by decide)
    (hcd : (x == ("__classdict__" : Str)) = false := by decide) : JE X W (.Name x pos) (fVar i) := by
  refine pe_imp (pe_var hN hv hd hcd) fun σ H Q h => ?_
  obtain ⟨m, st, ρ, rs, re, h⟩ := h
  unfold fVar at h
  cases e : ρ[i]? with
  | none => rw [e] at h; exact h.elim
  | some o =>
    rw [e] at h
    cases o with
    | none => exact h.elim
    | some d =>
      obtain ⟨v, h1, h2⟩ := re.get i d e
      exact ⟨v, h1, h m H rs Mn.refl v h2⟩
theorem je_c {d : D} {v : V} (h : PE X e (tC v)) (hd : ∀ (m : Nat → Addr) n H, RV X.K m n H d v) : JE X W e (fC d) :=
  pe_imp h fun σ H Q ⟨m, st, ρ, rs, re, h⟩ => h m H rs Mn.refl v (hd _ _ _)
theorem je_int {i : Int} {j : Nat} : JE X W (.Constant (.int i) j pos) (fC (.int i)) := je_c pe_int fun _ _ _ => rfl
theorem je_bl {b : Bool} {j : Nat} : JE X W (.Constant (.bool b) j pos) (fC (.bl b)) := je_c pe_bl fun _ _ _ => rfl
theorem je_non {j : Nat} : JE X W (.Constant .none j pos) (fC .non) := je_c pe_non fun _ _ _ => rfl
theorem je_str {x : Str} {j : Nat} : JE X W (.Constant (.str x) j pos) (fC (.str x)) := je_c pe_str fun _ _ _ => rfl
/-- a module's constant: an int, a text, a truth -/
theorem je_glob {x : Str} {d : D} {v : V} {u : Value} (hg : Gl X x) (hm : X.mg x = some u) (r : RelV v u) (hd : ∀ (m : Nat → Addr) n H, RV X.K m n H d v) (hdb : (x == ("__debug__" : Str)) = false := by decide) : JE X W (.Name x pos) (fC d) :=
  je_c (pe_glob hg hm r hdb) hd

theorem bin_imp {r : R2} {g : D → D → S → Option (D × S)} {σ : L2.St} {H : Hp} {Q : VK} (hr : ∀ x y H Q, rD X.K g x y H Q → r x y H Q) (h : rE X.K X.mg W (fBin g fa fb) σ H Q) :
    tOp r (rE X.K X.mg W fa) (rE X.K X.mg W fb) σ H Q := by
  obtain ⟨m, st, ρ, rs, re, h⟩ := h
  refine re_bind (k := fun x st1 ρ => (fb ρ st1).bind fun y st2 => ofO (g x y st2)) rs re h fun x st1 m1 H1 v1 r1 re1 mn1 rv1 h1 => ?_
  refine re_bind (k := fun y st2 ρ => ofO (g x y st2)) r1 re1 h1 fun y st2 m2 H2 v2 r2 re2 mn2 rv2 h2 => ?_
  obtain ⟨d, st', e, fin⟩ := meet_fin h2
  exact hr _ _ _ _ ⟨m2, st2, x, y, d, st', r2, mn2 _ _ rv1, rv2, e, fin⟩
theorem je_op {op : Operator} {g : D → D → S → Option (D × S)} (ho : OpR X (binaryOp op) (rD X.K g)) (ha : JE X W a fa) (hb : JE X W b fb) : JE X W (.BinOp a op b pos) (fBin g fa fb) :=
  pe_imp (pe_op ho ha hb) fun σ H Q h => bin_imp (fun _ _ _ _ q => q) h
theorem je_cmp {op : CmpOp} {g : D → D → S → Option (D × S)} (ho : OpR X (compareOp op) (rD X.K g)) (ha : JE X W a fa) (hb : JE X W b fb) (hm : behindInMarks op b = false) : JE X W (.Compare a [op] [b] pos) (fBin g fa fb) :=
  pe_imp (pe_cmpR ho ha hb hm) fun σ H Q h => bin_imp (fun _ _ _ _ q => q) h
theorem je_un {op : UnaryOp} {g : D → S → Option (D × S)} (ho : UnR X (unaryOp op) (rD1 X.K g)) (ha : JE X W a fa) : JE X W (.UnaryOp op a pos) (fUn g fa) := by
  refine pe_imp (pe_un ho ha) fun σ H Q h => ?_
  obtain ⟨m, st, ρ, rs, re, h⟩ := h
  refine re_bind (k := fun x st1 ρ => ofO (g x st1)) rs re h fun x st1 m1 H1 v1 r1 re1 mn1 rv1 h1 => ?_
  obtain ⟨d, st', e, fin⟩ := meet_fin h1
  exact ⟨m1, st1, x, d, st', r1, rv1, e, fin⟩
theorem je_ix {g : D → D → S → Option (D × S)} (ho : IxR X (rD X.K g)) (ha : JE X W a fa) (hb : JE X W b fb) (hs : PlainIx b := by exact fun _ _ => rfl) : JE X W (.Subscript a b pos) (fBin g fa fb) :=
  pe_imp (pe_ix ho ha hb hs) fun σ H Q h => bin_imp (fun _ _ _ _ q => q) h
/-- a chain of two comparisons, both answers truths -/
def fChain (g g' : D → D → S → Option (D × S)) (a b c : FE) : FE := fun ρ st => (a ρ st).bind fun x st1 => (b ρ st1).bind fun y st2 => (ofO (g x y st2)).bind fun z st3 => match z with
  | .bl true => (c ρ st3).bind fun w st4 => ofO (g' y w st4)
  | .bl false => .ok (.bl false) st3
  | _ => .bad

theorem ja_nil : JA X W [] fNil := pa_imp pa_nil fun σ H Q ⟨m, st, ρ, rs, re, h⟩ => h m H rs Mn.refl [] rfl
theorem ja_cons (ha : JE X W e fa) (hr : JA X W es fs) (hs : starEach (e :: es) X.env = (false, eval e X.env) :: starEach es X.env := by rfl) : JA X W (e :: es) (fCons fa fs) := by
  refine pa_imp (pa_cons ha hr hs) fun σ H Q h => ?_
  obtain ⟨m, st, ρ, rs, re, h⟩ := h
  refine re_bind (k := fun x st1 ρ => (fs ρ st1).bind fun xs st2 => .ok (x :: xs) st2) rs re h fun x st1 m1 H1 v1 r1 re1 mn1 rv1 h1 => ?_
  refine ra_bind (k := fun xs st2 ρ => .ok (x :: xs) st2) r1 re1 h1 fun xs st2 m2 H2 v2 r2 re2 mn2 rv2 h2 => ?_
  exact h2 m2 H2 r2 Mn.refl _ ⟨_, _, rfl, mn2 _ _ rv1, rv2⟩
theorem je_tup {k n : Nat} (ha : JA X W es fs) (hl : FLen fs n) (hn : n ≤ 1000 := by decide) : JE X W (.Tuple es k pos) (fTup fs) := by
  refine pe_imp (pe_tup ha) fun σ H Q h => ?_
  obtain ⟨m, st, ρ, rs, re, h⟩ := h
  have hlen : ∀ ds st', fs ρ st = .ok ds st' → ds.length = n := fun ds st' e => hl _ _ _ _ e
  refine ⟨m, st, ρ, rs, re, ?_⟩
  have h' := Meet.bind (o := fs ρ st) (k := fun ds st1 => Out.ok (D.tup ds) st1) h
  cases e : fs ρ st with
  | bad => rw [e] at h'; exact h'
  | exc x st' => rw [e] at h'; exact h'
  | ok ds st' =>
    rw [e] at h'
    intro m1 H1 r1 mn1 vs rv
    have z : vs.length = n := by rw [← RVs.len rv]; exact hlen ds st' e
    refine ⟨by rw [z]; exact Nat.le_of_lt (small1000 hn), fun q hq => ?_⟩
    have h2 := h' m1 H1 r1 mn1
    obtain ⟨r2, mn⟩ := r1.laid (o := .tup vs) hq
    exact h2 _ _ r2 mn _ ⟨q, vs, rfl, SqT.of upd_same, mn.all rv⟩
theorem je_lst {n : Nat} (ha : JA X W es fs) (hl : FLen fs n) (hn : n ≤ 1000 := by decide) : JE X W (.List es pos) (fLst fs) := by
  refine pe_imp (pe_lst ha) fun σ H Q h => ?_
  obtain ⟨m, st, ρ, rs, re, h⟩ := h
  have hlen : ∀ ds st', fs ρ st = .ok ds st' → ds.length = n := fun ds st' e => hl _ _ _ _ e
  refine ⟨m, st, ρ, rs, re, ?_⟩
  have h' := Meet.bind (o := fs ρ st) (k := fun ds st1 => Out.ok (D.loc st1.length) (st1 ++ [.lst ds])) h
  cases e : fs ρ st with
  | bad => rw [e] at h'; exact h'
  | exc x st' => rw [e] at h'; exact h'
  | ok ds st' =>
    rw [e] at h'
    intro m1 H1 r1 mn1 vs rv
    have z : vs.length = n := by rw [← RVs.len rv]; exact hlen ds st' e
    refine ⟨by rw [z]; exact Nat.le_of_lt (small1000 hn), fun q hq => ?_⟩
    have h2 := h' m1 H1 r1 mn1
    obtain ⟨m', em, r2, mn⟩ := r1.push hq rv
    exact h2 _ _ r2 mn _ ⟨by simp, by rw [em]⟩
theorem args_imp {g : List D → S → Option (D × S)} {σ : L2.St} {H : Hp} {Q : VK} (h : rE X.K X.mg W (fArgs g fs) σ H Q) : tCB (rDL X.K g) (rA X.K X.mg W fs) σ H Q := by
  obtain ⟨m, st, ρ, rs, re, h⟩ := h
  refine ra_bind (k := fun xs st1 ρ => ofO (g xs st1)) rs re h fun xs st1 m1 H1 v1 r1 re1 mn1 rv1 h1 => ?_
  obtain ⟨d, st', e, fin⟩ := meet_fin h1
  exact ⟨m1, st1, xs, d, st', r1, rv1, e, fin⟩
/-- f(..), f a built-in function by its name -/
theorem je_callB {x : Str} {id : String} {g : List D → S → Option (D × S)} (hc : CallR X (.builtin id) (rDL X.K g)) (hg : Gl X x) (hm : X.mg x = none) (hv : bootBuiltins x = some (.builtin id)) (ha : JA X W (e :: es) fs) (hn : x ≠ "__name__" := by decide) (hdb : (x == ("__debug__" : Str)) = false := by decide)
    (he : starEach (e :: es) X.env = (false, eval e X.env) :: starEach es X.env := by rfl) (hpl : (backTo pos (starEach es X.env)).any (·.1) = false := by rfl) : JE X W (.Call (.Name x p) (e :: es) [] pos) (fArgs g fs) :=
  pe_imp (pe_callB hc hg hm hv ha hn hdb he hpl) fun σ H Q h => args_imp h
theorem je_callTy {x : Str} {T : String} {g : List D → S → Option (D × S)} (hc : CallR X (.type T) (rDL X.K g)) (hg : Gl X x) (hm : X.mg x = none) (hv : bootBuiltins x = some (.type T)) (ha : JA X W (e :: es) fs) (hn : x ≠ "__name__" := by decide) (hdb : (x == ("__debug__" : Str)) = false := by decide)
    (he : starEach (e :: es) X.env = (false, eval e X.env) :: starEach es X.env := by rfl) (hpl : (backTo pos (starEach es X.env)).any (·.1) = false := by rfl) : JE X W (.Call (.Name x p) (e :: es) [] pos) (fArgs g fs) :=
  pe_imp (pe_callTy hc hg hm hv ha hn hdb he hpl) fun σ H Q h => args_imp h
/-- .. a module's name for a built-in function -/
theorem je_callBfun {x : Str} {id : String} {g : List D → S → Option (D × S)} (hc : CallR X (.builtin id) (rDL X.K g)) (hg : Gl X x) (hm : X.mg x = some (.builtin id)) (ha : JA X W (e :: es) fs) (hdb : (x == ("__debug__" : Str)) = false := by decide)
    (he : starEach (e :: es) X.env = (false, eval e X.env) :: starEach es X.env := by rfl) (hpl : (backTo pos (starEach es X.env)).any (·.1) = false := by rfl) : JE X W (.Call (.Name x p) (e :: es) [] pos) (fArgs g fs) :=
  pe_imp (pe_callBfun hc hg hm ha hdb he hpl) fun σ H Q h => args_imp h

/-! ### tests -/
theorem jt_val (h : JE X W a fa) (he : ∀ whole, isTrue a X.env whole = (do let v ← whole; standAt a.pos; holding [v] (truthy v)) := by intro _; rfl) : JT X W a (fIsB fa) := by
  refine pt_imp (pt_val h he) fun σ H Q h => ?_
  obtain ⟨m, st, ρ, rs, re, h⟩ := h
  refine re_bind (k := fun x st1 ρ => match x with | .bl b => .ok b st1 | _ => .bad) rs re h fun x st1 m1 H1 v1 r1 re1 mn1 rv1 h1 => ?_
  cases x with
  | bl b => exact ⟨b, rv1, h1 m1 H1 r1 Mn.refl⟩
  | _ => exact h1.elim
theorem jt_cmp {op : CmpOp} {g : D → D → S → Option (D × S)} (ho : OpR X (compareOp op) (rD X.K g)) (ha : JE X W a fa) (hb : JE X W b fb) (hm : behindInMarks op b = false) : JT X W (.Compare a [op] [b] pos) (fIsB (fBin g fa fb)) := by
  refine pt_imp (pt_cmpR ho ha hb hm) fun σ H Q h => ?_
  refine bin_imp (fun _ _ _ _ q => q) ?_
  obtain ⟨m, st, ρ, rs, re, h⟩ := h
  refine re_bind (k := fun x st1 ρ => match x with | .bl b => .ok b st1 | _ => .bad) rs re h fun x st1 m1 H1 v1 r1 re1 mn1 rv1 h1 => ?_
  cases x with
  | bl b => exact ⟨b, rv1, h1 m1 H1 r1 Mn.refl⟩
  | _ => exact h1.elim
theorem tru_of {m : Nat → Addr} {st : S} {H : Hp} {d : D} {v : V} {b : Bool} (r : RS X.K m st H) (rv : RV X.K m st.length H d v) (h : truD st d = some b) : TruV X.K v H b := by
  cases d with
  | non => cases rv; exact (Option.some.inj h).symm
  | bl c => cases rv; exact (Option.some.inj h).symm
  | int i => cases rv; exact (Option.some.inj h).symm
  | str x =>
    cases rv
    replace h : (if x.length ≤ sizeLine then some (x.length != 0) else none) = some b := h
    by_cases hl : x.length ≤ sizeLine
    · rw [if_pos hl] at h
      have e : (((x.length : Nat) : Int) != 0) = (x.length != 0) := by
        cases q : x.length with
        | zero => rfl
        | succ k => rw [bne_iff_ne.mpr (by omega : ((k + 1 : Nat) : Int) ≠ 0), bne_iff_ne.mpr (by omega : k + 1 ≠ 0)]
      exact ⟨hl, by rw [e]; exact (Option.some.inj h).symm⟩
    · rw [if_neg hl] at h; cases h
  | tup ds =>
    obtain ⟨a, vs, e, h1, h2⟩ := rv
    subst e
    refine .inr (.inl ⟨vs, h1, ?_⟩)
    have z := (Option.some.inj h).symm
    rw [z]
    have l := RVs.len h2
    cases ds with
    | nil => cases vs with
      | nil => rfl
      | cons _ _ => simp at l
    | cons _ _ => cases vs with
      | nil => simp at l
      | cons _ _ => rfl
  | loc n =>
    obtain ⟨h1, e⟩ := rv
    subst e
    have same : ∀ {ds : List D} {vs : List V}, RVs X.K m st.length H ds vs → (!vs.isEmpty) = (!ds.isEmpty) := fun {ds vs} r => by
      have l := RVs.len r
      cases ds with
      | nil => cases vs with
        | nil => rfl
        | cons _ _ => simp at l
      | cons _ _ => cases vs with
        | nil => simp at l
        | cons _ _ => rfl
    obtain ⟨ds, e1, e2⟩ := Option.map_eq_some_iff.mp (show (lstAt st n).map (fun ds => !ds.isEmpty) = some b from h)
    obtain ⟨vs, g1, g2, _⟩ := lstAt_ok r e1
    exact .inl ⟨vs, g1, by rw [same g2]; exact e2.symm⟩
theorem jt_tru (h : JE X W a fa) (he : ∀ whole, isTrue a X.env whole = (do let v ← whole; standAt a.pos; holding [v] (truthy v)) := by intro _; rfl) : JT X W a (fTru fa) := by
  refine pt_imp (pt_truth h he) fun σ H Q h => ?_
  obtain ⟨m, st, ρ, rs, re, h⟩ := h
  refine re_bind (k := fun x st1 ρ => match truD st1 x with | some b => .ok b st1 | none => .bad) rs re h fun x st1 m1 H1 v1 r1 re1 mn1 rv1 h1 => ?_
  cases q : truD st1 x with
  | none => simp only [q] at h1; exact h1.elim
  | some b =>
    simp only [q] at h1
    exact ⟨b, tru_of r1 rv1 q, h1 m1 H1 r1 Mn.refl⟩
variable {ga gb : FT}
theorem jw_and1 (ha : JT X W a ga) : JW X W (.BoolOp .And [a] pos) ga := pw_and1 ha
theorem jw_or1 (ha : JT X W a ga) : JW X W (.BoolOp .Or [a] pos) ga := pw_or1 ha
theorem jw_and (ha : JT X W a ga) (hb : JW X W (.BoolOp .And (b :: rest) pos) gb) : JW X W (.BoolOp .And (a :: b :: rest) pos) (fAnd ga gb) := by
  refine pw_imp (pw_and ha hb) fun σ H Q h => ?_
  obtain ⟨m, st, ρ, rs, re, h⟩ := h
  refine rt_bind (k := fun x st1 ρ => if x = true then gb ρ st1 else .ok false st1) rs re h fun x st1 m1 H1 r1 re1 mn1 h1 => ?_
  cases x with
  | true => rw [if_pos rfl] at h1 ⊢; exact ⟨m1, st1, ρ, r1, re1, h1⟩
  | false => rw [if_neg Bool.false_ne_true] at h1 ⊢; exact h1 m1 H1 r1 Mn.refl
theorem jw_or (ha : JT X W a ga) (hb : JW X W (.BoolOp .Or (b :: rest) pos) gb) : JW X W (.BoolOp .Or (a :: b :: rest) pos) (fOr ga gb) := by
  refine pw_imp (pw_or ha hb) fun σ H Q h => ?_
  obtain ⟨m, st, ρ, rs, re, h⟩ := h
  refine rt_bind (k := fun x st1 ρ => if x = true then .ok true st1 else gb ρ st1) rs re h fun x st1 m1 H1 r1 re1 mn1 h1 => ?_
  cases x with
  | true => rw [if_pos rfl] at h1 ⊢; exact h1 m1 H1 r1 Mn.refl
  | false => rw [if_neg Bool.false_ne_true] at h1 ⊢; exact ⟨m1, st1, ρ, r1, re1, h1⟩
theorem jt_not (ha : JT X W a ga) : JT X W (.UnaryOp .Not a pos) (fNot ga) := by
  refine pt_imp (pt_not ha) fun σ H Q h => ?_
  obtain ⟨m, st, ρ, rs, re, h⟩ := h
  refine rt_bind (k := fun x st1 ρ => .ok (!x) st1) rs re h fun x st1 m1 H1 r1 re1 mn1 h1 => h1 m1 H1 r1 Mn.refl
theorem je_one {op : BoolOp} (h : JE X W a fa) : JE X W (.BoolOp op [a] pos) fa := pe_one h
theorem isb_imp {σ : L2.St} {H : Hp} {α : Type} {k : Bool → S → En → Out α} {m : Nat → Addr} {st : S} {ρ : En} {Qa : α → S → (Nat → Addr) → Hp → Prop} {R : V → Hp → Prop}
    (rs : RS X.K m st H) (re : RE W.gh X.K m st.length H ρ σ) (h : Meet X.K X.mg m st.length H ((fIsB fa ρ st).bind fun d st1 => k d st1 ρ) Qa (fun cls od H' => W.W cls od σ H'))
    (hr : ∀ d st1 m1 H1, RS X.K m1 st1 H1 → RE W.gh X.K m1 st1.length H1 ρ σ → Mn X.K m st.length H m1 st1.length H1 → Meet X.K X.mg m1 st1.length H1 (k d st1 ρ) Qa (fun cls od H' => W.W cls od σ H') → R (.bl d) H1) : rE X.K X.mg W fa σ H R := by
  have e : ((fIsB fa ρ st).bind fun d st1 => k d st1 ρ) = ((fa ρ st).bind fun x st1 => (match x with | .bl b => Out.ok b st1 | _ => .bad).bind fun d st2 => k d st2 ρ) := by
    unfold fIsB
    cases fa ρ st <;> rfl
  rw [e] at h
  refine re_bind (k := fun x st1 ρ => (match x with | .bl b => Out.ok b st1 | _ => .bad).bind fun d st2 => k d st2 ρ) rs re h fun x st1 m1 H1 v1 r1 re1 mn1 rv1 h1 => ?_
  cases x with
  | bl b => cases rv1; exact hr b st1 m1 H1 r1 re1 mn1 h1
  | _ => exact h1.elim
theorem je_and (ha : JE X W a fa) (hb : JE X W (.BoolOp .And (b :: rest) pos) fb) : JE X W (.BoolOp .And (a :: b :: rest) pos) (fAndV fa fb) := by
  refine pe_imp (pe_and ha hb) fun σ H Q h => ?_
  obtain ⟨m, st, ρ, rs, re, h⟩ := h
  refine isb_imp (α := D) (k := fun x st1 ρ => if x = true then fb ρ st1 else .ok (.bl false) st1) rs re h fun x st1 m1 H1 r1 re1 mn1 h1 => ⟨x, rfl, ?_⟩
  cases x with
  | true => rw [if_pos rfl] at h1 ⊢; exact ⟨m1, st1, ρ, r1, re1, h1⟩
  | false => rw [if_neg Bool.false_ne_true] at h1 ⊢; exact h1 m1 H1 r1 Mn.refl _ rfl
theorem je_or (ha : JE X W a fa) (hb : JE X W (.BoolOp .Or (b :: rest) pos) fb) : JE X W (.BoolOp .Or (a :: b :: rest) pos) (fOrV fa fb) := by
  refine pe_imp (pe_or ha hb) fun σ H Q h => ?_
  obtain ⟨m, st, ρ, rs, re, h⟩ := h
  refine isb_imp (α := D) (k := fun x st1 ρ => if x = true then .ok (.bl true) st1 else fb ρ st1) rs re h fun x st1 m1 H1 r1 re1 mn1 h1 => ⟨x, rfl, ?_⟩
  cases x with
  | true => rw [if_pos rfl] at h1 ⊢; exact h1 m1 H1 r1 Mn.refl _ rfl
  | false => rw [if_neg Bool.false_ne_true] at h1 ⊢; exact ⟨m1, st1, ρ, r1, re1, h1⟩
theorem je_not (ha : JE X W a fa) : JE X W (.UnaryOp .Not a pos) (fNotV fa) := by
  refine pe_imp (pe_not ha) fun σ H Q h => ?_
  obtain ⟨m, st, ρ, rs, re, h⟩ := h
  exact isb_imp (α := D) (k := fun x st1 ρ => .ok (.bl (!x)) st1) rs re h fun x st1 m1 H1 r1 re1 mn1 h1 => ⟨x, rfl, h1 m1 H1 r1 Mn.refl _ rfl⟩
theorem je_if (hc : JT X W c ga) (ha : JE X W a fa) (hb : JE X W b fb) : JE X W (.IfExp c a b pos) (fIf ga fa fb) := by
  refine pe_imp (pe_ifExp hc ha hb) fun σ H Q h => ?_
  obtain ⟨m, st, ρ, rs, re, h⟩ := h
  refine rt_bind (k := fun x st1 ρ => if x = true then fa ρ st1 else fb ρ st1) rs re h fun x st1 m1 H1 r1 re1 mn1 h1 => ?_
  cases x with
  | true => rw [if_pos rfl] at h1 ⊢; exact ⟨m1, st1, ρ, r1, re1, h1⟩
  | false => rw [if_neg Bool.false_ne_true] at h1 ⊢; exact ⟨m1, st1, ρ, r1, re1, h1⟩
end
end MP

set_option Elab.async false
set_option linter.all false
set_option maxRecDepth 100000
set_option maxHeartbeats 4000000
namespace MP
open PySem L2

/-! ### operations by data -/
def gAdd (x y : D) (st : S) : Option (D × S) := match x, y with
  | .int i, .int j => some (.int (i + j), st)
  | .str a, .str b => if a.length + b.length ≤ sizeLine then some (.str (a ++ b), st) else none
  | .tup xs, .tup ys => if xs.length + ys.length ≤ sizeLine then some (.tup (xs ++ ys), st) else none
  | .loc a, .loc b => match st[a]?, st[b]? with
    | some (.lst xs), some (.lst ys) => if xs.length + ys.length ≤ sizeLine then some (.loc st.length, st ++ [.lst (xs ++ ys)]) else none
    | _, _ => none
  | _, _ => none
def gSub (x y : D) (st : S) : Option (D × S) := match x, y with
  | .int i, .int j => some (.int (i - j), st)
  | _, _ => none
def MulOk (i j : Int) : Prop := CMul i j ∨ CMulW i j
noncomputable instance (i j : Int) : Decidable (MulOk i j) := Classical.propDecidable _
noncomputable def gMul (x y : D) (st : S) : Option (D × S) := match x, y with
  | .int i, .int j => if MulOk i j then some (.int (i * j), st) else none
  | .loc a, .int k => match st[a]? with
    | some (.lst xs) => if -(2 ^ 63) ≤ k ∧ k < 2 ^ 63 ∧ xs.length * k.toNat ≤ sizeLine then some (.loc st.length, st ++ [.lst (List.replicate k.toNat xs).flatten]) else none
    | _ => none
  | _, _ => none
def DivOk (j : Int) : Prop := 0 < j ∧ j.natAbs.log2 < 9000
instance (j : Int) : Decidable (DivOk j) := by unfold DivOk; infer_instance
def gDiv (x y : D) (st : S) : Option (D × S) := match x, y with
  | .int i, .int j => if DivOk j then some (.int (i / j), st) else none
  | _, _ => none
def gMod (x y : D) (st : S) : Option (D × S) := match x, y with
  | .int i, .int j => if 0 < j then some (.int (i % j), st) else none
  | _, _ => none
def gPow (x y : D) (st : S) : Option (D × S) := match x, y with
  | .int i, .int j => if 0 ≤ j ∧ j ≤ 1000000 ∧ i.natAbs < 2 ^ 64 then some (.int (i ^ j.toNat), st) else none
  | _, _ => none
def gNeg (x : D) (st : S) : Option (D × S) := match x with
  | .int i => some (.int (-i), st)
  | _ => none
section
variable {X : Cx}
theorem opd_add : OpR X (binaryOp .Add) (rD X.K gAdd) := by
  intro pins s σ H x y v u Q I rx ry h
  obtain ⟨m, st, dx, dy, d, st', rs, r1, r2, e, fin⟩ := h
  unfold gAdd at e
  split at e
  · cases r1; cases r2; cases e
    exact op_add pins s σ H _ _ v u Q I rx ry ⟨_, _, rfl, rfl, fin.here rs rfl⟩
  · cases r1; cases r2
    split at e
    · rename_i hl
      cases e
      exact op_add_str pins s σ H _ _ v u Q I rx ry ⟨_, _, rfl, rfl, hl, fin.here rs rfl⟩
    · cases e
  · obtain ⟨a, xs, e1, q1, v1⟩ := r1
    obtain ⟨b, ys, e2, q2, v2⟩ := r2
    subst e1 e2
    split at e
    · rename_i hl
      cases e
      have l1 := RVs.len v1
      have l2 := RVs.len v2
      refine op_catA pins s σ H _ _ v u Q I rx ry ⟨a, b, xs, ys, rfl, rfl, q1, q2, by omega, fun z => ?_, fun _ z => ?_, fun _ _ p hp => fin.tup rs (RVs.app v1 v2) hp⟩
      · have z2 : xs = [] := z
        subst z2
        have := RVs.app v1 v2
        exact fin.here rs ⟨b, _, rfl, q2, by simpa using this⟩
      · have z2 : ys = [] := z
        subst z2
        have := RVs.app v1 v2
        exact fin.here rs ⟨a, _, rfl, q1, by simpa using this⟩
    · cases e
  · obtain ⟨h1, e1⟩ := r1
    obtain ⟨h2, e2⟩ := r2
    subst e1 e2
    split at e
    · rename_i q1 q2
      split at e
      · rename_i hl
        cases e
        obtain ⟨xs, g1, v1⟩ := rs.at_ _ _ q1
        obtain ⟨ys, g2, v2⟩ := rs.at_ _ _ q2
        have l1 := RVs.len v1
        have l2 := RVs.len v2
        exact op_cat pins s σ H _ _ v u Q I rx ry ⟨_, _, xs, ys, rfl, rfl, g1, g2, by omega, fun p hp => fin.lst rs (RVs.app v1 v2) hp⟩
      · cases e
    · cases e
  · cases e
theorem opd_sub : OpR X (binaryOp .Sub) (rD X.K gSub) := by
  intro pins s σ H x y v u Q I rx ry h
  obtain ⟨m, st, dx, dy, d, st', rs, r1, r2, e, fin⟩ := h
  unfold gSub at e
  split at e
  · cases r1; cases r2; cases e
    exact op_sub pins s σ H _ _ v u Q I rx ry ⟨_, _, rfl, rfl, fin.here rs rfl⟩
  · cases e
theorem opd_mul : OpR X (binaryOp .Mult) (rD X.K gMul) := by
  intro pins s σ H x y v u Q I rx ry h
  obtain ⟨m, st, dx, dy, d, st', rs, r1, r2, e, fin⟩ := h
  unfold gMul at e
  split at e
  · cases r1; cases r2
    split at e
    · rename_i hm
      cases e
      rcases hm with hm | hm
      · exact op_mul pins s σ H _ _ v u Q I rx ry ⟨_, _, rfl, rfl, hm, fin.here rs rfl⟩
      · exact op_mulW pins s σ H _ _ v u Q I rx ry ⟨_, _, rfl, rfl, hm, fin.here rs rfl⟩
    · cases e
  · obtain ⟨h1, e1⟩ := r1
    cases r2
    subst e1
    split at e
    · rename_i q1
      split at e
      · rename_i hl
        cases e
        obtain ⟨xs, g1, v1⟩ := rs.at_ _ _ q1
        have l1 := RVs.len v1
        refine op_rep pins s σ H _ _ v u Q I rx ry ⟨_, _, xs, rfl, rfl, g1, hl.1, hl.2.1, by rw [← l1]; exact hl.2.2, fun p hp => fin.lst rs ?_ hp⟩
        have rep : ∀ n : Nat, RVs X.K m st.length H (List.replicate n _).flatten (List.replicate n xs).flatten := fun n => by
          induction n with
          | zero => exact rfl
          | succ n ih =>
            rw [List.replicate_succ, List.replicate_succ, List.flatten_cons, List.flatten_cons]
            exact RVs.app v1 ih
        exact rep _
      · cases e
    · cases e
  · cases e
theorem opd_div : OpR X (binaryOp .FloorDiv) (rD X.K gDiv) := by
  intro pins s σ H x y v u Q I rx ry h
  obtain ⟨m, st, dx, dy, d, st', rs, r1, r2, e, fin⟩ := h
  unfold gDiv at e
  split at e
  · cases r1; cases r2
    split at e
    · rename_i hm
      cases e
      exact op_fdivW pins s σ H _ _ v u Q I rx ry ⟨_, _, rfl, rfl, hm, fin.here rs rfl⟩
    · cases e
  · cases e
theorem opd_mod : OpR X (binaryOp .Mod) (rD X.K gMod) := by
  intro pins s σ H x y v u Q I rx ry h
  obtain ⟨m, st, dx, dy, d, st', rs, r1, r2, e, fin⟩ := h
  unfold gMod at e
  split at e
  · cases r1; cases r2
    split at e
    · rename_i hm
      cases e
      exact op_mod pins s σ H _ _ v u Q I rx ry ⟨_, _, rfl, rfl, hm, fin.here rs rfl⟩
    · cases e
  · cases e
theorem opd_pow : OpR X (binaryOp .Pow) (rD X.K gPow) := by
  intro pins s σ H x y v u Q I rx ry h
  obtain ⟨m, st, dx, dy, d, st', rs, r1, r2, e, fin⟩ := h
  unfold gPow at e
  split at e
  · cases r1; cases r2
    split at e
    · rename_i hm
      cases e
      exact op_pow pins s σ H _ _ v u Q I rx ry ⟨_, _, rfl, rfl, hm, fin.here rs rfl⟩
    · cases e
  · cases e
theorem und_neg : UnR X (unaryOp .USub) (rD1 X.K gNeg) := by
  intro pins s σ H x v Q I rx h
  obtain ⟨m, st, dx, d, st', rs, r1, e, fin⟩ := h
  unfold gNeg at e
  split at e
  · cases r1; cases e
    exact un_neg pins s σ H _ v Q I rx ⟨_, rfl, fin.here rs rfl⟩
  · cases e
end
/-! ### comparisons -/
def gLt (x y : D) (st : S) : Option (D × S) := match x, y with
  | .int i, .int j => some (.bl (decide (i < j)), st)
  | _, _ => none
def gLe (x y : D) (st : S) : Option (D × S) := match x, y with
  | .int i, .int j => some (.bl (decide (i ≤ j)), st)
  | _, _ => none
def gGt (x y : D) (st : S) : Option (D × S) := match x, y with
  | .int i, .int j => some (.bl (decide (j < i)), st)
  | _, _ => none
def gGe (x y : D) (st : S) : Option (D × S) := match x, y with
  | .int i, .int j => some (.bl (decide (j ≤ i)), st)
  | _, _ => none
mutual
/-- a datum without places, as the library's own data -/
def pdV : D → Option PyData
  | .non => some .none
  | .bl b => some (.bool b)
  | .int i => some (.int i)
  | .str x => some (.str x)
  | .tup ds => (pdVs ds).map .tuple
  | .loc _ => none
def pdVs : List D → Option (List PyData)
  | [] => some []
  | d :: ds => match pdV d, pdVs ds with
    | some x, some xs => some (x :: xs)
    | _, _ => none
end
def pdD (st : S) : D → Option PyData
  | .loc n => (lstAt st n).bind fun ds => (pdVs ds).map .list
  | d => pdV d
section
variable {K : PySem.W.Frag} {m : Nat → Addr} {n : Nat} {H : Hp}
mutual
theorem dp_of : ∀ (d : D) (v : V) (x : PyData), RV K m n H d v → pdV d = some x → Dp K H v x
  | .non, v, x, h, e => by cases h; cases e; exact .non
  | .bl b, v, x, h, e => by cases h; cases e; exact .bl b
  | .int i, v, x, h, e => by cases h; cases e; exact .int i
  | .str s, v, x, h, e => by cases h; cases e; exact .str s
  | .loc k, v, x, h, e => by simp [pdV] at e
  | .tup ds, v, x, h, e => by
    obtain ⟨a, vs, rfl, h1, h2⟩ := h
    unfold pdV at e
    cases q : pdVs ds with
    | none => rw [q] at e; cases e
    | some xs =>
      rw [q] at e
      cases e
      exact .tup h1 (dps_of ds vs xs h2 q)
theorem dps_of : ∀ (ds : List D) (vs : List V) (xs : List PyData), RVs K m n H ds vs → pdVs ds = some xs → DpAll K H vs xs
  | [], vs, xs, h, e => by cases h; cases e; exact .nil
  | d :: ds, vs, xs, h, e => by
    obtain ⟨v, r, rfl, h1, h2⟩ := h
    unfold pdVs at e
    cases q1 : pdV d with
    | none => rw [q1] at e; cases e
    | some y =>
      rw [q1] at e
      cases q2 : pdVs ds with
      | none => rw [q2] at e; cases e
      | some ys =>
        rw [q2] at e
        cases e
        exact .cons (dp_of d v y h1 q1) (dps_of ds r ys h2 q2)
end
theorem dpd_of {st : S} (rs : RS K m st H) {d : D} {v : V} {x : PyData} (h : RV K m st.length H d v) (e : pdD st d = some x) : Dp K H v x := by
  cases d with
  | loc k =>
    obtain ⟨_, rfl⟩ := h
    obtain ⟨ds, e1, e2⟩ := Option.bind_eq_some_iff.mp (show (lstAt st k).bind (fun ds => (pdVs ds).map .list) = some x from e)
    obtain ⟨ys, e3, rfl⟩ := Option.map_eq_some_iff.mp e2
    obtain ⟨vs, g1, g2, _⟩ := lstAt_ok rs e1
    exact .lst g1 (dps_of ds vs ys g2 e3)
  | non => exact dp_of _ _ _ h e
  | bl b => exact dp_of _ _ _ h e
  | int i => exact dp_of _ _ _ h e
  | str s => exact dp_of _ _ _ h e
  | tup ds => exact dp_of _ _ _ h e
end
/-- x == y -/
def eqB (st : S) (x y : D) : Option Bool := match x, y with
  | .int i, .int j => some (decide (i = j))
  | .str a, .str b => some (decide (a = b))
  | .bl a, .bl b => some (decide (a = b))
  | .non, .non => some true
  | .non, .int _ => some false
  | .non, .str _ => some false
  | .int _, .non => some false
  | .str _, .non => some false
  | .int _, .str _ => some false
  | .str _, .int _ => some false
  | x, y => match pdD st x, pdD st y with
    | some a, some b => if SeqAt.shaped a = true ∧ SeqAt.shaped b = true then some (PyData.eqv a b) else none
    | _, _ => none
def gEq (x y : D) (st : S) : Option (D × S) := (eqB st x y).map fun b => (.bl b, st)
def gNe (x y : D) (st : S) : Option (D × S) := (eqB st x y).map fun b => (.bl (!b), st)
section
variable {X : Cx}
theorem eqB_ok {m : Nat → Addr} {st : S} {H : Hp} {dx dy : D} {x y : V} {b : Bool} {Q : VK} (rs : RS X.K m st H) (r1 : RV X.K m st.length H dx x) (r2 : RV X.K m st.length H dy y) (e : eqB st dx dy = some b) (k : Bool → Bool) (q : Q (.bl (k b)) H) :
    (scal x y = true ∧ Q (.bl (k (decide (x = y)))) H) ∨ ∃ a c, Dp X.K H x a ∧ Dp X.K H y c ∧ SeqAt.shaped a = true ∧ SeqAt.shaped c = true ∧ Q (.bl (k (PyData.eqv a c))) H := by
  have z : ∀ {c : Prop} [Decidable c] {c2 : Prop} [Decidable c2], (c ↔ c2) → Q (.bl (k (decide c2))) H → Q (.bl (k (decide c))) H := fun {c} _ {c2} _ i q => by
    rw [show decide c = decide c2 from by simp [i]]; exact q
  unfold eqB at e
  split at e
  · cases r1; cases r2; cases e; exact .inl ⟨rfl, z (by simp) q⟩
  · cases r1; cases r2; cases e; exact .inl ⟨rfl, z (by simp) q⟩
  · cases r1; cases r2; cases e; exact .inl ⟨rfl, z (by simp) q⟩
  · cases r1; cases r2; cases e; exact .inl ⟨rfl, z (c2 := True) (by simp) (by simpa using q)⟩
  · cases r1; cases r2; cases e; exact .inl ⟨rfl, z (c2 := False) (by simp) (by simpa using q)⟩
  · cases r1; cases r2; cases e; exact .inl ⟨rfl, z (c2 := False) (by simp) (by simpa using q)⟩
  · cases r1; cases r2; cases e; exact .inl ⟨rfl, z (c2 := False) (by simp) (by simpa using q)⟩
  · cases r1; cases r2; cases e; exact .inl ⟨rfl, z (c2 := False) (by simp) (by simpa using q)⟩
  · cases r1; cases r2; cases e; exact .inl ⟨rfl, z (c2 := False) (by simp) (by simpa using q)⟩
  · cases r1; cases r2; cases e; exact .inl ⟨rfl, z (c2 := False) (by simp) (by simpa using q)⟩
  · split at e
    · rename_i a c q1 q2
      split at e
      · rename_i hs
        cases e
        exact .inr ⟨a, c, dpd_of rs r1 q1, dpd_of rs r2 q2, hs.1, hs.2, q⟩
      · cases e
    · cases e
theorem opd_eq (hu : X.A.units + 64 < cLine) : OpR X (compareOp .Eq) (rD X.K gEq) := by
  intro pins s σ H x y v u Q I rx ry h
  obtain ⟨m, st, dx, dy, d, st', rs, r1, r2, e, fin⟩ := h
  unfold gEq at e
  obtain ⟨b, e1, e2⟩ := Option.map_eq_some_iff.mp e
  cases e2
  rcases eqB_ok (k := id) rs r1 r2 e1 (fin.here rs rfl) with q | q
  · exact op_eq pins s σ H x y v u Q I rx ry q
  · exact op_eqD hu pins s σ H x y v u Q I rx ry q
theorem opd_ne (hu : X.A.units + 64 < cLine) : OpR X (compareOp .NotEq) (rD X.K gNe) := by
  intro pins s σ H x y v u Q I rx ry h
  obtain ⟨m, st, dx, dy, d, st', rs, r1, r2, e, fin⟩ := h
  unfold gNe at e
  obtain ⟨b, e1, e2⟩ := Option.map_eq_some_iff.mp e
  cases e2
  rcases eqB_ok (k := fun b => !b) rs r1 r2 e1 (fin.here rs rfl) with q | q
  · exact op_ne pins s σ H x y v u Q I rx ry q
  · exact op_neD hu pins s σ H x y v u Q I rx ry q
theorem opd_lt : OpR X (compareOp .Lt) (rD X.K gLt) := by
  intro pins s σ H x y v u Q I rx ry h
  obtain ⟨m, st, dx, dy, d, st', rs, r1, r2, e, fin⟩ := h
  unfold gLt at e
  split at e
  · cases r1; cases r2; cases e
    exact op_lt pins s σ H _ _ v u Q I rx ry ⟨_, _, rfl, rfl, fin.here rs rfl⟩
  · cases e
theorem opd_le : OpR X (compareOp .LtE) (rD X.K gLe) := by
  intro pins s σ H x y v u Q I rx ry h
  obtain ⟨m, st, dx, dy, d, st', rs, r1, r2, e, fin⟩ := h
  unfold gLe at e
  split at e
  · cases r1; cases r2; cases e
    exact op_le pins s σ H _ _ v u Q I rx ry ⟨_, _, rfl, rfl, fin.here rs rfl⟩
  · cases e
theorem opd_gt : OpR X (compareOp .Gt) (rD X.K gGt) := by
  intro pins s σ H x y v u Q I rx ry h
  obtain ⟨m, st, dx, dy, d, st', rs, r1, r2, e, fin⟩ := h
  unfold gGt at e
  split at e
  · cases r1; cases r2; cases e
    exact op_gt pins s σ H _ _ v u Q I rx ry ⟨_, _, rfl, rfl, fin.here rs rfl⟩
  · cases e
theorem opd_ge : OpR X (compareOp .GtE) (rD X.K gGe) := by
  intro pins s σ H x y v u Q I rx ry h
  obtain ⟨m, st, dx, dy, d, st', rs, r1, r2, e, fin⟩ := h
  unfold gGe at e
  split at e
  · cases r1; cases r2; cases e
    exact op_ge pins s σ H _ _ v u Q I rx ry ⟨_, _, rfl, rfl, fin.here rs rfl⟩
  · cases e
end
/-! ### is -/
def gIs (x y : D) (st : S) : Option (D × S) := match x, y with
  | .bl a, .bl b => some (.bl (decide (a = b)), st)
  | x, .non => some (.bl (decide (x = .non)), st)
  | _, _ => none
def gIsNot (x y : D) (st : S) : Option (D × S) := match x, y with
  | .bl a, .bl b => some (.bl (!decide (a = b)), st)
  | x, .non => some (.bl (!decide (x = .non)), st)
  | _, _ => none
section
variable {X : Cx}
theorem non_iff {K : PySem.W.Frag} {m : Nat → Addr} {n : Nat} {H : Hp} {d : D} {v : V} (h : RV K m n H d v) : decide (v = .non) = decide (d = .non) := by
  cases d with
  | non => cases h; rfl
  | bl b => cases h; rfl
  | int i => cases h; rfl
  | str x => cases h; rfl
  | loc k => obtain ⟨_, rfl⟩ := h; rfl
  | tup ds => obtain ⟨a, vs, rfl, _⟩ := h; rfl
theorem opd_is : OpR X (compareOp .Is) (rD X.K gIs) := by
  intro pins s σ H x y v u Q I rx ry h
  obtain ⟨m, st, dx, dy, d, st', rs, r1, r2, e, fin⟩ := h
  unfold gIs at e
  split at e
  · cases r1; cases r2; cases e
    exact op_isBl pins s σ H _ _ v u Q I rx ry ⟨_, _, rfl, rfl, fin.here rs rfl⟩
  · cases r2; cases e
    refine op_isN pins s σ H _ _ v u Q I rx ry ⟨rfl, ?_⟩
    rw [non_iff r1]
    exact fin.here rs rfl
  · cases e
theorem opd_isnot : OpR X (compareOp .IsNot) (rD X.K gIsNot) := by
  intro pins s σ H x y v u Q I rx ry h
  obtain ⟨m, st, dx, dy, d, st', rs, r1, r2, e, fin⟩ := h
  unfold gIsNot at e
  split at e
  · cases r1; cases r2; cases e
    exact op_notBl pins s σ H _ _ v u Q I rx ry ⟨_, _, rfl, rfl, fin.here rs rfl⟩
  · cases r2; cases e
    refine op_notN pins s σ H _ _ v u Q I rx ry ⟨rfl, ?_⟩
    rw [non_iff r1]
    exact fin.here rs rfl
  · cases e
end
/-! ### subscripts, slices -/
def gIx (x y : D) (st : S) : Option (D × S) := match x, y with
  | .tup ds, .int i => (atI ds i).map fun d => (d, st)
  | .loc n, .int i => match lstAt st n with
    | some ds => (atI ds i).map fun d => (d, st)
    | none => none
  | .str z, .int i => if z.length ≤ sizeLine then (atI z.cps.toList i).map fun c => (.str ⟨#[c]⟩, st) else none
  | _, _ => none
theorem atI_rel {K : PySem.W.Frag} {m : Nat → Addr} {n : Nat} {H : Hp} {ds : List D} {vs : List V} {i : Int} {d : D} (h : RVs K m n H ds vs) (e : atI ds i = some d) : ∃ v, atI vs i = some v ∧ RV K m n H d v := by
  unfold atI at e
  obtain ⟨j, e1, e2⟩ := Option.bind_eq_some_iff.mp e
  obtain ⟨v, h1, h2⟩ := RVs.get h e2
  refine ⟨v, ?_, h2⟩
  unfold atI
  rw [← RVs.len h, e1]
  exact h1
section
variable {X : Cx}
theorem ixd : IxR X (rD X.K gIx) := by
  intro value slice pins s σ H x y v u Q I rx ry h hs
  obtain ⟨m, st, dx, dy, d, st', rs, r1, r2, e, fin⟩ := h
  unfold gIx at e
  split at e
  · obtain ⟨a, vs, rfl, q1, q2⟩ := r1
    cases r2
    obtain ⟨d2, e1, e2⟩ := Option.map_eq_some_iff.mp e
    cases e2
    obtain ⟨w, h1, h2⟩ := atI_rel q2 e1
    exact ix_tup value slice pins s σ H _ _ v u Q I rx ry ⟨a, vs, _, w, rfl, rfl, q1, h1, fin.here rs h2⟩ hs
  · obtain ⟨_, rfl⟩ := r1
    cases r2
    split at e
    · rename_i q
      obtain ⟨vs, g1, g2, _⟩ := lstAt_ok rs q
      obtain ⟨d2, e1, e2⟩ := Option.map_eq_some_iff.mp e
      cases e2
      obtain ⟨w, h1, h2⟩ := atI_rel g2 e1
      exact ix_list value slice pins s σ H _ _ v u Q I rx ry ⟨_, vs, _, w, rfl, rfl, g1, h1, fin.here rs h2⟩ hs
    · cases e
  · cases r1; cases r2
    split at e
    · rename_i hl
      obtain ⟨c, e1, e2⟩ := Option.map_eq_some_iff.mp e
      cases e2
      exact ix_str value slice pins s σ H _ _ v u Q I rx ry ⟨_, _, c, rfl, rfl, hl, e1, fin.here rs rfl⟩ hs
    · cases e
  · cases e
end
def cutD (xs : List D) (lo hi : Option Int) : List D := (xs.drop (HT.sIx xs.length 0 lo)).take (HT.sIx xs.length xs.length hi - HT.sIx xs.length 0 lo)
theorem cut_rel {K : PySem.W.Frag} {m : Nat → Addr} {n : Nat} {H : Hp} {ds : List D} {vs : List V} {lo hi : Option Int} (h : RVs K m n H ds vs) : RVs K m n H (cutD ds lo hi) (cutV vs lo hi) := by
  unfold cutD cutV
  rw [← RVs.len h]
  exact RVs.take _ (RVs.drop _ h)
def gSl (x : D) (lo hi : Option Int) (st : S) : Option (D × S) := match x with
  | .tup ds => some (.tup (cutD ds lo hi), st)
  | .loc n => match lstAt st n with
    | some ds => some (.loc st.length, st ++ [.lst (cutD ds lo hi)])
    | none => none
  | .str z => if z.length ≤ sizeLine then some (.str (cutS z lo hi), st) else none
  | _ => none
def rDS (K : PySem.W.Frag) (g : D → Option Int → Option Int → S → Option (D × S)) : V → Option Int → Option Int → Hp → VK → Prop := fun x lo hi H Q => ∃ m st dx d st', RS K m st H ∧ RV K m st.length H dx x ∧ g dx lo hi st = some (d, st') ∧ Fin K m st H d st' Q
theorem cut_whole {α : Type} (xs : List α) (lo hi : Option Int) (h : HT.sIx xs.length 0 lo = 0 ∧ HT.sIx xs.length xs.length hi = xs.length) : (xs.drop (HT.sIx xs.length 0 lo)).take (HT.sIx xs.length xs.length hi - HT.sIx xs.length 0 lo) = xs := by
  rw [h.1, h.2]
  simp
section
variable {X : Cx}
theorem sld : SlR X (rDS X.K gSl) := by
  intro pins s σ H x v vl vu lo hi sl Q I rx hs pl pu h
  obtain ⟨m, st, dx, d, st', rs, r1, e, fin⟩ := h
  unfold gSl at e
  split at e
  · obtain ⟨a, vs, rfl, q1, q2⟩ := r1
    cases e
    refine sl_tupA pins s σ H _ v vl vu lo hi sl Q I rx hs pl pu ⟨a, vs, rfl, q1, fun z => ?_, fun _ p hp => fin.tup rs (cut_rel q2) hp⟩
    refine fin.here rs ⟨a, vs, rfl, q1, ?_⟩
    have w := cut_rel (lo := lo) (hi := hi) q2
    have ez : cutV vs lo hi = vs := cut_whole vs lo hi z
    rw [ez] at w
    exact w
  · obtain ⟨_, rfl⟩ := r1
    split at e
    · rename_i q
      obtain ⟨vs, g1, g2, _⟩ := lstAt_ok rs q
      cases e
      exact sl_list pins s σ H _ v vl vu lo hi sl Q I rx hs pl pu ⟨_, vs, rfl, g1, fun p hp => fin.lst rs (cut_rel g2) hp⟩
    · cases e
  · cases r1
    split at e
    · rename_i hl
      cases e
      exact sl_str pins s σ H _ v vl vu lo hi sl Q I rx hs pl pu ⟨_, rfl, hl, fin.here rs rfl⟩
    · cases e
  · cases e
end
/-- a slice's parts -/
abbrev FO := En → S → Out (Option Int)
def fNo : FO := fun _ st => .ok none st
def fPart (a : FE) : FO := fun ρ st => (a ρ st).bind fun x st1 => match x with
  | .int i => .ok (some i) st1
  | _ => .bad
def fSl (g : D → Option Int → Option Int → S → Option (D × S)) (a : FE) (lo hi : FO) : FE := fun ρ st => (a ρ st).bind fun x st1 => (lo ρ st1).bind fun l st2 => (hi ρ st2).bind fun u st3 => ofO (g x l u st3)
def rO (K : PySem.W.Frag) (mg : Str → Option Value) (W : Wc) (f : FO) : TO := fun σ H Q => ∃ m st ρ, RS K m st H ∧ RE W.gh K m st.length H ρ σ ∧
  Meet K mg m st.length H (f ρ st) (fun b st' m' H' => Q b H') (fun cls od H' => W.W cls od σ H')
abbrev JO (X : Cx) (W : Wc) (e : Option Expr) (f : FO) : Prop := PO X e (rO X.K X.mg W f)
theorem ro_bind {K : PySem.W.Frag} {mg : Str → Option Value} {W : Wc} {α : Type} {f : FO} {k : Option Int → S → En → Out α} {m : Nat → Addr} {st : S} {ρ : En} {σ : L2.St} {H : Hp} {Qa : α → S → (Nat → Addr) → Hp → Prop} {R : Option Int → Hp → Prop}
    (rs : RS K m st H) (re : RE W.gh K m st.length H ρ σ) (h : Meet K mg m st.length H ((f ρ st).bind fun d st1 => k d st1 ρ) Qa (fun cls od H' => W.W cls od σ H'))
    (hr : ∀ d st1 m1 H1, RS K m1 st1 H1 → RE W.gh K m1 st1.length H1 ρ σ → Mn K m st.length H m1 st1.length H1 → Meet K mg m1 st1.length H1 (k d st1 ρ) Qa (fun cls od H' => W.W cls od σ H') → R d H1) :
    rO K mg W f σ H R :=
  ⟨m, st, ρ, rs, re, (Meet.bind h).imp fun d st1 m1 H1 r1 mn h1 => hr d st1 m1 H1 r1 (re.mono mn) mn h1⟩
section
variable {X : Cx} {W : Wc} {e : Expr} {fa : FE} {lo hi : Option Expr} {fl fh : FO} {pos p2 : Pos}
theorem jo_no : JO X W none fNo := ⟨fun pins s σ H Q I h => po_none.run pins s σ H Q I (by
  obtain ⟨m, st, ρ, rs, re, h⟩ := h
  exact h m H rs Mn.refl)⟩
theorem jo_part (h : JE X W e fa) : JO X W (some e) (fPart fa) := ⟨fun pins s σ H Q I hw => (po_some h).run pins s σ H Q I (by
  obtain ⟨m, st, ρ, rs, re, hw⟩ := hw
  refine re_bind (k := fun x st1 ρ => match x with | .int i => .ok (some i) st1 | _ => .bad) rs re hw fun x st1 m1 H1 v1 r1 re1 mn1 rv1 h1 => ?_
  cases x with
  | int i => exact ⟨i, rv1, h1 m1 H1 r1 Mn.refl⟩
  | _ => exact h1.elim)⟩
theorem je_sl {g : D → Option Int → Option Int → S → Option (D × S)} (hr : SlR X (rDS X.K g)) (he : JE X W e fa) (hl : JO X W lo fl) (hh : JO X W hi fh) : JE X W (.Subscript e (.Slice lo hi none p2) pos) (fSl g fa fl fh) := by
  refine pe_imp (pe_slice hr he hl hh) fun σ H Q h => ?_
  obtain ⟨m, st, ρ, rs, re, h⟩ := h
  refine re_bind (k := fun x st1 ρ => (fl ρ st1).bind fun l st2 => (fh ρ st2).bind fun u st3 => ofO (g x l u st3)) rs re h fun x st1 m1 H1 v1 r1 re1 mn1 rv1 h1 => ?_
  refine ro_bind (k := fun l st2 ρ => (fh ρ st2).bind fun u st3 => ofO (g x l u st3)) r1 re1 h1 fun l st2 m2 H2 r2 re2 mn2 h2 => ?_
  refine ro_bind (k := fun u st3 ρ => ofO (g x l u st3)) r2 re2 h2 fun u st3 m3 H3 r3 re3 mn3 h3 => ?_
  obtain ⟨d, st', e, fin⟩ := meet_fin h3
  exact ⟨m3, st3, x, d, st', r3, mn3 _ _ (mn2 _ _ rv1), e, fin⟩
end
/-! ### built-in functions -/
def gLen (ds : List D) (st : S) : Option (D × S) := match ds with
  | [.tup xs] => some (.int xs.length, st)
  | [.str x] => if x.length ≤ sizeLine then some (.int x.length, st) else none
  | [.loc n] => match lstAt st n with
    | some xs => some (.int xs.length, st)
    | none => none
  | _ => none
def gAbs (ds : List D) (st : S) : Option (D × S) := match ds with
  | [.int i] => some (.int (if i < 0 then -i else i), st)
  | _ => none
def gInt (ds : List D) (st : S) : Option (D × S) := match ds with
  | [.int i] => some (.int i, st)
  | [.bl b] => some (.int (if b then 1 else 0), st)
  | _ => none
def gBool (ds : List D) (st : S) : Option (D × S) := match ds with
  | [.int i] => some (.bl (i != 0), st)
  | [.bl b] => some (.bl b, st)
  | _ => none
def gStr (ds : List D) (st : S) : Option (D × S) := match ds with
  | [.int i] => if i.natAbs.log2 < 1920 then some (.str (toString i), st) else none
  | [.str x] => some (.str x, st)
  | _ => none
def gMax (ds : List D) (st : S) : Option (D × S) := match ds with
  | [.int i, .int j] => some (.int (if j > i then j else i), st)
  | _ => none
def gMin (ds : List D) (st : S) : Option (D × S) := match ds with
  | [.int i, .int j] => some (.int (if j < i then j else i), st)
  | _ => none
def gGcd (ds : List D) (st : S) : Option (D × S) := match ds with
  | [.int i, .int j] => some (.int ((Nat.gcd i.natAbs j.natAbs : Nat) : Int), st)
  | _ => none
def intsD : List D → Option (List Int)
  | [] => some []
  | .int i :: r => (intsD r).map fun is => i :: is
  | _ :: _ => none
def gSum (ds : List D) (st : S) : Option (D × S) := match ds with
  | [.loc n] => match lstAt st n with
    | some xs => (intsD xs).map fun is => (.int is.sum, st)
    | none => none
  | _ => none
def gList (ds : List D) (st : S) : Option (D × S) := match ds with
  | [.tup xs] => some (.loc st.length, st ++ [.lst xs])
  | [.loc n] => match lstAt st n with
    | some xs => some (.loc st.length, st ++ [.lst xs])
    | none => none
  | _ => none
def gTuple (ds : List D) (st : S) : Option (D × S) := match ds with
  | [.tup xs] => some (.tup xs, st)
  | [.loc n] => match lstAt st n with
    | some xs => some (.tup xs, st)
    | none => none
  | _ => none
theorem ints_rel {K : PySem.W.Frag} {m : Nat → Addr} {n : Nat} {H : Hp} : ∀ {ds : List D} {vs : List V} {is : List Int}, RVs K m n H ds vs → intsD ds = some is → vs = is.map V.int
  | [], vs, is, h, e => by cases h; cases e; rfl
  | .int i :: ds, vs, is, h, e => by
    obtain ⟨v, r, rfl, h1, h2⟩ := h
    unfold intsD at e
    obtain ⟨js, e1, rfl⟩ := Option.map_eq_some_iff.mp e
    cases h1
    rw [ints_rel h2 e1]
    rfl
  | .non :: _, _, _, _, e => by cases e
  | .bl _ :: _, _, _, _, e => by cases e
  | .str _ :: _, _, _, _, e => by cases e
  | .tup _ :: _, _, _, _, e => by cases e
  | .loc _ :: _, _, _, _, e => by cases e
section
variable {X : Cx}
/-- one argument, two arguments -/
theorem rvs1 {K : PySem.W.Frag} {m : Nat → Addr} {n : Nat} {H : Hp} {d : D} {vs : List V} (h : RVs K m n H [d] vs) : ∃ v, vs = [v] ∧ RV K m n H d v := by
  obtain ⟨v, r, rfl, h1, h2⟩ := h
  cases h2
  exact ⟨v, rfl, h1⟩
theorem rvs2 {K : PySem.W.Frag} {m : Nat → Addr} {n : Nat} {H : Hp} {d e : D} {vs : List V} (h : RVs K m n H [d, e] vs) : ∃ v w, vs = [v, w] ∧ RV K m n H d v ∧ RV K m n H e w := by
  obtain ⟨v, r, rfl, h1, h2⟩ := h
  obtain ⟨w, rfl, h3⟩ := rvs1 h2
  exact ⟨v, w, rfl, h1, h3⟩
theorem cad_len : CallR X (.builtin "len") (rDL X.K gLen) := by
  intro pins s σ H xs us Q I r h
  obtain ⟨m, st, ds, d, st', rs, r1, e, fin⟩ := h
  unfold gLen at e
  split at e
  · obtain ⟨v, rfl, a, vs, rfl, q1, q2⟩ := rvs1 r1
    cases e
    exact call_len pins s σ H _ us Q I r ⟨_, _, rfl, .inr ⟨vs, q1, rfl⟩, by rw [← RVs.len q2]; exact fin.here rs rfl⟩
  · obtain ⟨v, rfl, rfl⟩ := rvs1 r1
    split at e
    · rename_i hl
      cases e
      exact call_len pins s σ H _ us Q I r ⟨_, _, rfl, ⟨hl, rfl⟩, fin.here rs rfl⟩
    · cases e
  · obtain ⟨v, rfl, _, rfl⟩ := rvs1 r1
    split at e
    · rename_i q
      obtain ⟨vs, g1, g2, _⟩ := lstAt_ok rs q
      cases e
      exact call_len pins s σ H _ us Q I r ⟨_, _, rfl, .inl ⟨vs, g1, rfl⟩, by rw [← RVs.len g2]; exact fin.here rs rfl⟩
    · cases e
  · cases e
theorem cad_abs : CallR X (.builtin "abs") (rDL X.K gAbs) := by
  intro pins s σ H xs us Q I r h
  obtain ⟨m, st, ds, d, st', rs, r1, e, fin⟩ := h
  unfold gAbs at e
  split at e
  · obtain ⟨v, rfl, rfl⟩ := rvs1 r1
    cases e
    exact call_abs pins s σ H _ us Q I r ⟨_, rfl, fin.here rs rfl⟩
  · cases e
theorem cad_int : CallR X (.type "int") (rDL X.K gInt) := by
  intro pins s σ H xs us Q I r h
  obtain ⟨m, st, ds, d, st', rs, r1, e, fin⟩ := h
  unfold gInt at e
  split at e
  · obtain ⟨v, rfl, rfl⟩ := rvs1 r1
    cases e
    exact call_int1 pins s σ H _ us Q I r (.inl ⟨_, rfl, fin.here rs rfl⟩)
  · obtain ⟨v, rfl, rfl⟩ := rvs1 r1
    cases e
    exact call_int1 pins s σ H _ us Q I r (.inr ⟨_, rfl, fin.here rs rfl⟩)
  · cases e
theorem cad_bool : CallR X (.type "bool") (rDL X.K gBool) := by
  intro pins s σ H xs us Q I r h
  obtain ⟨m, st, ds, d, st', rs, r1, e, fin⟩ := h
  unfold gBool at e
  split at e
  · obtain ⟨v, rfl, rfl⟩ := rvs1 r1
    cases e
    exact call_bool1 pins s σ H _ us Q I r (.inl ⟨_, rfl, fin.here rs rfl⟩)
  · obtain ⟨v, rfl, rfl⟩ := rvs1 r1
    cases e
    exact call_bool1 pins s σ H _ us Q I r (.inr ⟨_, rfl, fin.here rs rfl⟩)
  · cases e
theorem cad_str : CallR X (.type "str") (rDL X.K gStr) := by
  intro pins s σ H xs us Q I r h
  obtain ⟨m, st, ds, d, st', rs, r1, e, fin⟩ := h
  unfold gStr at e
  split at e
  · obtain ⟨v, rfl, rfl⟩ := rvs1 r1
    split at e
    · rename_i hl
      cases e
      exact call_str_int pins s σ H _ us Q I r ⟨_, rfl, hl, fin.here rs rfl⟩
    · cases e
  · obtain ⟨v, rfl, rfl⟩ := rvs1 r1
    cases e
    exact SkE.call_str_str pins s σ H _ us Q I r ⟨_, rfl, fin.here rs rfl⟩
  · cases e
theorem cad_max (hc : X.calm = true) : CallR X (.builtin "max") (rDL X.K gMax) := by
  intro pins s σ H xs us Q I r h
  obtain ⟨m, st, ds, d, st', rs, r1, e, fin⟩ := h
  unfold gMax at e
  split at e
  · obtain ⟨v, w, rfl, rfl, rfl⟩ := rvs2 r1
    cases e
    exact call_max2 hc pins s σ H _ us Q I r ⟨_, _, rfl, fin.here rs rfl⟩
  · cases e
theorem cad_min (hc : X.calm = true) : CallR X (.builtin "min") (rDL X.K gMin) := by
  intro pins s σ H xs us Q I r h
  obtain ⟨m, st, ds, d, st', rs, r1, e, fin⟩ := h
  unfold gMin at e
  split at e
  · obtain ⟨v, w, rfl, rfl, rfl⟩ := rvs2 r1
    cases e
    exact call_min2 hc pins s σ H _ us Q I r ⟨_, _, rfl, fin.here rs rfl⟩
  · cases e
theorem cad_gcd : CallR X (.builtin "math.gcd") (rDL X.K gGcd) := by
  intro pins s σ H xs us Q I r h
  obtain ⟨m, st, ds, d, st', rs, r1, e, fin⟩ := h
  unfold gGcd at e
  split at e
  · obtain ⟨v, w, rfl, rfl, rfl⟩ := rvs2 r1
    cases e
    exact cr_gcd pins s σ H _ us Q I r ⟨_, _, rfl, fin.here rs rfl⟩
  · cases e
theorem cad_sum (hc : X.calm = true) : CallR X (.builtin "sum") (rDL X.K gSum) := by
  intro pins s σ H xs us Q I r h
  obtain ⟨m, st, ds, d, st', rs, r1, e, fin⟩ := h
  unfold gSum at e
  split at e
  · obtain ⟨v, rfl, _, rfl⟩ := rvs1 r1
    split at e
    · rename_i q
      obtain ⟨vs, g1, g2, _⟩ := lstAt_ok rs q
      obtain ⟨is, e1, e2⟩ := Option.map_eq_some_iff.mp e
      cases e2
      rw [ints_rel g2 e1] at g1
      exact cr_sum hc pins s σ H _ us Q I r ⟨_, is, rfl, g1, fin.here rs rfl⟩
    · cases e
  · cases e
theorem cad_list : CallR X (.type "list") (rDL X.K gList) := by
  intro pins s σ H xs us Q I r h
  obtain ⟨m, st, ds, d, st', rs, r1, e, fin⟩ := h
  unfold gList at e
  split at e
  · obtain ⟨v, rfl, a, vs, rfl, q1, q2⟩ := rvs1 r1
    cases e
    exact call_list_of pins s σ H _ us Q I r ⟨_, vs, rfl, .inr q1, fun p hp => fin.lst rs q2 hp⟩
  · obtain ⟨v, rfl, _, rfl⟩ := rvs1 r1
    split at e
    · rename_i q
      obtain ⟨vs, g1, g2, _⟩ := lstAt_ok rs q
      cases e
      exact call_list_of pins s σ H _ us Q I r ⟨_, vs, rfl, .inl g1, fun p hp => fin.lst rs g2 hp⟩
    · cases e
  · cases e
theorem cad_tuple : CallR X (.type "tuple") (rDL X.K gTuple) := by
  intro pins s σ H xs us Q I r h
  obtain ⟨m, st, ds, d, st', rs, r1, e, fin⟩ := h
  unfold gTuple at e
  split at e
  · obtain ⟨v, rfl, a, vs, rfl, q1, q2⟩ := rvs1 r1
    cases e
    exact call_tuple_of pins s σ H _ us Q I r ⟨_, vs, rfl, .inr ⟨q1, fin.here rs ⟨a, vs, rfl, q1, q2⟩⟩⟩
  · obtain ⟨v, rfl, _, rfl⟩ := rvs1 r1
    split at e
    · rename_i q
      obtain ⟨vs, g1, g2, _⟩ := lstAt_ok rs q
      cases e
      exact call_tuple_of pins s σ H _ us Q I r ⟨_, vs, rfl, .inl ⟨g1, fun p hp => fin.tup rs g2 hp⟩⟩
    · cases e
  · cases e
end
/-! ### isinstance with a built-in class -/
def tyD : D → String
  | .non => "NoneType"
  | .bl _ => "bool"
  | .int _ => "int"
  | .str _ => "str"
  | .tup _ => "tuple"
  | .loc _ => "list"
def isiT (T : String) (t : String) : Bool := t == T || (t == "bool" && T == "int")
def gIsi (T : String) (x : D) (st : S) : Option (D × S) := match x with
  | .loc n => match lstAt st n with
    | some _ => some (.bl (isiT T "list"), st)
    | none => none
  | x => some (.bl (isiT T (tyD x)), st)
def isiOk (T : String) : Bool := ["NoneType", "bool", "int", "str", "tuple", "list"].all fun t => decide (kitB t T = some (isiT T t))
section
variable {X : Cx} {W : Wc} {e : Expr} {fa : FE} {p p2 pos : Pos}
theorem tyx_of {K : PySem.W.Frag} {m : Nat → Addr} {st : S} {H : Hp} {d : D} {v : V} {T : String} {r : D × S} (rs : RS K m st H) (h : RV K m st.length H d v) (e : gIsi T d st = some r) : TyX K H v (.type (tyD d)) ∧ r = (.bl (isiT T (tyD d)), st) := by
  cases d with
  | non => cases h; exact ⟨.base .non, (Option.some.inj e).symm⟩
  | bl b => cases h; exact ⟨.base (.bl b), (Option.some.inj e).symm⟩
  | int i => cases h; exact ⟨.base (.int i), (Option.some.inj e).symm⟩
  | str x => cases h; exact ⟨.base (.str x), (Option.some.inj e).symm⟩
  | tup ds =>
    obtain ⟨a, vs, rfl, q1, q2⟩ := h
    refine ⟨?_, (Option.some.inj e).symm⟩
    rcases q1 with (q | ⟨o, q⟩) | ⟨o, its, n, q, qc, _⟩
    · exact .base (.tup q)
    · exact .fTuple q
    · exact .kTuple q qc
  | loc k =>
    obtain ⟨_, rfl⟩ := h
    replace e : (match lstAt st k with | some _ => some (D.bl (isiT T "list"), st) | none => none) = some r := e
    cases q : lstAt st k with
    | none => rw [q] at e; cases e
    | some ds =>
      rw [q] at e
      refine ⟨?_, (Option.some.inj e).symm⟩
      obtain ⟨vs, _, _, g | g⟩ := lstAt_ok rs q
      · obtain ⟨xs, g⟩ := g
        exact .base (.lst g)
      · obtain ⟨xs, ⟨o, g1⟩ | ⟨o, its, n, g1, gc, _⟩⟩ := g
        · exact .base (.frz g1)
        · exact .kList g1 gc
/-- isinstance(e, T) -/
theorem je_isi {T : Str} {t : String} (hg : Gl X "isinstance") (hm : X.mg "isinstance" = none) (hgT : Gl X T) (hmT : X.mg T = none) (hvT : bootBuiltins T = some (.type t)) (hk : isiOk t = true) (ha : JE X W e fa)
    (hnT : T ≠ "__name__" := by decide) (hdT : (T == ("__debug__" : Str)) = false := by decide)
    (he : starEach (e :: [.Name T p2]) X.env = (false, eval e X.env) :: starEach [.Name T p2] X.env := by rfl) (hpl : (backTo pos (starEach [.Name T p2] X.env)).any (·.1) = false := by rfl) :
    JE X W (.Call (.Name "isinstance" p) [e, .Name T p2] [] pos) (fUn (gIsi t) fa) := by
  have hT : PE X (.Name T p2) (tC (.ty t)) := pe_bltn hgT hmT hvT rfl hnT hdT
  refine pe_imp (pe_callB call_isi hg hm PyProof.Rows.boot_isinstance (pa_cons ha (pa_cons hT pa_nil) he) (by decide) (by decide) he hpl) fun σ H Q h => ?_
  obtain ⟨m, st, ρ, rs, re, h⟩ := h
  refine re_bind (k := fun x st1 ρ => ofO (gIsi t x st1)) rs re h fun x st1 m1 H1 v1 r1 re1 mn1 rv1 h1 => ?_
  obtain ⟨d, st', e, fin⟩ := meet_fin h1
  obtain ⟨ty, ed⟩ := tyx_of r1 rv1 e
  cases ed
  have kk : kitB (tyD x) t = some (isiT t (tyD x)) := by
    have z := List.all_eq_true.mp hk (tyD x) (by cases x <;> simp [tyD])
    exact of_decide_eq_true z
  exact ⟨v1, .ty t, .type (tyD x), .type t, _, rfl, .ty t, ty, kit_ty kk, fin.here r1 rfl⟩
end
/-! ### methods of lists -/
def gAppend (x : D) (ds : List D) (st : S) : Option (D × S) := match x, ds with
  | .loc n, [d] => match st[n]? with
    | some (.lst xs) => if xs.length < sizeLine then some (.non, st.set n (.lst (xs ++ [d]))) else none
    | _ => none
  | _, _ => none
def gInsert (x : D) (ds : List D) (st : S) : Option (D × S) := match x, ds with
  | .loc n, [.int i, d] => match st[n]? with
    | some (.lst xs) => if xs.length < sizeLine ∧ 0 ≤ i ∧ i < 2 ^ 63 then some (.non, st.set n (.lst (xs.take i.toNat ++ [d] ++ xs.drop i.toNat))) else none
    | _ => none
  | _, _ => none
def gPop (x : D) (ds : List D) (st : S) : Option (D × S) := match x, ds with
  | .loc n, [] => match st[n]? with
    | some (.lst xs) => (xs[xs.length - 1]?).map fun d => (d, st.set n (.lst xs.dropLast))
    | _ => none
  | .loc n, [.int i] => match st[n]? with
    | some (.lst xs) => if -(2 ^ 63) ≤ i ∧ i < 2 ^ 63 then (match seqIndex? i xs.length with
      | some k => (xs[k]?).map fun d => (d, st.set n (.lst (xs.eraseIdx k)))
      | none => none) else none
    | _ => none
  | _, _ => none
def gExtend (x : D) (ds : List D) (st : S) : Option (D × S) := match x, ds with
  | .loc n, [.loc k] => match st[n]?, st[k]? with
    | some (.lst xs), some (.lst ys) => if xs.length + ys.length ≤ sizeLine then some (.non, st.set n (.lst (xs ++ ys))) else none
    | _, _ => none
  | _, _ => none
theorem RVs.dropLast {K : PySem.W.Frag} {m : Nat → Addr} {n : Nat} {H : Hp} {ds : List D} {vs : List V} (h : RVs K m n H ds vs) : RVs K m n H ds.dropLast vs.dropLast := by
  rw [List.dropLast_eq_take, List.dropLast_eq_take, RVs.len h]
  exact RVs.take _ h
theorem RVs.erase {K : PySem.W.Frag} {m : Nat → Addr} {n : Nat} {H : Hp} {ds : List D} {vs : List V} (h : RVs K m n H ds vs) (k : Nat) : RVs K m n H (ds.eraseIdx k) (vs.eraseIdx k) := by
  rw [List.eraseIdx_eq_take_drop_succ, List.eraseIdx_eq_take_drop_succ]
  exact RVs.app (RVs.take _ h) (RVs.drop _ h)
section
variable {X : Cx}
theorem mtd_append : MtR X "list.append" (rDM X.K gAppend) := by
  intro pins s σ H x xs v us Q I rx rv h
  obtain ⟨m, st, dx, ds, d, st', rs, r1, r2, e, fin⟩ := h
  unfold gAppend at e
  split at e
  · obtain ⟨_, rfl⟩ := r1
    obtain ⟨y, rfl, r3⟩ := rvs1 r2
    split at e
    · rename_i q
      split at e
      · rename_i hl
        obtain ⟨vs, g1, g2⟩ := rs.at_ _ _ q
        cases e
        exact mt_append pins s σ H _ _ v us Q I rx rv ⟨_, vs, y, rfl, rfl, g1, by rw [← RVs.len g2]; exact hl, fin.wr rs q (RVs.app g2 (RVs.one r3)) rfl⟩
      · cases e
    · cases e
  · cases e
theorem mtd_insert : MtR X "list.insert" (rDM X.K gInsert) := by
  intro pins s σ H x xs v us Q I rx rv h
  obtain ⟨m, st, dx, ds, d, st', rs, r1, r2, e, fin⟩ := h
  unfold gInsert at e
  split at e
  · obtain ⟨_, rfl⟩ := r1
    obtain ⟨z, y, rfl, r4, r3⟩ := rvs2 r2
    cases r4
    split at e
    · rename_i q
      split at e
      · rename_i hl
        obtain ⟨vs, g1, g2⟩ := rs.at_ _ _ q
        cases e
        exact mt_insert pins s σ H _ _ v us Q I rx rv ⟨_, vs, _, y, rfl, rfl, g1, by rw [← RVs.len g2]; exact hl.1, hl.2.1, hl.2.2, fin.wr rs q (RVs.app (RVs.app (RVs.take _ g2) (RVs.one r3)) (RVs.drop _ g2)) rfl⟩
      · cases e
    · cases e
  · cases e
theorem mtd_pop : MtR X "list.pop" (rDM X.K gPop) := by
  intro pins s σ H x xs v us Q I rx rv h
  obtain ⟨m, st, dx, ds, d, st', rs, r1, r2, e, fin⟩ := h
  unfold gPop at e
  split at e
  · obtain ⟨_, rfl⟩ := r1
    cases r2
    split at e
    · rename_i q
      obtain ⟨vs, g1, g2⟩ := rs.at_ _ _ q
      obtain ⟨d2, e1, e2⟩ := Option.map_eq_some_iff.mp e
      cases e2
      obtain ⟨y, h1, h2⟩ := RVs.get g2 e1
      refine mt_pop pins s σ H _ _ v us Q I rx rv ⟨_, vs, y, rfl, rfl, g1, by rw [← RVs.len g2]; exact h1, fin.wr rs q (RVs.dropLast g2) h2⟩
    · cases e
  · obtain ⟨_, rfl⟩ := r1
    obtain ⟨z, rfl, r4⟩ := rvs1 r2
    cases r4
    split at e
    · rename_i q
      split at e
      · rename_i hl
        split at e
        · rename_i k hk
          obtain ⟨vs, g1, g2⟩ := rs.at_ _ _ q
          obtain ⟨d2, e1, e2⟩ := Option.map_eq_some_iff.mp e
          cases e2
          obtain ⟨y, h1, h2⟩ := RVs.get g2 e1
          exact mt_popAt pins s σ H _ _ v us Q I rx rv ⟨_, vs, _, k, y, rfl, rfl, g1, hl.1, hl.2, by rw [← RVs.len g2]; exact hk, h1, fin.wr rs q (RVs.erase g2 k) h2⟩
        · cases e
      · cases e
    · cases e
  · cases e
theorem mtd_extend : MtR X "list.extend" (rDM X.K gExtend) := by
  intro pins s σ H x xs v us Q I rx rv h
  obtain ⟨m, st, dx, ds, d, st', rs, r1, r2, e, fin⟩ := h
  unfold gExtend at e
  split at e
  · obtain ⟨_, rfl⟩ := r1
    obtain ⟨y, rfl, _, rfl⟩ := rvs1 r2
    split at e
    · rename_i q q2
      split at e
      · rename_i hl
        obtain ⟨vs, g1, g2⟩ := rs.at_ _ _ q
        obtain ⟨ws, g3, g4⟩ := rs.at_ _ _ q2
        cases e
        exact mt_extend pins s σ H _ _ v us Q I rx rv ⟨_, _, vs, ws, rfl, rfl, g1, g3, by rw [← RVs.len g2, ← RVs.len g4]; exact hl, fin.wr rs q (RVs.app g2 g4) rfl⟩
      · cases e
    · cases e
  · cases e
end
section
variable {X : Cx} {W : Wc} {o e : Expr} {es : List Expr} {fo : FE} {fs : FA} {name : Str} {id : String} {apos cpos : Pos}
/-- o.m(e, ..), o a list -/
def fLM (g : D → List D → S → Option (D × S)) (o : FE) (a : FA) : FE := fun ρ st => (o ρ st).bind fun x st1 => match x with
  | .loc n => match lstAt st1 n with
    | some _ => (a ρ st1).bind fun ds st2 => ofO (g (.loc n) ds st2)
    | none => .bad
  | _ => .bad
theorem lm_imp {g : D → List D → S → Option (D × S)} {t : TA} (ht : ∀ σ H Q, rA X.K X.mg W fs σ H Q → t σ H Q) {σ : L2.St} {H : Hp} {Q : VK} (h : rE X.K X.mg W (fLM g fo fs) σ H Q) : tBM X.K "list" (rDM X.K g) (rE X.K X.mg W fo) t σ H Q := by
  obtain ⟨m, st, ρ, rs, re, h⟩ := h
  refine re_bind (α := D) (k := fun x st1 ρ => match x with | .loc n => (match lstAt st1 n with | some _ => (fs ρ st1).bind fun ds st2 => ofO (g (.loc n) ds st2) | none => .bad) | _ => .bad) rs re h fun x st1 m1 H1 v1 r1 re1 mn1 rv1 h1 => ?_
  cases x with
  | loc n =>
    obtain ⟨hn, rfl⟩ := rv1
    cases q : lstAt st1 n with
    | none => simp only [q] at h1; exact h1.elim
    | some xs =>
      simp only [q] at h1
      obtain ⟨vs, g1, _⟩ := lstAt_ok r1 q
      refine ⟨Or.inl ⟨rfl, vs, g1⟩, ht _ _ _ ?_⟩
      refine ra_bind (k := fun ds st2 ρ => ofO (g (.loc n) ds st2)) r1 re1 h1 fun ds st2 m2 H2 v2 r2 re2 mn2 rv2 h2 => ?_
      obtain ⟨d, st', e, fin⟩ := meet_fin h2
      exact ⟨m2, st2, .loc n, ds, d, st', r2, mn2 _ _ ⟨hn, rfl⟩, rv2, e, fin⟩
  | _ => exact h1.elim
theorem je_lm {g : D → List D → S → Option (D × S)} (slot : Slot "list" name id) (hty : typeOf (.builtin id) = pure (.type "method_descriptor")) (hm : MtR X id (rDM X.K g)) (ho : JE X W o fo) (ha : JA X W (e :: es) fs)
    (hbase : attributeBase o name X.env (eval o X.env) = eval o X.env := by rfl)
    (hfew : ((backTo cpos (starEach (e :: es) X.env)).all (fun x => !x.1) && (backToKw cpos (keywordEach [] X.env)).all (fun x => x.1.isSome)
      && decide ((e :: es).length + ([] : List Keyword).length + (if ([] : List Keyword).isEmpty then 0 else 1) < 30)) = true := by rfl)
    (hline : (apos.endLine == cpos.line) = true := by rfl) (hs : starEach (e :: es) X.env = (false, eval e X.env) :: starEach es X.env := by rfl) (hplain : (backTo cpos (starEach es X.env)).any (·.1) = false := by rfl) :
    JE X W (.Call (.Attribute o name apos) (e :: es) [] cpos) (fLM g fo fs) :=
  pe_imp (pe_bm PySem.F.plainAttrs_list slot hty hm ho ha hbase hfew hline hs hplain) fun σ H Q h => lm_imp (fun _ _ _ q => q) h
theorem je_lm0 {g : D → List D → S → Option (D × S)} (slot : Slot "list" name id) (hty : typeOf (.builtin id) = pure (.type "method_descriptor")) (hm : MtR X id (rDM X.K g)) (ho : JE X W o fo)
    (hbase : attributeBase o name X.env (eval o X.env) = eval o X.env := by rfl) (hline : (apos.endLine == cpos.line) = true := by rfl) :
    JE X W (.Call (.Attribute o name apos) [] [] cpos) (fLM g fo fNil) :=
  pe_imp (pe_bm0 PySem.F.plainAttrs_list slot hty hm ho hbase hline) fun σ H Q h => lm_imp (t := fun σ H Q => Q [] H) (fun σ H Q q => by
    obtain ⟨m, st, ρ, rs, re, q⟩ := q
    exact q m H rs Mn.refl [] rfl) h
end
end MP

set_option Elab.async false
set_option linter.all false
set_option maxRecDepth 100000
set_option maxHeartbeats 4000000
namespace MP
open PySem L2

/-! ### statements -/
def Out.so {α : Type} (o : Out α) (ρ : En) (k : α → S → SO) : SO := match o with
  | .ok a st => k a st
  | .exc e st => .ex e ρ st
  | .bad => .bad
@[simp] theorem Out.so_ok {α : Type} (a : α) (st : S) (ρ : En) (k : α → S → SO) : (Out.ok a st).so ρ k = k a st := rfl
@[simp] theorem Out.so_exc {α : Type} (e : Ex) (st : S) (ρ : En) (k : α → S → SO) : (Out.exc e st : Out α).so ρ k = .ex e ρ st := rfl
@[simp] theorem Out.so_bad {α : Type} (ρ : En) (k : α → S → SO) : (Out.bad : Out α).so ρ k = .bad := rfl
section
variable {K : PySem.W.Frag} {mg : Str → Option Value} {W : Wc}
theorem MeetS.later {m m1 : Nat → Addr} {n n1 : Nat} {H H1 : Hp} {o : SO} {E : Ends} (h : MeetS K mg W m n H o E) (mn : Mn K m n H m1 n1 H1) : MeetS K mg W m1 n1 H1 o E := by
  cases o with
  | nx ρ st => exact fun m' H' σ r mn' re => h m' H' σ r (mn.trans mn') re
  | rt d st => exact fun m' H' σ r mn' re => h m' H' σ r (mn.trans mn') re
  | bk ρ st => exact fun m' H' σ r mn' re => h m' H' σ r (mn.trans mn') re
  | ct ρ st => exact fun m' H' σ r mn' re => h m' H' σ r (mn.trans mn') re
  | ex e ρ st => exact fun m' H' σ cls od r mn' re rx => h m' H' σ cls od r (mn.trans mn') re rx
  | bad => exact h
theorem Meet.later {α : Type} {m m1 : Nat → Addr} {n n1 : Nat} {H H1 : Hp} {o : Out α} {Q : α → S → (Nat → Addr) → Hp → Prop} {E : XK} (h : Meet K mg m n H o Q E) (mn : Mn K m n H m1 n1 H1) : Meet K mg m1 n1 H1 o Q E := by
  cases o with
  | ok a st => exact fun m' H' r mn' => h m' H' r (mn.trans mn')
  | exc e st => exact fun m' H' cls od r mn' rx => h m' H' cls od r (mn.trans mn') rx
  | bad => exact h
theorem se_bind {f : FE} {k : D → S → SO} {m : Nat → Addr} {st : S} {ρ : En} {σ : L2.St} {H : Hp} {E : Ends} {R : V → Hp → Prop}
    (rs : RS K m st H) (re : RE W.gh K m st.length H ρ σ) (h : MeetS K mg W m st.length H ((f ρ st).so ρ k) E)
    (hr : ∀ d st1 m1 H1 v, RS K m1 st1 H1 → RE W.gh K m1 st1.length H1 ρ σ → Mn K m st.length H m1 st1.length H1 → RV K m1 st1.length H1 d v → MeetS K mg W m1 st1.length H1 (k d st1) E → R v H1) :
    rE K mg W f σ H R := by
  refine ⟨m, st, ρ, rs, re, ?_⟩
  cases e : f ρ st with
  | ok d st1 =>
    rw [e] at h
    exact fun m1 H1 r1 mn v rv => hr d st1 m1 H1 v r1 (re.mono mn) mn rv (MeetS.later h mn)
  | exc x st1 =>
    rw [e] at h
    exact fun m1 H1 cls od r1 mn rx => h m1 H1 σ cls od r1 mn (re.mono mn) rx
  | bad => rw [e] at h; exact h
theorem st_bind {f : FT} {k : Bool → S → SO} {m : Nat → Addr} {st : S} {ρ : En} {σ : L2.St} {H : Hp} {E : Ends} {R : Bool → Hp → Prop}
    (rs : RS K m st H) (re : RE W.gh K m st.length H ρ σ) (h : MeetS K mg W m st.length H ((f ρ st).so ρ k) E)
    (hr : ∀ d st1 m1 H1, RS K m1 st1 H1 → RE W.gh K m1 st1.length H1 ρ σ → Mn K m st.length H m1 st1.length H1 → MeetS K mg W m1 st1.length H1 (k d st1) E → R d H1) :
    rT K mg W f σ H R := by
  refine ⟨m, st, ρ, rs, re, ?_⟩
  cases e : f ρ st with
  | ok d st1 =>
    rw [e] at h
    exact fun m1 H1 r1 mn => hr d st1 m1 H1 r1 (re.mono mn) mn (MeetS.later h mn)
  | exc x st1 =>
    rw [e] at h
    exact fun m1 H1 cls od r1 mn rx => h m1 H1 σ cls od r1 mn (re.mono mn) rx
  | bad => rw [e] at h; exact h
theorem sa_bind {f : FA} {k : List D → S → SO} {m : Nat → Addr} {st : S} {ρ : En} {σ : L2.St} {H : Hp} {E : Ends} {R : List V → Hp → Prop}
    (rs : RS K m st H) (re : RE W.gh K m st.length H ρ σ) (h : MeetS K mg W m st.length H ((f ρ st).so ρ k) E)
    (hr : ∀ d st1 m1 H1 v, RS K m1 st1 H1 → RE W.gh K m1 st1.length H1 ρ σ → Mn K m st.length H m1 st1.length H1 → RVs K m1 st1.length H1 d v → MeetS K mg W m1 st1.length H1 (k d st1) E → R v H1) :
    rA K mg W f σ H R := by
  refine ⟨m, st, ρ, rs, re, ?_⟩
  cases e : f ρ st with
  | ok d st1 =>
    rw [e] at h
    exact fun m1 H1 r1 mn v rv => hr d st1 m1 H1 v r1 (re.mono mn) mn rv (MeetS.later h mn)
  | exc x st1 =>
    rw [e] at h
    exact fun m1 H1 cls od r1 mn rx => h m1 H1 σ cls od r1 mn (re.mono mn) rx
  | bad => rw [e] at h; exact h
end
def sSkip : FS := fun ρ st => .nx ρ st
def sSeq (a b : FS) : FS := fun ρ st => match a ρ st with
  | .nx ρ1 st1 => b ρ1 st1
  | o => o
def sSet (i : Nat) (e : FE) : FS := fun ρ st => (e ρ st).so ρ fun d st1 => .nx (ρ.set i (some d)) st1
def sExpr (e : FE) : FS := fun ρ st => (e ρ st).so ρ fun _ st1 => .nx ρ st1
def sRet (e : FE) : FS := fun ρ st => (e ρ st).so ρ fun d st1 => .rt d st1
def sRetN : FS := fun _ st => .rt .non st
def sIf (t : FT) (a b : FS) : FS := fun ρ st => (t ρ st).so ρ fun c st1 => if c = true then a ρ st1 else b ρ st1
def sBreak : FS := fun ρ st => .bk ρ st
def sCont : FS := fun ρ st => .ct ρ st
/-- a target -/
abbrev FG := D → S → En → Option En
def tgN (i : Nat) : FG := fun d _ ρ => some (ρ.set i (some d))
def tgAll : List FG → List D → S → En → Option En
  | [], [], _, ρ => some ρ
  | t :: ts, d :: ds, st, ρ => (t d st ρ).bind fun ρ1 => tgAll ts ds st ρ1
  | _, _, _, _ => none
def tgTup (ts : List FG) : FG := fun d st ρ => match d with
  | .tup ds => tgAll ts ds st ρ
  | _ => none
def sAsg (t : FG) (e : FE) : FS := fun ρ st => (e ρ st).so ρ fun d st1 => match t d st1 ρ with
  | some ρ1 => .nx ρ1 st1
  | none => .bad
/-- xs[i] = e -/
def gStore (o i d : D) (st : S) : Option S := match o, i with
  | .loc n, .int k => match st[n]? with
    | some (.lst ds) => (ixN ds.length k).map fun j => st.set n (.lst (ds.set j d))
    | _ => none
  | _, _ => none
def sStore (o i e : FE) : FS := fun ρ st => (e ρ st).so ρ fun d st1 => (o ρ st1).so ρ fun x st2 => (i ρ st2).so ρ fun y st3 => match gStore x y d st3 with
  | some st4 => .nx ρ st4
  | none => .bad
def sPar (i j : Nat) (a : FA) : FS := fun ρ st => (a ρ st).so ρ fun ds st1 => match ds with
  | [x, y] => .nx ((ρ.set i (some x)).set j (some y)) st1
  | _ => .bad
def sLoop (chk : S → Bool) (t : FG) (body : FS) : List D → En → S → SO
  | [], ρ, st => if chk st = true then .nx ρ st else .bad
  | d :: ds, ρ, st => if chk st = true then (match t d st ρ with
    | some ρ1 => (match body ρ1 st with
      | .nx ρ2 st2 => sLoop chk t body ds ρ2 st2
      | .ct ρ2 st2 => sLoop chk t body ds ρ2 st2
      | .bk ρ2 st2 => .nx ρ2 st2
      | .rt d st2 => .rt d st2
      | .ex e ρ2 st2 => .ex e ρ2 st2
      | .bad => .bad)
    | none => .bad) else .bad
/-- the signs of a text -/
def signs (z : Str) : List D := z.cps.toList.map fun c => .str ⟨#[c]⟩
/-- for over a list, a tuple, a text -/
def sFor (e : FE) (t : FG) (body : FS) : FS := fun ρ st => (e ρ st).so ρ fun d st1 => match d with
  | .tup ds => sLoop (fun _ => true) t body ds ρ st1
  | .loc n => match lstAt st1 n with
    | some ds => sLoop (fun s => decide (lstAt s n = some ds)) t body ds ρ st1
    | none => .bad
  | .str z => sLoop (fun _ => true) t body (signs z) ρ st1
  | _ => .bad
def rangeD (lo hi : Int) : List D := (List.range (hi - lo).toNat).map fun i => .int (lo + (i : Nat))
def Small62 (i : Int) : Prop := -(2 ^ 62) ≤ i ∧ i < 2 ^ 62
instance (i : Int) : Decidable (Small62 i) := by unfold Small62; infer_instance
def sForR1 (a : FA) (t : FG) (body : FS) : FS := fun ρ st => (a ρ st).so ρ fun ds st1 => match ds with
  | [.int j] => if Small62 j then sLoop (fun _ => true) t body (rangeD 0 j) ρ st1 else .bad
  | _ => .bad
def sForR2 (a : FA) (t : FG) (body : FS) : FS := fun ρ st => (a ρ st).so ρ fun ds st1 => match ds with
  | [.int i, .int j] => if Small62 i ∧ Small62 j then sLoop (fun _ => true) t body (rangeD i j) ρ st1 else .bad
  | _ => .bad
def sWh (t : FT) (body : FS) : Nat → FS
  | 0, _, _ => .bad
  | n + 1, ρ, st => (t ρ st).so ρ fun c st1 => if c = true then (match body ρ st1 with
      | .nx ρ2 st2 => sWh t body n ρ2 st2
      | .ct ρ2 st2 => sWh t body n ρ2 st2
      | .bk ρ2 st2 => .nx ρ2 st2
      | .rt d st2 => .rt d st2
      | .ex e ρ2 st2 => .ex e ρ2 st2
      | .bad => .bad) else .nx ρ st1
open Classical in
/-- while: as far as it takes -/
noncomputable def sWhile (t : FT) (body : FS) : FS := fun ρ st => if h : ∃ n, sWh t body n ρ st ≠ .bad then sWh t body (choose h) ρ st else .bad
theorem sWh_more {t : FT} {body : FS} : ∀ (n k : Nat) (ρ : En) (st : S), sWh t body n ρ st ≠ .bad → sWh t body (n + k) ρ st = sWh t body n ρ st
  | 0, _, _, _, h => absurd rfl h
  | n + 1, k, ρ, st, h => by
    have e : n + 1 + k = (n + k) + 1 := by omega
    rw [e]
    unfold sWh at h ⊢
    cases q : t ρ st with
    | ok c st1 =>
      rw [q] at h
      simp only [Out.so_ok] at h ⊢
      cases c with
      | false => rfl
      | true =>
        rw [if_pos rfl] at h
        rw [if_pos rfl, if_pos rfl]
        cases b : body ρ st1 with
        | nx ρ2 st2 => rw [b] at h; exact sWh_more n k ρ2 st2 h
        | ct ρ2 st2 => rw [b] at h; exact sWh_more n k ρ2 st2 h
        | bk ρ2 st2 => rfl
        | rt d st2 => rfl
        | ex e ρ2 st2 => rfl
        | bad => rfl
    | exc e st1 => rfl
    | bad => rfl
theorem sWhile_of {t : FT} {body : FS} {n : Nat} {ρ : En} {st : S} {o : SO} (h : sWh t body n ρ st = o) (ho : o ≠ .bad) : sWhile t body ρ st = o := by
  have ex : ∃ n, sWh t body n ρ st ≠ .bad := ⟨n, by rw [h]; exact ho⟩
  unfold sWhile
  rw [dif_pos ex]
  have h1 := Classical.choose_spec ex
  have a := sWh_more (Classical.choose ex) n ρ st h1
  have b := sWh_more n (Classical.choose ex) ρ st (by rw [h]; exact ho)
  rw [Nat.add_comm] at b
  rw [← a, b, h]

/-! ### the rules of statements -/
section
variable {X : Cx} {W : Wc} {st : Stmt} {rest : List Stmt} {a b c e : Expr} {f g : FS} {fa fb fc : FE} {ft : FT} {fs : FA} {pos p : Pos}
theorem jb_nil : JB X W [] sSkip := pss_imp pss_nil fun E σ H ⟨m, st, ρ, rs, re, h⟩ => h m H σ rs Mn.refl re
theorem jb_cons (h1 : JS X W st f) (h2 : JB X W rest g) : JB X W (st :: rest) (sSeq f g) := by
  refine pss_imp (pss_cons h1 h2) fun E σ H h => ?_
  obtain ⟨m, st, ρ, rs, re, h⟩ := h
  refine ⟨m, st, ρ, rs, re, ?_⟩
  unfold sSeq at h
  cases q : f ρ st with
  | nx ρ1 st1 =>
    rw [q] at h
    exact fun m' H' σ' r mn re' => ⟨m', st1, ρ1, r, re', MeetS.later h mn⟩
  | rt d st1 => rw [q] at h; exact h
  | bk ρ1 st1 => rw [q] at h; exact h
  | ct ρ1 st1 => rw [q] at h; exact h
  | ex e ρ1 st1 => rw [q] at h; exact h
  | bad => rw [q] at h; exact h
theorem jb_one (h1 : JS X W st f) : JB X W [st] f := pss_one h1
theorem js_pass : JS X W (.Pass pos) sSkip := ps_imp ps_pass fun E σ H ⟨m, st, ρ, rs, re, h⟩ => h m H σ rs Mn.refl re
theorem js_break : JS X W (.Break pos) sBreak := ps_imp ps_break fun E σ H ⟨m, st, ρ, rs, re, h⟩ => h m H σ rs Mn.refl re
theorem js_cont : JS X W (.Continue pos) sCont := ps_imp ps_continue fun E σ H ⟨m, st, ρ, rs, re, h⟩ => h m H σ rs Mn.refl re
theorem js_expr (he : JE X W e fa) (hs : swapsWith e none pos.line X.env = pure false := by rfl) : JS X W (.Expr e pos) (sExpr fa) := by
  refine ps_imp (ps_expr he hs) fun E σ H h => ?_
  obtain ⟨m, st, ρ, rs, re, h⟩ := h
  exact se_bind rs re h fun d st1 m1 H1 v r1 re1 mn rv h1 => h1 m1 H1 σ r1 Mn.refl re1
theorem js_ret (he : JE X W e fa) : JS X W (.Return (some e) pos) (sRet fa) := by
  refine ps_imp (ps_ret he) fun E σ H h => ?_
  obtain ⟨m, st, ρ, rs, re, h⟩ := h
  exact se_bind rs re h fun d st1 m1 H1 v r1 re1 mn rv h1 => h1 m1 H1 v r1 Mn.refl rv
theorem js_retN : JS X W (.Return none pos) sRetN := ps_imp ps_retN fun E σ H ⟨m, st, ρ, rs, re, h⟩ => h m H .non rs Mn.refl rfl
theorem js_if {xs ys : List Stmt} (hc : JT X W c ft) (ha : JB X W xs f) (hb : JB X W ys g) : JS X W (.If c xs ys pos) (sIf ft f g) := by
  refine ps_imp (ps_if hc ha hb) fun E σ H h => ?_
  obtain ⟨m, st, ρ, rs, re, h⟩ := h
  refine st_bind rs re h fun d st1 m1 H1 r1 re1 mn h1 => ?_
  cases d with
  | true => rw [if_pos rfl] at h1 ⊢; exact ⟨m1, st1, ρ, r1, re1, h1⟩
  | false => rw [if_neg Bool.false_ne_true] at h1 ⊢; exact ⟨m1, st1, ρ, r1, re1, h1⟩
theorem js_set {i : Nat} {x : Str} {p' : Pos} (hN : X.N.Nodup) (hi : X.N[i]? = some x) (hx : Loc X.env.scope x) (he : JE X W e fa) (hs : swapsWith e (some (.Name x p')) pos.line X.env = pure false := by rfl) (hf : X.fn x = true ∨ X.env.scope.names.lookup x = some .local := by first | exact .inl rfl | exact .inr rfl | assumption) :
    JS X W (.Assign [.Name x p'] e pos) (sSet i fa) := by
  refine ps_imp (ps_set hN hi hx he hs hf) fun E σ H h => ?_
  obtain ⟨m, st, ρ, rs, re, h⟩ := h
  exact se_bind rs re h fun d st1 m1 H1 v r1 re1 mn rv h1 => h1 m1 H1 _ r1 Mn.refl (re1.set rv)
end
/-! ### targets -/
def rG (K : PySem.W.Frag) (W : Wc) (f : FG) : TG := fun v σ H Q => ∃ m st ρ d ρ', RS K m st H ∧ RE W.gh K m st.length H ρ σ ∧ RV K m st.length H d v ∧ f d st ρ = some ρ' ∧ ∀ σ', RE W.gh K m st.length H ρ' σ' → Q σ' H
def rGs (K : PySem.W.Frag) (W : Wc) (fs : List FG) : TGs := fun vs σ H Q => ∃ m st ρ ds ρ', RS K m st H ∧ RE W.gh K m st.length H ρ σ ∧ RVs K m st.length H ds vs ∧ tgAll fs ds st ρ = some ρ' ∧ ∀ σ', RE W.gh K m st.length H ρ' σ' → Q σ' H
abbrev JG (X : Cx) (W : Wc) (e : Expr) (f : FG) : Prop := PG X e (rG X.K W f)
abbrev JGs (X : Cx) (W : Wc) (es : List Expr) (fs : List FG) : Prop := PGs X es (rGs X.K W fs)
section
variable {X : Cx} {W : Wc} {e : Expr} {es : List Expr} {f : FG} {fs : List FG} {pos p : Pos}
theorem pg_imp {t t' : TG} (h : PG X e t) (hi : ∀ v σ H Q, t' v σ H Q → t v σ H Q) : PG X e t' := ⟨fun pins s σ H v u Q I r hw => h.run pins s σ H v u Q I r (hi v σ H Q hw)⟩
theorem pgs_imp {t t' : TGs} (h : PGs X es t) (hi : ∀ v σ H Q, t' v σ H Q → t v σ H Q) : PGs X es t' := ⟨fun pins s σ H v u Q I r hw => h.run pins s σ H v u Q I r (hi v σ H Q hw)⟩
theorem jg_name {i : Nat} {x : Str} (hN : X.N.Nodup) (hi : X.N[i]? = some x) (hx : Loc X.env.scope x) (hf : X.fn x = true ∨ X.env.scope.names.lookup x = some .local := by first | exact .inl rfl | exact .inr rfl | assumption) : JG X W (.Name x pos) (tgN i) :=
  pg_imp (pg_name hN hi hx hf) fun v σ H Q ⟨m, st, ρ, d, ρ', rs, re, rv, e, h⟩ => by
    cases e
    exact h _ (re.set rv)
theorem jgs_nil : JGs X W [] [] := pgs_imp pgs_nil fun v σ H Q ⟨m, st, ρ, ds, ρ', rs, re, rv, e, h⟩ => by
  cases ds with
  | nil =>
    cases rv
    cases e
    exact ⟨rfl, h _ re⟩
  | cons _ _ => cases e
theorem jgs_cons (h1 : JG X W e f) (h2 : JGs X W es fs) (hs : (assignEach (e :: es) X.env).map (·.2) = assign e X.env :: (assignEach es X.env).map (·.2) := by rfl) : JGs X W (e :: es) (f :: fs) :=
  pgs_imp (pgs_cons h1 h2 hs) fun v σ H Q ⟨m, st, ρ, ds, ρ', rs, re, rv, e, h⟩ => by
    cases ds with
    | nil => cases e
    | cons d ds =>
      obtain ⟨x, r, rfl, r1, r2⟩ := rv
      obtain ⟨ρ1, e1, e2⟩ := Option.bind_eq_some_iff.mp (show (f d st ρ).bind (fun ρ1 => tgAll fs ds st ρ1) = some ρ' from e)
      exact ⟨x, r, rfl, m, st, ρ, d, ρ1, rs, re, r1, e1, fun σ1 re1 => ⟨m, st, ρ1, ds, ρ', rs, re1, r2, e2, h⟩⟩
theorem tgAll_len : ∀ {fs : List FG} {ds : List D} {st : S} {ρ ρ' : En}, tgAll fs ds st ρ = some ρ' → ds.length = fs.length
  | [], [], _, _, _, _ => rfl
  | [], _ :: _, _, _, _, e => by cases e
  | _ :: _, [], _, _, _, e => by cases e
  | f :: fs, d :: ds, st, ρ, ρ', e => by
    obtain ⟨ρ1, e1, e2⟩ := Option.bind_eq_some_iff.mp (show (f d st ρ).bind (fun ρ1 => tgAll fs ds st ρ1) = some ρ' from e)
    simp [tgAll_len e2]
theorem jg_tup {k : Nat} (hc : X.calm = true) (h : JGs X W es fs) (hn : (assignEach es X.env).length = fs.length := by rfl) (hst : (assignEach es X.env).findIdx? (·.1) = none := by rfl) : JG X W (.Tuple es k pos) (tgTup fs) :=
  pg_imp (pg_tup hc h hn hst) fun v σ H Q ⟨m, st, ρ, d, ρ', rs, re, rv, e, h⟩ => by
    cases d with
    | tup ds =>
      obtain ⟨a, vs, rfl, q1, q2⟩ := rv
      exact ⟨a, vs, rfl, q1, by rw [← RVs.len q2]; exact tgAll_len e, m, st, ρ, ds, ρ', rs, re, q2, e, h⟩
    | _ => cases e
end
section
variable {X : Cx} {W : Wc} {a b c e tg : Expr} {f : FS} {fa fo fi : FE} {g : FG} {ft : FT} {fs : FA} {pos p p2 pt pt2 : Pos}
theorem js_asg (he : JE X W e fa) (hg : JG X W tg g) (hs : swapsWithSole [tg] e pos.line X.env = pure false := by rfl) (hw : swappedStores [tg] e X.env = pure none := by rfl)
    (h1 : (assignEach [tg] X.env).map (·.2) = [assign tg X.env] := by rfl) : JS X W (.Assign [tg] e pos) (sAsg g fa) := by
  refine ps_imp (ps_asg he hg hs hw h1) fun E σ H h => ?_
  obtain ⟨m, st, ρ, rs, re, h⟩ := h
  refine se_bind rs re h fun d st1 m1 H1 v r1 re1 mn rv h1 => ?_
  cases q : g d st1 ρ with
  | none => simp only [q] at h1; exact h1.elim
  | some ρ1 =>
    simp only [q] at h1
    exact ⟨m1, st1, ρ, d, ρ1, r1, re1, rv, q, fun σ' re' => h1 m1 H1 σ' r1 Mn.refl re'⟩
theorem js_par {i j : Nat} {x y : Str} {px py : Pos} {kt k2 : Nat} (hc : X.calm = true) (hN : X.N.Nodup) (hi : X.N[i]? = some x) (hj : X.N[j]? = some y) (hij : i ≠ j)
    (hx : X.env.scope.names.lookup x = some .local) (hy : X.env.scope.names.lookup y = some .local) (ha : JA X W [a, b] fs)
    (hw : swappedStores [.Tuple [.Name x px, .Name y py] kt pt] (.Tuple [a, b] k2 pt2) X.env = pure (some [x, y]))
    (hs : swapsWithSole [.Tuple [.Name x px, .Name y py] kt pt] (.Tuple [a, b] k2 pt2) pos.line X.env = pure false := by rfl) :
    JS X W (.Assign [.Tuple [.Name x px, .Name y py] kt pt] (.Tuple [a, b] k2 pt2) pos) (sPar i j fs) := by
  refine ps_imp (ps_par hc hN hi hj hij hx hy ha hw hs) fun E σ H h => ?_
  obtain ⟨m, st, ρ, rs, re, h⟩ := h
  refine sa_bind rs re h fun ds st1 m1 H1 vs r1 re1 mn rv h1 => ?_
  match ds, rv, h1 with
  | [d1, d2], rv, h1 =>
    obtain ⟨v, w, rfl, q1, q2⟩ := rvs2 rv
    exact ⟨v, w, rfl, h1 m1 H1 _ r1 Mn.refl ((re1.set q1).set q2)⟩
  | [], _, h1 => exact h1.elim
  | [_], _, h1 => exact h1.elim
  | _ :: _ :: _ :: _, _, h1 => exact h1.elim
theorem js_store (ho : JE X W a fo) (hi : JE X W b fi) (he : JE X W e fa)
    (hq : ∀ v, assign (.Subscript a b p) X.env v = (do
      let ov ← holding [v] (eval a X.env)
      let iv ← holding [v, ov] (eval b X.env)
      standAt p
      holding [v, ov, iv] (setItem ov iv v)
      release [v, ov, iv] []) := by intro _; rfl)
    (hs : swapsWithSole [.Subscript a b p] e pos.line X.env = pure false := by rfl) (hw : swappedStores [.Subscript a b p] e X.env = pure none := by rfl)
    (h1 : (assignEach [.Subscript a b p] X.env).map (·.2) = [assign (.Subscript a b p) X.env] := by rfl) : JS X W (.Assign [.Subscript a b p] e pos) (sStore fo fi fa) := by
  refine ps_imp (ps_asg he (pg_sub ho hi set_list hq) hs hw h1) fun E σ H h => ?_
  obtain ⟨m, st, ρ, rs, re, h⟩ := h
  refine se_bind rs re h fun d st1 m1 H1 v r1 re1 mn1 rv h1 => ?_
  refine se_bind r1 re1 h1 fun o st2 m2 H2 vo r2 re2 mn2 rvo h2 => ?_
  refine se_bind r2 re2 h2 fun k st3 m3 H3 vi r3 re3 mn3 rvi h3 => ?_
  have ro := mn3 _ _ rvo
  have rd := mn3 _ _ (mn2 _ _ rv)
  cases q : gStore o k d st3 with
  | none => simp only [q] at h3; exact h3.elim
  | some st4 =>
    simp only [q] at h3
    unfold gStore at q
    split at q
    · obtain ⟨_, rfl⟩ := ro
      cases rvi
      split at q
      · rename_i e0
        obtain ⟨j, e1, e2⟩ := Option.map_eq_some_iff.mp q
        obtain ⟨xs, g1, g2⟩ := r3.at_ _ _ e0
        cases e2
        obtain ⟨r4, mn4⟩ := r3.write e0 (RVs.set rd j g2)
        exact ⟨_, xs, _, j, rfl, rfl, g1, by rw [← RVs.len g2]; exact e1, h3 _ _ σ r4 mn4 (re3.mono mn4)⟩
      · cases q
    · cases q
end
/-! ### loops -/
section
variable {X : Cx} {W : Wc}
/-- over anything that yields the data ds one by one -/
theorem loop_ok {K : PySem.W.Frag} {mg : Str → Option Value} {J : It} {ds : List D} {d0 : D} {v0 : V} {chk : S → Bool} {g : FG} {body : FS} {E : Ends}
    (hJ : ∀ m st H, RS K m st H → RV K m st.length H d0 v0 → chk st = true →
      (∀ i d, ds[i]? = some d → J.go i H ∧ ∀ x H', J.yld i H x H' → ∃ m', RS K m' st H' ∧ Mn K m st.length H m' st.length H' ∧ RV K m' st.length H' d x) ∧ J.stop ds.length H)
    {m : Nat → Addr} {st : S} {ρ : En} {σ : L2.St} {H : Hp} (rs : RS K m st H) (re : RE W.gh K m st.length H ρ σ) (r0 : RV K m st.length H d0 v0) (h : MeetS K mg W m st.length H (sLoop chk g body ds ρ st) E) :
    ∃ Wd : Nat → Nat → L2.St → Hp → Prop, (∃ k, Wd 0 k σ H) ∧ ∀ i k σ H, Wd i k σ H → (J.stop i H ∧ E.nx σ H) ∨ (J.go i H ∧ ∃ N : L2.St → Hp → Prop, (∀ σ' H', N σ' H' → ∃ k', k' < k ∧ Wd (i + 1) k' σ' H') ∧ ∀ x H', J.yld i H x H' → rG K W g x σ H' fun σ2 H2 => rS K mg W body { E with nx := N, ct := N, bk := E.nx } σ2 H2) := by
  refine ⟨fun i k σ H => k = ds.length - i ∧ i ≤ ds.length ∧ ∃ m st ρ, RS K m st H ∧ RE W.gh K m st.length H ρ σ ∧ RV K m st.length H d0 v0 ∧ MeetS K mg W m st.length H (sLoop chk g body (ds.drop i) ρ st) E, ⟨_, rfl, Nat.zero_le _, m, st, ρ, rs, re, r0, h⟩, ?_⟩
  rintro i k σ H ⟨rfl, hi, m, st, ρ, rs, re, r0, h⟩
  by_cases hlt : i < ds.length
  · have e : ds.drop i = ds[i] :: ds.drop (i + 1) := List.drop_eq_getElem_cons hlt
    rw [e] at h
    unfold sLoop at h
    by_cases hc : chk st = true
    · rw [if_pos hc] at h
      have hd : ds[i]? = some ds[i] := List.getElem?_eq_getElem hlt
      obtain ⟨j1, j2⟩ := (hJ m st H rs r0 hc).1 i ds[i] hd
      refine .inr ⟨j1, fun σ' H' => ∃ m st ρ, RS K m st H' ∧ RE W.gh K m st.length H' ρ σ' ∧ RV K m st.length H' d0 v0 ∧ MeetS K mg W m st.length H' (sLoop chk g body (ds.drop (i + 1)) ρ st) E, fun σ' H' z => ⟨ds.length - (i + 1), by omega, rfl, hlt, z⟩, fun x H' y => ?_⟩
      obtain ⟨m', rs', mn', rv'⟩ := j2 x H' y
      have h := MeetS.later h mn'
      have re' := re.mono mn'
      have r0' := mn' _ _ r0
      cases q : g ds[i] st ρ with
      | none => rw [q] at h; exact h.elim
      | some ρ1 =>
        rw [q] at h
        refine ⟨m', st, ρ, ds[i], ρ1, rs', re', rv', q, fun σ1 re1 => ⟨m', st, ρ1, rs', re1, ?_⟩⟩
        cases b : body ρ1 st with
        | nx ρ2 st2 =>
          simp only [b] at h
          exact fun m2 H2 σ2 r2 mn2 re2 => ⟨m2, st2, ρ2, r2, re2, mn2 _ _ r0', MeetS.later h mn2⟩
        | ct ρ2 st2 =>
          simp only [b] at h
          exact fun m2 H2 σ2 r2 mn2 re2 => ⟨m2, st2, ρ2, r2, re2, mn2 _ _ r0', MeetS.later h mn2⟩
        | bk ρ2 st2 => simp only [b] at h; exact h
        | rt d st2 => simp only [b] at h; exact h
        | ex e ρ2 st2 => simp only [b] at h; exact h
        | bad => simp only [b] at h; exact h
    · rw [if_neg hc] at h; exact h.elim
  · have e : i = ds.length := by omega
    subst e
    rw [List.drop_length] at h
    unfold sLoop at h
    by_cases hc : chk st = true
    · rw [if_pos hc] at h
      exact .inl ⟨(hJ m st H rs r0 hc).2, h m H σ rs Mn.refl re⟩
    · rw [if_neg hc] at h; exact h.elim
/-- a list or a tuple, as it comes -/
def iSeq (K : PySem.W.Frag) (tl : TE) : TI := fun σ H R => tl σ H fun x H1 => (∃ a, x = .ref a ∧ (((∃ xs, SqL K H1 a xs) ∧ R (Itl K a) H1) ∨ ((∃ xs, SqT K H1 a xs) ∧ R (Itt K a) H1))) ∨ ∃ z, x = .str z ∧ R (Its z) H1
theorem pi_seq {tg l : Expr} {tl : TE} (hl : PE X l tl) : PI X tg l (iSeq X.K tl) := by
  refine ⟨fun pins s σ H R I h => ?_⟩
  refine thn (hl.run pins s σ H _ I h) fun v s1 hh => ?_
  obtain ⟨x, H1, I1, r1, hh⟩ := hh
  rcases hh.symm with ⟨z, rfl, q⟩ | ⟨a, rfl, h2⟩
  · obtain ⟨t, rfl⟩ := r1
    cases ha : z.cps.all (· < 128)
    · exact wpAny_pyIter_wide ha (pi_one (tk := s1.toks) I1 _ (turn_str _ z t "str_iterator" (.inr rfl)) ⟨_, Heap.get?_push_size _ rfl, rfl, rfl⟩ q)
    · exact wpAny_pyIter_ascii ha (pi_one (tk := s1.toks) I1 _ (turn_str _ z t "str_ascii_iterator" (.inl rfl)) ⟨_, Heap.get?_push_size _ rfl, rfl, rfl⟩ q)
  cases r1
  have fp : ∀ b ∈ [s1.heap.objs.size], FpOk X pins H1 b := fun b hb => by
    cases List.mem_singleton.mp hb
    exact I1.fpOk (Nat.le_refl _) (I1.hok.fresh (Nat.le_refl _))
  rcases h2 with ⟨⟨xs, hq⟩, q⟩ | ⟨⟨xs, hq⟩, q⟩
  · obtain ⟨its, rv, p, hz⟩ := I1.list hq
    exact wpAny_pyIter_list p.isList ⟨_, _, _, _, H1, rfl, I1.kept (t' := s1.toks) fun b o e => Heap.get?_push_of_some _ e, turn_list a _, ⟨_, Heap.get?_push_size _ rfl, rfl, rfl⟩, fp, q⟩
  · obtain ⟨its, rv, p, hz⟩ := I1.tuple hq
    exact wpAny_pyIter_tuple (show s1.heap.IsTuple a its.toArray from p) ⟨_, _, _, _, H1, rfl, I1.kept (t' := s1.toks) fun b o e => Heap.get?_push_of_some _ e, turn_tuple a _, ⟨_, Heap.get?_push_size _ rfl, rfl, rfl⟩, fp, q⟩
variable {tg e : Expr} {sts : List Stmt} {fe : FE} {fs : FA} {g : FG} {body : FS} {ft : FT} {pos p : Pos}
theorem js_for (hp : PassesOwn (model X.prog X.w) X.A X.env X.xe) (hc : X.calm = true) (he : JE X W e fe) (hg : JG X W tg g) (hb : JB X W sts body) (hs : ∀ x, foldedSetIterable e X.env x = pure x := by intro _; rfl) : JS X W (.For tg e sts [] pos) (sFor fe g body) := by
  refine ps_imp (ps_for hp hc (pi_seq he) hg hb hs) fun E σ H h => ?_
  obtain ⟨m, st, ρ, rs, re, h⟩ := h
  refine se_bind rs re h fun d st1 m1 H1 v r1 re1 mn rv h1 => ?_
  cases d with
  | tup ds =>
    have rv0 := rv
    obtain ⟨a, vs, rfl, q1, q2⟩ := rv
    refine .inl ⟨a, rfl, .inr ⟨⟨vs, q1⟩, loop_ok (d0 := .tup ds) (v0 := .ref a) (chk := fun _ => true) (fun m st H rs r0 _ => ?_) r1 re1 rv0 h1⟩⟩
    obtain ⟨a', ws, ea, q3, q4⟩ := r0
    cases ea
    refine ⟨fun i d hi => ?_, ⟨ws, q3, by rw [RVs.len q4]; exact Nat.le_refl _⟩⟩
    obtain ⟨x, g1, g2⟩ := RVs.get q4 hi
    refine ⟨⟨ws, x, q3, g1⟩, fun y H' yl => ?_⟩
    obtain ⟨rfl, yl⟩ := yl
    have := yl ws q3
    rw [g1] at this
    cases this
    exact ⟨m, rs, Mn.refl, g2⟩
  | loc n =>
    have rv0 := rv
    obtain ⟨hn, rfl⟩ := rv
    simp only at h1
    cases q : lstAt st1 n with
    | none => simp only [q] at h1; exact h1.elim
    | some ds =>
      simp only [q] at h1
      obtain ⟨vs, g1, g2, _⟩ := lstAt_ok r1 q
      refine .inl ⟨_, rfl, .inl ⟨⟨vs, g1⟩, loop_ok (d0 := .loc n) (v0 := .ref (m1 n)) (fun m st H rs r0 hc => ?_) r1 re1 rv0 h1⟩⟩
      obtain ⟨hn', ea⟩ := r0
      have ea' : m1 n = m n := V.ref.inj ea
      obtain ⟨ws, q3, q4, _⟩ := lstAt_ok rs (of_decide_eq_true hc)
      rw [← ea'] at q3
      refine ⟨fun i d hi => ?_, ⟨ws, q3, by rw [RVs.len q4]; exact Nat.le_refl _⟩⟩
      obtain ⟨x, g1, g2⟩ := RVs.get q4 hi
      refine ⟨⟨ws, x, q3, g1⟩, fun y H' yl => ?_⟩
      obtain ⟨rfl, yl⟩ := yl
      have := yl ws q3
      rw [g1] at this
      cases this
      exact ⟨m, rs, Mn.refl, g2⟩
  | str z =>
    obtain rfl : v = .str z := rv
    refine .inr ⟨z, rfl, loop_ok (d0 := .non) (v0 := .non) (chk := fun _ => true) (fun m st H rs r0 _ => ⟨fun i d hi => ?_, ?_⟩) r1 re1 rfl h1⟩
    · unfold signs at hi
      rw [List.getElem?_map] at hi
      obtain ⟨c, e1, e2⟩ := Option.map_eq_some_iff.mp hi
      rw [Array.getElem?_toList] at e1
      refine ⟨(Array.getElem?_eq_some_iff.mp e1).1, fun x H' y => ?_⟩
      obtain ⟨rfl, c', e3, rfl⟩ := y
      rw [e1] at e3
      cases e3
      subst e2
      exact ⟨m, rs, Mn.refl, rfl⟩
    · show z.cps.size ≤ (signs z).length
      unfold signs
      rw [List.length_map, Array.length_toList]
      exact Nat.le_refl _
  | _ => exact h1.elim
theorem rng_ok {K : PySem.W.Frag} {mg : Str → Option Value} {lo hi : Int} {E : Ends} {m : Nat → Addr} {st : S} {ρ : En} {σ : L2.St} {H : Hp} (rs : RS K m st H) (re : RE W.gh K m st.length H ρ σ) (h : MeetS K mg W m st.length H (sLoop (fun _ => true) g body (rangeD lo hi) ρ st) E) :
    ∃ Wd : Nat → Nat → L2.St → Hp → Prop, (∃ k, Wd 0 k σ H) ∧ ∀ i k σ H, Wd i k σ H → ((Itr lo (hi - lo).toNat).stop i H ∧ E.nx σ H) ∨ ((Itr lo (hi - lo).toNat).go i H ∧ ∃ N : L2.St → Hp → Prop, (∀ σ' H', N σ' H' → ∃ k', k' < k ∧ Wd (i + 1) k' σ' H') ∧ ∀ x H', (Itr lo (hi - lo).toNat).yld i H x H' → rG K W g x σ H' fun σ2 H2 => rS K mg W body { E with nx := N, ct := N, bk := E.nx } σ2 H2) := by
  refine loop_ok (d0 := .non) (v0 := .non) (fun m st H rs r0 _ => ⟨fun i d hi => ?_, ?_⟩) rs re rfl h
  · have hl := (List.getElem?_eq_some_iff.mp hi).1
    unfold rangeD at hi hl
    rw [List.length_map, List.length_range] at hl
    rw [List.getElem?_map, List.getElem?_range hl] at hi
    cases hi
    refine ⟨hl, fun x H' y => ?_⟩
    obtain ⟨rfl, rfl⟩ := y
    exact ⟨m, rs, Mn.refl, rfl⟩
  · show (hi - lo).toNat ≤ (rangeD lo hi).length
    unfold rangeD
    rw [List.length_map, List.length_range]
    exact Nat.le_refl _
theorem js_forR1 {a : Expr} {pos2 : Pos} (hp : PassesOwn (model X.prog X.w) X.A X.env X.xe) (hc : X.calm = true) (hgl : Gl X "range") (hm : X.mg "range" = none) (ha : JA X W [a] fs) (hg : JG X W tg g) (hb : JB X W sts body)
    (hst : starEach [a] X.env = [(false, eval a X.env)] := by rfl) (hs : ∀ x, foldedSetIterable (.Call (.Name "range" p) [a] [] pos) X.env x = pure x := by intro _; rfl) :
    JS X W (.For tg (.Call (.Name "range" p) [a] [] pos) sts [] pos2) (sForR1 fs g body) := by
  refine ps_imp (ps_for hp hc (pi_range1 hgl hm ha hst) hg hb hs) fun E σ H h => ?_
  obtain ⟨m, st, ρ, rs, re, h⟩ := h
  refine sa_bind rs re h fun ds st1 m1 H1 vs r1 re1 mn rv h1 => ?_
  by_cases hx : ∃ j, ds = [.int j]
  · obtain ⟨j, rfl⟩ := hx
    obtain ⟨v, rfl, rfl⟩ := rvs1 rv
    simp only at h1
    by_cases hj : Small62 j
    · rw [if_pos hj] at h1
      refine ⟨j, rfl, hj.1, hj.2, ?_⟩
      have z := rng_ok (lo := 0) (hi := j) r1 re1 h1
      rw [Int.sub_zero] at z
      exact z
    · rw [if_neg hj] at h1; exact h1.elim
  · exfalso
    revert h1
    split
    · exact fun _ => hx ⟨_, rfl⟩
    · exact fun h => h
theorem js_forR2 {a b : Expr} {pos2 : Pos} (hp : PassesOwn (model X.prog X.w) X.A X.env X.xe) (hc : X.calm = true) (hgl : Gl X "range") (hm : X.mg "range" = none) (ha : JA X W [a, b] fs) (hg : JG X W tg g) (hb : JB X W sts body)
    (hst : starEach [a, b] X.env = [(false, eval a X.env), (false, eval b X.env)] := by rfl) (hst2 : starEach [b] X.env = [(false, eval b X.env)] := by rfl) (hs : ∀ x, foldedSetIterable (.Call (.Name "range" p) [a, b] [] pos) X.env x = pure x := by intro _; rfl) :
    JS X W (.For tg (.Call (.Name "range" p) [a, b] [] pos) sts [] pos2) (sForR2 fs g body) := by
  refine ps_imp (ps_for hp hc (pi_range2 hgl hm ha hst hst2) hg hb hs) fun E σ H h => ?_
  obtain ⟨m, st, ρ, rs, re, h⟩ := h
  refine sa_bind rs re h fun ds st1 m1 H1 vs r1 re1 mn rv h1 => ?_
  by_cases hx : ∃ i j, ds = [.int i, .int j]
  · obtain ⟨i, j, rfl⟩ := hx
    obtain ⟨v, w, rfl, rfl, rfl⟩ := rvs2 rv
    simp only at h1
    by_cases hj : Small62 i ∧ Small62 j
    · rw [if_pos hj] at h1
      exact ⟨i, j, rfl, ⟨hj.1.1, hj.1.2, hj.2.1, hj.2.2⟩, rng_ok r1 re1 h1⟩
    · rw [if_neg hj] at h1; exact h1.elim
  · exfalso
    revert h1
    split
    · exact fun _ => hx ⟨_, _, rfl⟩
    · exact fun h => h
theorem js_while (hp : PassesOwn (model X.prog X.w) X.A X.env X.xe) (ht : JT X W e ft) (hb : JB X W sts body) : JS X W (.While e sts [] pos) (sWhile ft body) := by
  refine ps_imp (ps_while hp ht hb) fun E σ H h => ?_
  obtain ⟨m, st, ρ, rs, re, h⟩ := h
  have hn : ∃ n, sWhile ft body ρ st = sWh ft body n ρ st := by
    unfold sWhile
    by_cases ex : ∃ n, sWh ft body n ρ st ≠ .bad
    · exact ⟨_, by rw [dif_pos ex]⟩
    · exact ⟨0, by rw [dif_neg ex]; rfl⟩
  obtain ⟨n, e⟩ := hn
  rw [e] at h
  refine ⟨fun n σ H => ∃ m st ρ, RS X.K m st H ∧ RE W.gh X.K m st.length H ρ σ ∧ MeetS X.K X.mg W m st.length H (sWh ft body n ρ st) E, ⟨n, m, st, ρ, rs, re, h⟩, ?_⟩
  rintro k σ H ⟨m, st, ρ, rs, re, h⟩
  cases k with
  | zero => exact h.elim
  | succ k =>
    unfold sWh at h
    refine st_bind rs re h fun c st1 m1 H1 r1 re1 mn h1 => ?_
    cases c with
    | false => rw [if_neg Bool.false_ne_true] at h1 ⊢; exact h1 m1 H1 σ r1 Mn.refl re1
    | true =>
      rw [if_pos rfl] at h1 ⊢
      refine ⟨fun σ H => ∃ m st ρ, RS X.K m st H ∧ RE W.gh X.K m st.length H ρ σ ∧ MeetS X.K X.mg W m st.length H (sWh ft body k ρ st) E, fun σ' H' z => ⟨k, Nat.lt_succ_self _, z⟩, m1, st1, ρ, r1, re1, ?_⟩
      cases b : body ρ st1 with
      | nx ρ2 st2 =>
        simp only [b] at h1
        exact fun m2 H2 σ2 r2 mn2 re2 => ⟨m2, st2, ρ2, r2, re2, MeetS.later h1 mn2⟩
      | ct ρ2 st2 =>
        simp only [b] at h1
        exact fun m2 H2 σ2 r2 mn2 re2 => ⟨m2, st2, ρ2, r2, re2, MeetS.later h1 mn2⟩
      | bk ρ2 st2 => simp only [b] at h1; exact h1
      | rt d st2 => simp only [b] at h1; exact h1
      | ex e ρ2 st2 => simp only [b] at h1; exact h1
      | bad => simp only [b] at h1; exact h1
end
end MP

set_option Elab.async false
set_option linter.all false
set_option maxRecDepth 100000
set_option maxHeartbeats 4000000
namespace MP
open PySem L2 PyProof.Rows StX

/-! ### defs: their denotation, what they promise -/
def den (n : Nat) (f : FS) : List D → S → Out D := fun ds st => match f (ds.map some ++ List.replicate (n - ds.length) none) st with
  | .rt d st' => .ok d st'
  | .nx _ st' => .ok .non st'
  | .ex e _ st' => .exc e st'
  | _ => .bad
/-- n arguments, no other number -/
def arN (n : Nat) (g : List D → S → Out D) : List D → S → Out D := fun ds st => if ds.length = n then g ds st else .bad
def spG (K : PySem.W.Frag) (mg : Str → Option Value) (g : List D → S → Out D) : Sp := fun vs H Q E => ∃ m st ds, RS K m st H ∧ RVs K m st.length H ds vs ∧
  Meet K mg m st.length H (g ds st) (fun d st' m' H' => ∀ v, RV K m' st'.length H' d v → Q v H') E
theorem spG_len {K : PySem.W.Frag} {mg : Str → Option Value} {n : Nat} {g : List D → S → Out D} {vs : List V} {H : Hp} {Q : VK} {E : XK} (h : spG K mg (arN n g) vs H Q E) : vs.length = n := by
  obtain ⟨m, st, ds, rs, rv, h⟩ := h
  unfold arN at h
  by_cases hl : ds.length = n
  · rw [← RVs.len rv]; exact hl
  · rw [if_neg hl] at h; exact h.elim
theorem spG_arN {K : PySem.W.Frag} {mg : Str → Option Value} {n : Nat} {g : List D → S → Out D} {vs : List V} {H : Hp} {Q : VK} {E : XK} (h : spG K mg (arN n g) vs H Q E) : spG K mg g vs H Q E := by
  obtain ⟨m, st, ds, rs, rv, h⟩ := h
  refine ⟨m, st, ds, rs, rv, ?_⟩
  unfold arN at h
  by_cases hl : ds.length = n
  · rw [if_pos hl] at h; exact h
  · rw [if_neg hl] at h; exact h.elim
/-- the wish of a def's body -/
abbrev wcE (E : XK) : Wc := { W := fun cls d _ H => E cls d H }
theorem re_start {K : PySem.W.Frag} {m : Nat → Addr} {n : Nat} {H : Hp} : ∀ {ds : List D} {vs : List V} (k : Nat), RVs K m n H ds vs → RE [] K m n H (ds.map some ++ List.replicate k none) (vs.map some ++ List.replicate k none) := by
  intro ds vs k h
  have l := RVs.len h
  refine ⟨by simp [l], fun i d e => ?_, fun p hp => nomatch hp⟩
  by_cases hi : i < ds.length
  · rw [List.getElem?_append_left (by simpa using hi), List.getElem?_map] at e
    obtain ⟨d', e1, e2⟩ := Option.map_eq_some_iff.mp e
    cases e2
    obtain ⟨v, h1, h2⟩ := RVs.get h e1
    refine ⟨v, ?_, h2⟩
    rw [List.getElem?_append_left (by rw [List.length_map, ← l]; exact hi), List.getElem?_map, h1]
    rfl
  · rw [List.getElem?_append_right (by simpa using hi), List.getElem?_replicate] at e
    split at e <;> cases e
/-- the body's denotation gives the def's reading -/
theorem body_reads {K : PySem.W.Frag} {mg : Str → Option Value} {N : List Str} {n : Nat} {f : FS} {vs : List V} {H : Hp} {Q : VK} {E : XK} (h : spG K mg (arN n (den N.length f)) vs H Q E) :
    rS K mg (wcE E) f { nx := fun _ H' => Q .non H', rt := Q } (L2.start N vs) H := by
  obtain ⟨m, st, ds, rs, rv, h⟩ := spG_arN h
  refine ⟨m, st, ds.map some ++ List.replicate (N.length - ds.length) none, rs, ?_, ?_⟩
  · have z := re_start (N.length - ds.length) rv
    unfold L2.start
    rw [← RVs.len rv]
    exact z
  · unfold den at h
    cases q : f (ds.map some ++ List.replicate (N.length - ds.length) none) st with
    | nx ρ st' => simp only [q] at h; exact fun m' H' σ r mn _ => h m' H' r mn .non rfl
    | rt d st' => simp only [q] at h; exact fun m' H' v r mn rv => h m' H' r mn v rv
    | bk ρ st' => simp only [q] at h; exact h.elim
    | ct ρ st' => simp only [q] at h; exact h.elim
    | ex e ρ st' => simp only [q] at h; exact fun m' H' σ cls od r mn _ rx => h m' H' cls od r mn rx
    | bad => simp only [q] at h; exact h
section
variable {P : Program} {w : World} {K : PySem.W.Frag} {mg : Str → Option Value} {base : Heap} {x qual : Str} {params : Arguments} {body : List Stmt} {scope : Scope} {dvs : List V} {kws : List (Str × V)} {f : Addr} {fd : FuncData}
theorem def_ok {N ps : List Str} {k : Nat} {g : FS} (F : FunD K x qual params body scope dvs kws f fd) (Sc : FnScope N ps scope)
    (hb : ∀ (cdv : Value) (A : Around) (outer : List PySem.Env) (s : Shared) (H : Hp) (E : XK), Room k (A.deeper (envOfC qual scope s.heap.objs.size f cdv)) →
      JB (cxOf (L2N.CX P w) P w K mg base N qual scope f cdv A outer s H E) (wcE E) body g) :
    FnOk P w K mg base (L2N.CX P w) (k + 1) f fd ps (spG K mg (arN ps.length (den N.length g))) :=
  F.ok Sc (fun vs H Q E h => spG_len h) fun cdv A outer s H vs Q E hr h => ⟨_, hb cdv A outer s H E hr, body_reads h⟩
theorem def_okH {N ps : List Str} {k : Nat} {g : FS} (F : FunD K x qual params body scope dvs kws f fd) (Sc : FnScope N ps scope)
    (hb : ∀ (cdv : Value) (A : Around) (outer : List PySem.Env) (s : Shared) (H : Hp) (E : XK) (p : Addr × Obj), L2H.Hot1 A p → L2H.RoomH k (A.deeper (envOfC qual scope s.heap.objs.size f cdv)) →
      JB (L2H.cxH (L2N.CX P w) P w K mg base N qual scope f cdv A outer s H E p) (wcE E) body g) :
    L2H.FnH P w K mg base (L2N.CX P w) (k + 1) f fd ps (spG K mg (arN ps.length (den N.length g))) := by
  obtain ⟨oc, od, dV, kV, doc, pm, an, cdv, ct, osl, rfl, lk, hcd, _, _⟩ := F.ex
  exact L2H.fn_ofH lk hcd Sc (fun vs H Q E h => spG_len h) fun A outer s H vs Q E p hot hr h => ⟨_, hb cdv A outer s H E p hot hr, body_reads h⟩
end

/-! ### calls -/
/-- room for a call: within an except suite (hot) or not -/
def Temp (hot : Bool) (k : Nat) (A : Around) (outer : List PySem.Env) (H : Hp) (s : Shared) : Prop := match hot with
  | false => Room k A
  | true => L2H.RoomH k A ∧ ∃ p, L2H.Hot1 A p ∧ L2H.PinOk outer H s p
def TempX (hot : Bool) (k : Nat) (X : Cx) : Prop := match hot with
  | false => Room k X.A
  | true => L2H.RoomH k X.A ∧ L2H.HotC X
theorem TempX.at {hot : Bool} {k : Nat} {X : Cx} {pins : List (Addr × Obj)} {σ : L2.St} {H : Hp} {s : Shared} (t : TempX hot k X) (I : Inv X pins σ H s) : Temp hot k X.A X.stack H s := by
  cases hot with
  | false => exact t
  | true =>
    obtain ⟨r, p, ht, hp⟩ := t
    have P1 := I.pin p (List.mem_append_left _ hp)
    exact ⟨r, p, ht, P1.1, P1.2.1, fun hm => (List.mem_cons.mp (I.stkSub p.1 hm)).elim P1.2.2.1 P1.2.2.2.1, P1.2.2.2.2⟩
theorem TempX.mono {hot : Bool} {j k : Nat} {X : Cx} (t : TempX hot k X) (h : j ≤ k) : TempX hot j X := by
  cases hot with
  | false => exact Room.mono t h
  | true => exact ⟨t.1.mono h, t.2⟩
/-- f called with positional values and the keywords ks does as g says of all these values -/
def Rn (hot : Bool) (P : Program) (w : World) (K : PySem.W.Frag) (mg : Str → Option Value) (base : Heap) (k : Nat) (f : Addr) (ks : List Str) (g : List D → S → Out D) : Prop :=
  ∀ (A : Around) (outer : List PySem.Env) (s : Shared) (H : Hp) (us ws : List Value) (vs zs : List V) (Q : VK) (E : XK), Temp hot k A outer H s → Env0 P w K mg base A outer s H → Vals vs us → Vals zs ws → ws.length = ks.length → spG K mg g (vs ++ zs) H Q E →
    codeAny (model P w) A (.call (.ref f) ⟨us, ks.zip ws⟩) (CR (L2N.CX P w) outer P w H s Q E) s
structure DefOk (hot : Bool) (P : Program) (w : World) (K : PySem.W.Frag) (mg : Str → Option Value) (base : Heap) (x : Str) (ks : List Str) (k : Nat) (g : List D → S → Out D) : Prop where
  ex : ∃ f, mg x = some (.ref f) ∧ PySem.W.keepIn K (.ref f) = true ∧ Rn hot P w K mg base k f ks g
section
variable {P : Program} {w : World} {K : PySem.W.Frag} {mg : Str → Option Value} {base : Heap} {k : Nat} {f : Addr} {fd : FuncData} {ps : List Str} {n : Nat} {g : List D → S → Out D}
theorem FnOk.temp {hot : Bool} {sp : Sp} (h : match hot with | false => FnOk P w K mg base (L2N.CX P w) k f fd ps sp | true => L2H.FnH P w K mg base (L2N.CX P w) k f fd ps sp)
    (A : Around) (outer : List PySem.Env) (s : Shared) (H : Hp) (args : Args) (us : List Value) (vs : List V) (Q : VK) (E : XK) (t : Temp hot k A outer H s) (e0 : Env0 P w K mg base A outer s H) (hb : BindsTo s fd args (ps.zip us)) (r : Vals vs us) (hs : sp vs H Q E) :
    codeAny (model P w) A (.call (.ref f) args) (CR (L2N.CX P w) outer P w H s Q E) s := by
  cases hot with
  | false => exact h.run A outer s H args us vs Q E t e0 hb r hs
  | true =>
    obtain ⟨r1, p, h1, h2⟩ := t
    exact h.run A outer s H args us vs Q E p r1 h1 h2 e0 hb r hs
/-- positional, no defaults -/
theorem rn_pos {hot : Bool} (h : match hot with | false => FnOk P w K mg base (L2N.CX P w) k f fd ps (spG K mg (arN n g)) | true => L2H.FnH P w K mg base (L2N.CX P w) k f fd ps (spG K mg (arN n g))) (hn : ps.length = n) (hb : Binds K fd ps []) : Rn hot P w K mg base k f [] (arN n g) := by
  intro A outer s H us ws vs zs Q E t e0 r rz hl hs
  have ez : ws = [] := List.length_eq_zero_iff.mp hl
  subst ez
  cases rz
  have KX : K.In s.heap := e0.mod.kin.keeps fun b o e => (e0.bs b o e).1
  rw [List.append_nil] at hs
  have l := spG_len hs
  have b := hb s us KX (by rw [List.append_nil, ← r.length, l, hn])
  rw [List.append_nil] at b
  exact FnOk.temp h A outer s H ⟨us, []⟩ us vs Q E t e0 b r hs
/-- the arguments filled up by defaults -/
def withD (n : Nat) (dds : List D) (g : List D → S → Out D) : List D → S → Out D := fun ds st =>
  if n - dds.length ≤ ds.length ∧ ds.length ≤ n then g (ds ++ dds.drop (ds.length - (n - dds.length))) st else .bad
theorem rn_dfl {hot : Bool} {dds : List D} {dvs : List V} (h : match hot with | false => FnOk P w K mg base (L2N.CX P w) k f fd ps (spG K mg (arN n g)) | true => L2H.FnH P w K mg base (L2N.CX P w) k f fd ps (spG K mg (arN n g))) (hn : ps.length = n) (hd : dds.length ≤ n)
    (hr : ∀ (m : Nat → Addr) (j : Nat) (H : Hp), RVs K m j H dds dvs) (hb : ∀ j, j ≤ dds.length → ∃ ds, Vals (dvs.drop j) ds ∧ Binds K fd ps ds) : Rn hot P w K mg base k f [] (withD n dds (arN n g)) := by
  intro A outer s H us ws vs zs Q E t e0 r rz hl hs
  have ez : ws = [] := List.length_eq_zero_iff.mp hl
  subst ez
  cases rz
  have KX : K.In s.heap := e0.mod.kin.keeps fun b o e => (e0.bs b o e).1
  rw [List.append_nil] at hs
  obtain ⟨m, st, ds, rs, rv, hm⟩ := hs
  unfold withD at hm
  by_cases hc : n - dds.length ≤ ds.length ∧ ds.length ≤ n
  · rw [if_pos hc] at hm
    obtain ⟨xs, rx, b⟩ := hb (ds.length - (n - dds.length)) (by omega)
    have sp : spG K mg (arN n g) (vs ++ dvs.drop (ds.length - (n - dds.length))) H Q E := ⟨m, st, _, rs, RVs.app rv (RVs.drop _ (hr _ _ _)), hm⟩
    have l := spG_len sp
    have r2 : Vals (vs ++ dvs.drop (ds.length - (n - dds.length))) (us ++ xs) := r.append rx
    exact FnOk.temp h A outer s H ⟨us, []⟩ (us ++ xs) _ Q E t e0 (b s us KX (by rw [← r2.length, l, hn])) r2 sp
  · rw [if_neg hc] at hm; exact hm.elim
/-- keywords: sel tells for each parameter its place among the positional values, the keywords' values, the defaults -/
def pick {α : Type} (sel : List Nat) (l : List α) : List α := sel.filterMap fun i => l[i]?
theorem pick_vals {sel : List Nat} {vs : List V} {us : List Value} (r : Vals vs us) : Vals (pick sel vs) (pick sel us) := by
  induction sel with
  | nil => exact .nil
  | cons i sel ih =>
    unfold pick
    rw [List.filterMap_cons, List.filterMap_cons]
    cases e : vs[i]? with
    | none => rw [r.none_of e]; exact ih
    | some v =>
      obtain ⟨u, h1, h2⟩ := r.get e
      rw [h1]
      exact .cons h2 ih
theorem pick_rvs {K : PySem.W.Frag} {m : Nat → Addr} {n : Nat} {H : Hp} {sel : List Nat} {ds : List D} {vs : List V} (r : RVs K m n H ds vs) : RVs K m n H (pick sel ds) (pick sel vs) := by
  induction sel with
  | nil => exact rfl
  | cons i sel ih =>
    unfold pick
    rw [List.filterMap_cons, List.filterMap_cons]
    cases e : ds[i]? with
    | none =>
      have : vs[i]? = none := by
        rw [List.getElem?_eq_none_iff] at e ⊢
        rw [← RVs.len r]; exact e
      rw [this]
      exact ih
    | some d =>
      obtain ⟨v, h1, h2⟩ := RVs.get r e
      rw [h1]
      exact ⟨v, _, rfl, h2, ih⟩
def withK (np : Nat) (dds : List D) (sel : List Nat) (g : List D → S → Out D) : List D → S → Out D := fun ds st => if ds.length = np then g (pick sel (ds ++ dds)) st else .bad
theorem rn_kw {hot : Bool} {dds : List D} {dvs : List V} {dus : List Value} {ks : List Str} {np : Nat} {sel : List Nat} (h : match hot with | false => FnOk P w K mg base (L2N.CX P w) k f fd ps (spG K mg (arN n g)) | true => L2H.FnH P w K mg base (L2N.CX P w) k f fd ps (spG K mg (arN n g))) (hn : ps.length = n)
    (hr : ∀ (m : Nat → Addr) (j : Nat) (H : Hp), RVs K m j H dds dvs) (hv : Vals dvs dus) (hb : ∀ (s : Shared) (us ws : List Value), K.In s.heap → us.length + ws.length = np → ws.length = ks.length → BindsTo s fd ⟨us, ks.zip ws⟩ (ps.zip (pick sel (us ++ ws ++ dus)))) : Rn hot P w K mg base k f ks (withK np dds sel (arN n g)) := by
  intro A outer s H us ws vs zs Q E t e0 r rz hl hs
  have KX : K.In s.heap := e0.mod.kin.keeps fun b o e => (e0.bs b o e).1
  obtain ⟨m, st, ds, rs, rv, hm⟩ := hs
  unfold withK at hm
  by_cases hc : ds.length = np
  · rw [if_pos hc] at hm
    have sp : spG K mg (arN n g) (pick sel (vs ++ zs ++ dvs)) H Q E := ⟨m, st, _, rs, pick_rvs (RVs.app rv (hr _ _ _)), hm⟩
    have r2 : Vals (pick sel (vs ++ zs ++ dvs)) (pick sel (us ++ ws ++ dus)) := pick_vals ((r.append rz).append hv)
    refine FnOk.temp h A outer s H ⟨us, ks.zip ws⟩ _ _ Q E t e0 (hb s us ws KX ?_ hl) r2 sp
    have l := RVs.len rv
    rw [List.length_append] at l
    rw [← r.length, ← rz.length, ← l, hc]
  · rw [if_neg hc] at hm; exact hm.elim
end
theorem Rn.mono {hot : Bool} {P : Program} {w : World} {K : PySem.W.Frag} {mg : Str → Option Value} {base : Heap} {j k : Nat} {f : Addr} {ks : List Str} {g : List D → S → Out D} (h : Rn hot P w K mg base j f ks g) (hk : j ≤ k) : Rn hot P w K mg base k f ks g := by
  intro A outer s H us ws vs zs Q E t
  refine h A outer s H us ws vs zs Q E ?_
  cases hot with
  | false => exact Room.mono t hk
  | true => exact ⟨t.1.mono hk, t.2⟩
section
variable {X : Cx} {W : Wc} {x : Str} {k : Nat} {ks : List Str} {g : List D → S → Out D} {p pos : Pos} {e : Expr} {es : List Expr} {kws : List Keyword} {fs fk : FA} {hot : Bool}
theorem run_rn {pins : List (Addr × Obj)} {σ : L2.St} {H : Hp} {s : Shared} {Q : VK} {f : Addr} {us ws : List Value} {vs zs : List V} (F : Rn hot X.prog X.w X.K X.mg X.base k f ks g) (hr : TempX hot k X) (tk : L2N.Takes X W.W)
    (I : Inv X pins σ H s) (r : Vals vs us) (rz : Vals zs ws) (hl : ws.length = ks.length) (h : spG X.K X.mg g (vs ++ zs) H Q (WE W.W σ)) : wpAny (model X.prog X.w) X.A (call (.ref f) us (ks.zip ws)) (EP X pins σ Q) X.xe s := by
  refine wpAny_call (codeAny_mono (F X.A X.stack s H us ws vs zs Q (WE W.W σ) (hr.at I) I.env0 r rz hl h) fun r s' hq => ?_)
  cases r with
  | error e => exact L2N.passAt tk σ pins H s e s' I hq
  | ok fl =>
    cases fl with
    | ret u => exact I.after hq
    | next => exact False.elim hq
    | brk => exact False.elim hq
    | cont => exact False.elim hq
theorem call_imp {σ : L2.St} {H : Hp} {Q : VK} (h : rE X.K X.mg W (fCall g fs) σ H Q) : rA X.K X.mg W fs σ H fun vs H1 => spG X.K X.mg g vs H1 Q (WE W.W σ) := by
  obtain ⟨m, st, ρ, rs, re, h⟩ := h
  exact ra_bind (k := fun ds st1 ρ => g ds st1) rs re h fun ds st1 m1 H1 v r1 re1 mn rv h1 => ⟨m1, st1, ds, r1, rv, h1⟩
/-- f(e, ..) -/
theorem je_call (c : DefOk hot X.prog X.w X.K X.mg X.base x [] k g) (hr : TempX hot k X) (tk : L2N.Takes X W.W) (hg : Gl X x) (ha : JA X W (e :: es) fs) (hdb : (x == ("__debug__" : Str)) = false := by decide)
    (he : starEach (e :: es) X.env = (false, eval e X.env) :: starEach es X.env := by rfl) (hpl : (backTo pos (starEach es X.env)).any (·.1) = false := by rfl) : JE X W (.Call (.Name x p) (e :: es) [] pos) (fCall g fs) := by
  obtain ⟨f, hm, hk, F⟩ := c.ex
  refine ⟨fun pins s σ H Q I h => ?_⟩
  refine wpAny_Call_Name_kw (ld_glob I hg hm ?_ hdb)
  refine PySem.W.callWith_K (h₀ := X.base) I.ok.mod.kin hk (thn (ha.run pos pins s σ H _ I (call_imp h)) fun us s1 hh => ?_) he hpl
  obtain ⟨vs, H1, I1, r, q⟩ := hh
  exact ⟨I1.kIn, run_rn (us := us) (ws := []) (zs := []) F hr tk I1 r .nil rfl (by rw [List.append_nil]; exact q)⟩
/-- f() -/
theorem je_call0 (c : DefOk hot X.prog X.w X.K X.mg X.base x [] k g) (hr : TempX hot k X) (tk : L2N.Takes X W.W) (hg : Gl X x) (hdb : (x == ("__debug__" : Str)) = false := by decide) : JE X W (.Call (.Name x p) [] [] pos) (fCall g fNil) := by
  obtain ⟨f, hm, hk, F⟩ := c.ex
  refine ⟨fun pins s σ H Q I h => ?_⟩
  refine wpAny_Call_Name_kw (ld_glob I hg hm ?_ hdb)
  obtain ⟨m, st, ρ, rs, re, h⟩ := h
  exact PySem.W.callWith_K0 I.kIn hk (run_rn (us := []) (ws := []) (vs := []) (zs := []) F hr tk I .nil .nil rfl ⟨m, st, [], rs, rfl, h⟩)
/-- keywords' values -/
abbrev JK (X : Cx) (W : Wc) (kws : List Keyword) (f : FA) : Prop := PK X kws (rA X.K X.mg W f)
theorem pk_imp {t t' : TA} (h : PK X kws t) (hi : ∀ σ H Q, t' σ H Q → t σ H Q) : PK X kws t' := ⟨fun pos pins s σ H Q I hw => h.run pos pins s σ H Q I (hi σ H Q hw)⟩
theorem jk_nil : JK X W [] fNil := pk_imp pk_nil fun σ H Q ⟨m, st, ρ, rs, re, h⟩ => h m H rs Mn.refl [] rfl
theorem jk_cons {nm : Option Str} {kpos : Pos} {fa : FE} (ha : JE X W e fa) (hr : JK X W kws fs) : JK X W (⟨nm, e, kpos⟩ :: kws) (fCons fa fs) :=
  pk_imp (pk_cons ha hr) fun σ H Q h => by
    obtain ⟨m, st, ρ, rs, re, h⟩ := h
    refine re_bind (k := fun x st1 ρ => (fs ρ st1).bind fun xs st2 => .ok (x :: xs) st2) rs re h fun x st1 m1 H1 v1 r1 re1 mn1 rv1 h1 => ?_
    refine ra_bind (k := fun xs st2 ρ => .ok (x :: xs) st2) r1 re1 h1 fun xs st2 m2 H2 v2 r2 re2 mn2 rv2 h2 => ?_
    exact h2 m2 H2 r2 Mn.refl _ ⟨_, _, rfl, mn2 _ _ rv1, rv2⟩
def fApp (a b : FA) : FA := fun ρ st => (a ρ st).bind fun xs st1 => (b ρ st1).bind fun ys st2 => .ok (xs ++ ys) st2
theorem callk_imp {σ : L2.St} {H : Hp} {Q : VK} (h : rE X.K X.mg W (fCall g (fApp fs fk)) σ H Q) : rA X.K X.mg W fs σ H fun vs H1 => rA X.K X.mg W fk σ H1 fun zs H2 => spG X.K X.mg g (vs ++ zs) H2 Q (WE W.W σ) := by
  obtain ⟨m, st, ρ, rs, re, h⟩ := h
  have e : fCall g (fApp fs fk) ρ st = (fs ρ st).bind fun xs st1 => (fk ρ st1).bind fun ys st2 => g (xs ++ ys) st2 := by
    unfold fCall fApp
    cases fs ρ st with
    | ok xs st1 => simp only [Out.bind_ok]; cases fk ρ st1 <;> rfl
    | exc _ _ => rfl
    | bad => rfl
  rw [e] at h
  refine ra_bind (k := fun xs st1 ρ => (fk ρ st1).bind fun ys st2 => g (xs ++ ys) st2) rs re h fun xs st1 m1 H1 v1 r1 re1 mn1 rv1 h1 => ?_
  refine ra_bind (k := fun ys st2 ρ => g (xs ++ ys) st2) r1 re1 h1 fun ys st2 m2 H2 v2 r2 re2 mn2 rv2 h2 => ?_
  exact ⟨m2, st2, _, r2, RVs.app (mn2.all rv1) rv2, h2⟩
theorem AP.zs_len {pins : List (Addr × Obj)} {σ : L2.St} {Q : List V → Hp → Prop} {us : List Value} {s : Shared} (h : AP X pins σ Q us s) : ∃ vs H, Inv X pins σ H s ∧ Vals vs us ∧ Q vs H := h
/-- f(e, .., k = v, ..) -/
theorem je_callK {nk : Nat} (c : DefOk hot X.prog X.w X.K X.mg X.base x ks k g) (hr : TempX hot k X) (tk : L2N.Takes X W.W) (hg : Gl X x) (ha : JA X W (e :: es) fs) (hkw : JK X W kws fk) (hfl : FLen fk ks.length)
    (hall : (backToKw pos (keywordEach kws X.env)).all (·.1.isSome) = true := by rfl) (hks : (backToKw pos (keywordEach kws X.env)).filterMap (·.1) = ks := by rfl)
    (hdb : (x == ("__debug__" : Str)) = false := by decide) (he : starEach (e :: es) X.env = (false, eval e X.env) :: starEach es X.env := by rfl)
    (hpl : ((backTo pos (starEach (e :: es) X.env)).any (·.1) || (backToKw pos (keywordEach kws X.env)).any (·.1.isNone)) = false := by rfl) : JE X W (.Call (.Name x p) (e :: es) kws pos) (fCall g (fApp fs fk)) := by
  obtain ⟨f, hm, hk, F⟩ := c.ex
  refine ⟨fun pins s σ H Q I h => ?_⟩
  refine wpAny_Call_Name_kw (ld_glob I hg hm ?_ hdb)
  refine PySem.W.callWith_KW (h₀ := X.base) I.ok.mod.kin hk hall (thn (ha.run pos pins s σ H _ I (callk_imp h)) fun us s1 hh => ?_) hpl he
  obtain ⟨vs, H1, I1, r, q⟩ := hh
  have q' : rA X.K X.mg W fk σ H1 fun zs H2 => zs.length = ks.length ∧ spG X.K X.mg g (vs ++ zs) H2 Q (WE W.W σ) := by
    obtain ⟨m, st, ρ, rs, re, q⟩ := q
    refine ⟨m, st, ρ, rs, re, ?_⟩
    cases e : fk ρ st with
    | ok ds st1 => rw [e] at q; exact fun m1 H1 r1 mn zs rv => ⟨by rw [← RVs.len rv]; exact hfl _ _ _ _ e, q m1 H1 r1 mn zs rv⟩
    | exc _ _ => rw [e] at q; exact q
    | bad => rw [e] at q; exact q
  refine thn (hkw.run pos pins s1 σ H1 _ I1 q') fun ws s2 hh => ?_
  obtain ⟨zs, H2, I2, rz, l, q2⟩ := hh
  refine ⟨I2.kIn, ?_⟩
  rw [hks]
  exact run_rn F hr tk I2 r rz (by rw [← rz.length]; exact l) q2
/-- f(k = v, ..) -/
theorem je_callK0 (c : DefOk hot X.prog X.w X.K X.mg X.base x ks k g) (hr : TempX hot k X) (tk : L2N.Takes X W.W) (hg : Gl X x) (hkw : JK X W kws fk) (hfl : FLen fk ks.length)
    (hall : (backToKw pos (keywordEach kws X.env)).all (·.1.isSome) = true := by rfl) (hks : (backToKw pos (keywordEach kws X.env)).filterMap (·.1) = ks := by rfl)
    (hdb : (x == ("__debug__" : Str)) = false := by decide)
    (hpl : ((backTo pos (starEach [] X.env)).any (·.1) || (backToKw pos (keywordEach kws X.env)).any (·.1.isNone)) = false := by rfl) : JE X W (.Call (.Name x p) [] kws pos) (fCall g fk) := by
  obtain ⟨f, hm, hk, F⟩ := c.ex
  refine ⟨fun pins s σ H Q I h => ?_⟩
  refine wpAny_Call_Name_kw (ld_glob I hg hm ?_ hdb)
  have q' : rA X.K X.mg W fk σ H fun zs H2 => zs.length = ks.length ∧ spG X.K X.mg g zs H2 Q (WE W.W σ) := by
    obtain ⟨m, st, ρ, rs, re, q⟩ := call_imp h
    refine ⟨m, st, ρ, rs, re, ?_⟩
    cases e : fk ρ st with
    | ok ds st1 => rw [e] at q; exact fun m1 H1 r1 mn zs rv => ⟨by rw [← RVs.len rv]; exact hfl _ _ _ _ e, q m1 H1 r1 mn zs rv⟩
    | exc _ _ => rw [e] at q; exact q
    | bad => rw [e] at q; exact q
  refine PySem.W.callWith_KW0 (h₀ := X.base) I.ok.mod.kin hk hall (thn (hkw.run pos pins s σ H _ I q') fun ws s2 hh => ?_) hpl
  obtain ⟨zs, H2, I2, rz, l, q2⟩ := hh
  refine ⟨I2.kIn, ?_⟩
  rw [hks]
  exact run_rn (us := []) (vs := []) F hr tk I2 .nil rz (by rw [← rz.length]; exact l) q2
end
/-! ### defs with a star parameter -/
section
theorem cxUpN {P : Program} {w : World} : CXUp (L2N.CX P w) := by
  intro outer s H s2 H2 E e s' un k os h
  obtain ⟨a, B, H', cls, d, rfl, fl, hok, ub, na, os', ag, hE⟩ := h
  refine ⟨a, B, H', cls, d, rfl, fl, hok, ⟨fun b o e n hb => ?_, fun b o e hb => ?_, fun b o e n => ?_, fun b o e hb => ?_, fun b xs e => ub.tups b xs (un.tups b xs e), fun b o xs e => ub.frzs b o xs (un.frzs b o xs e), fun b ps e => ?_⟩, na, os'.trans os, ag, hE⟩
  · exact ub.keep b o (k b o e) (un.free b o e n (by simp)) hb
  · exact ub.slot b o (k b o e) hb
  · exact ub.free b o (k b o e) (un.free b o e n (by simp))
  · exact ub.there b o (k b o e) hb
  · obtain ⟨m1, e1⟩ := un.tbls b ps e
    obtain ⟨m2, e2⟩ := ub.tbls b _ e1
    exact ⟨m1 ++ m2, by rw [e2, Array.append_assoc]⟩
variable {P : Program} {w : World} {K : PySem.W.Frag} {mg : Str → Option Value} {base : Heap} {x qual : Str} {params : Arguments} {body : List Stmt} {scope : Scope} {f : Addr} {fd : FuncData}
/-- n parameters, then the rest as a tuple -/
def withR (n : Nat) (g : List D → S → Out D) : List D → S → Out D := fun ds st => if n ≤ ds.length ∧ ds.length ≤ 1000 then g (ds.take n ++ [.tup (ds.drop n)]) st else .bad
theorem def_star {N ps : List Str} {pv : Str} {k : Nat} {g : FS} (F : FunD K x qual params body scope [] [] f fd) (Sc : FnScope N (ps ++ [pv]) scope)
    (hbind : ∀ (kV doc pm : Value) (an : Option Addr) (cdv ct : Value) (us rest : List Value), us.length = ps.length → bindArgs (PySem.W.fnOf x qual params body scope .none kV doc pm an cdv ct) ⟨us ++ rest, []⟩ = (newTuple rest >>= fun t => pure (ps.zip us ++ [(pv, t)])))
    (hb : ∀ (cdv : Value) (A : Around) (outer : List PySem.Env) (s : Shared) (H : Hp) (E : XK), Room k (A.deeper (envOfC qual scope s.heap.objs.size f cdv)) →
      JB (cxOf (L2N.CX P w) P w K mg base N qual scope f cdv A outer s H E) (wcE E) body g) :
    Rn false P w K mg base (k + 1) f [] (withR ps.length (arN (ps.length + 1) (den N.length g))) := by
  obtain ⟨oc, od, dV, kV, doc, pm, an, cdv, ct, osl, rfl, lk, hcd, hD, _⟩ := F.ex
  have edv : dV = .none := by
    rcases hD with ⟨_, e⟩ | ⟨e, _⟩
    · exact e
    · exact absurd rfl e
  subst edv
  have R := fn_star (sp := spG K mg (arN (ps.length + 1) (den N.length g))) (k := k) lk hcd Sc (cxUpN (P := P) (w := w)) (fun us rest hl => hbind kV doc pm an cdv ct us rest hl) fun A outer s H vs Q E hr h => ⟨_, hb cdv A outer s H E hr, body_reads h⟩
  intro A outer s H us ws vs zs Q E t e0 r rz hl hs
  have ez : ws = [] := List.length_eq_zero_iff.mp hl
  subst ez
  cases rz
  rw [List.append_nil] at hs
  obtain ⟨m, st, ds, rs, rv, hm⟩ := hs
  unfold withR at hm
  by_cases hc : ps.length ≤ ds.length ∧ ds.length ≤ 1000
  · rw [if_pos hc] at hm
    have l := RVs.len rv
    refine R A outer s H us vs Q E t e0 r ⟨vs.take ps.length, vs.drop ps.length, (List.take_append_drop _ _).symm, by rw [List.length_take]; omega, ?_, fun q hq => ?_⟩
    · rw [List.length_drop]
      exact Nat.le_trans (Nat.sub_le _ _) (Nat.le_of_lt (small1000 (by omega)))
    · obtain ⟨r2, mn⟩ := rs.laid (o := .tup (vs.drop ps.length)) hq
      have rt : RV K m st.length (upd H q (.tup (vs.drop ps.length))) (.tup (ds.drop ps.length)) (.ref q) := ⟨q, _, rfl, SqT.of upd_same, RVs.drop _ (mn.all rv)⟩
      exact ⟨m, st, _, r2, RVs.app (RVs.take _ (mn.all rv)) (RVs.one rt), Meet.later hm mn⟩
  · rw [if_neg hc] at hm; exact hm.elim
end
end MP

set_option Elab.async false
set_option linter.all false
set_option maxRecDepth 100000
set_option maxHeartbeats 4000000
/-! MPX1: an own exception class over ValueError whose __init__ says super().__init__('text') and stores its arguments: what is
to be seen of it in the written part (a Bool), and what a call of the class makes. -/
namespace MP
open PySem PySem.W PySem.Calls PyProof.Rows PySem.HandSPX

/-! ### what is to be seen -/
def ini : List Str → List Stmt → Bool
  | [], [] => true
  | f :: r, .Assign [.Attribute (.Name s _) g _] (.Name h _) _ :: b => s == ("self" : Str) && (g == f && (h == f && ini r b))
  | _, _ => false
def iniB (fs : List Str) : List Stmt → Bool
  | .Expr (.Call (.Attribute (.Call (.Name s _) [] [] _) i p) [.Constant (.str _) _ _] [] p') _ :: b => s == ("super" : Str) && (i == ("__init__" : Str) && (p.endLine == p'.line && ini fs b))
  | _ => false
def iniS (fs : List Str) (sc : Scope) : Bool :=
  decide (sc.kind = .function) && (!sc.isGenerator && (!sc.isCoroutine && ((("self" : Str) :: fs).all (fun x => decide (sc.names.lookup x = some .local)) &&
    (decide (sc.names.lookup ("super" : Str) = some .globalImplicit) && (decide (sc.names.lookup ("__class__" : Str) = some .free) && sc.names.all fun x => decide (x.2 ≠ .cell))))))
def iniP (fs : List Str) (a : Arguments) : Bool := match a with
  | ⟨[], as, none, [], [], none, []⟩ => decide (as.map (·.arg) = ("self" : Str) :: fs)
  | _ => false
def iniC (K : Frag) (file : Str) (cdv : Value) (q : Str) : Bool := codeIn K cdv q && (match cdv with
  | .ref c => (match K.lookup c with
    | some ⟨_, _, .fields vs, _⟩ => (match vs[2]? with
      | some (Value.str x _) => x == file
      | _ => false)
    | _ => false)
  | _ => false)
/-- the function at fI is such an __init__, its cell holds C -/
def iniF (K : Frag) (file : Str) (C fI : Addr) (fs : List Str) : Bool := match K.lookup fI with
  | some ⟨_, _, .func fd, _⟩ => (match fd.body, fd.closure, fd.defaults with
    | .stmts b, [(x, cc)], .none => x == ("__class__" : Str) && (decide (fd.globals = mainGlobals) && (decide (fd.builtins = builtinsNs) && (iniB fs b && (iniS fs fd.scope && (iniP fs fd.params && (iniC K file fd.code fd.qualname &&
        (match K.lookup cc with
          | some ⟨_, _, .cell (some (.ref C')), _⟩ => decide (C' = C)
          | _ => false)))))))
    | _, _, _ => false)
  | _ => false
def exS (o : Option (Option Value)) (w : Option Value) : Bool := decide (o = some w)
/-- such a class at C -/
def excX (K : Frag) (file : Str) (C fI : Addr) (fs : List Str) : Bool :=
  (match K.lookup C with
    | some ⟨.type "type", _, .cls cd, sl⟩ => (match cd.mro, sl.toList with
      | .ref C' :: bm, [_, _, _, _, some (.builtin n), _] => decide (C' = C) && (n == "ValueError.__new__" && (!cd.hasDel && (cd.hasDict && (refsVE bm && exS (alongIn K "__init__" bm) (some (.builtin "ValueError.__init__"))))))
      | _, _ => false)
    | _ => false) &&
  (exS (findIn K (.ref C) "__setattr__") (some (.builtin "object.__setattr__")) && (exS (findIn K (.ref C) "__getattribute__") (some (.builtin "BaseException.__getattribute__")) && (exS (findIn K (.ref C) "__getattr__") none &&
    (exS (findIn K (.ref C) "__init__") (some (.ref fI)) && (decide (typeIn K (.ref fI) = some (.type "function")) && (keepIn K (.ref C) && (decide (subIn K (.ref C) (.type "BaseException") = some true) &&
      (decide (typeIn K (.ref C) = some (.type "type")) && (exS (nsIn K cStatics "thirdparty.any") none && (fs.all (fun f => exS (findIn K (.ref C) f) none) && iniF K file C fI fs))))))))))

structure ExC (K : Frag) (file : Str) (C fI : Addr) (fs : List Str) : Prop where
  cls : ∃ nm q N bs bm sn sub ab col dd k0 k1 k2 k3 k5, K.lookup C = some (excClassObj nm q C N bs bm true sn sub ab col dd k0 k1 k2 k3 k5 "ValueError.__new__") ∧ refsVE bm = true ∧ alongIn K "__init__" bm = some (some (.builtin "ValueError.__init__"))
  sa : findIn K (.ref C) "__setattr__" = some (some (.builtin "object.__setattr__"))
  ga : findIn K (.ref C) "__getattribute__" = some (some (.builtin "BaseException.__getattribute__"))
  gg : findIn K (.ref C) "__getattr__" = some none
  iC : findIn K (.ref C) "__init__" = some (some (.ref fI))
  tC : typeIn K (.ref fI) = some (.type "function")
  kC : keepIn K (.ref C) = true
  exC : subIn K (.ref C) (.type "BaseException") = some true
  tyC : typeIn K (.ref C) = some (.type "type")
  opq : nsIn K cStatics "thirdparty.any" = some none
  noF : ∀ f ∈ fs, findIn K (.ref C) f = some none
  fn : iniF K file C fI fs = true
theorem exS_ok {o : Option (Option Value)} {w : Option Value} (h : exS o w = true) : o = some w := of_decide_eq_true h
theorem aa {a b : Bool} (h : (a && b) = true) : a = true ∧ b = true := Bool.and_eq_true_iff.mp h
theorem excX_ok {K : Frag} {file : Str} {C fI : Addr} {fs : List Str} (h : excX K file C fI fs = true) : ExC K file C fI fs := by
  unfold excX at h
  obtain ⟨h0, h⟩ := aa h
  obtain ⟨h1, h⟩ := aa h
  obtain ⟨h2, h⟩ := aa h
  obtain ⟨h3, h⟩ := aa h
  obtain ⟨h4, h⟩ := aa h
  obtain ⟨h5, h⟩ := aa h
  obtain ⟨h6, h⟩ := aa h
  obtain ⟨h7, h⟩ := aa h
  obtain ⟨h8, h⟩ := aa h
  obtain ⟨h9, h⟩ := aa h
  obtain ⟨h10, h11⟩ := aa h
  refine ⟨?_, exS_ok h1, exS_ok h2, exS_ok h3, exS_ok h4, of_decide_eq_true h5, h6, of_decide_eq_true h7, of_decide_eq_true h8, exS_ok h9, fun f hf => exS_ok (List.all_eq_true.mp h10 f hf), h11⟩
  split at h0
  · rename_i dd cd sl ho
    split at h0
    · rename_i C' bm k0 k1 k2 k3 n k5 hm hs
      obtain ⟨g0, h0⟩ := aa h0
      obtain ⟨g1, h0⟩ := aa h0
      obtain ⟨g2, h0⟩ := aa h0
      obtain ⟨g3, h0⟩ := aa h0
      obtain ⟨g4, g5⟩ := aa h0
      have e0 : C' = C := of_decide_eq_true g0
      have e1 : n = "ValueError.__new__" := beq_iff_eq.mp g1
      subst e0 e1
      obtain ⟨nm, bs, mro, ns, qn, hd, sn, sub, ab, col, del⟩ := cd
      dsimp only at hm g2 g3
      subst hm g3
      have e2 : del = false := by cases del <;> simp at g2 ⊢
      subst e2
      have hsl : sl = #[k0, k1, k2, k3, some (.builtin "ValueError.__new__"), k5] := by
        obtain ⟨l⟩ := sl
        simp only at hs
        rw [hs]
      subst hsl
      exact ⟨nm, qn, ns, bs, bm, sn, sub, ab, col, dd, k0, k1, k2, k3, k5, ho, g4, exS_ok g5⟩
    · cases h0
  · cases h0

/-! ### super().__init__('text') -/
section
variable {prog : Program} {w : World} {A : Around} {E : Value → Shared → Prop} {h : Heap} {g : Array GenState} {d : Drawn} {t : Nat} {os : OsState}
variable {nm q : Str} {C N : Addr} {bs bm : List Value} {hdct : Bool} {sn : List Str} {sub : List Value} {ab : Bool} {col : Option Bool} {dd : Option Addr} {k0 k1 k2 k3 k5 : Option Value}
theorem call_mw {u e t0 : Addr} {rest : List Value} {Q : Value → Shared → Prop}
    (hC : h.get? C = some (excClassObj nm q C N bs bm hdct sn sub ab col dd k0 k1 k2 k3 k5 "ValueError.__new__")) (he : h.get? e = some (excO C t0)) (hu : h.get? u = some (kxs_mw "ValueError.__init__" e)) (hrest : rest.length ≤ sizeLine)
    (hq : ∀ h' t1, (∀ b o, b ≠ e → h.get? b = some o → h'.get? b = some o) → h'.get? e = some (excO C t1) → Q .none ⟨h', g, d, t, os⟩) :
    wpAny (model prog w) A (call (.ref u) rest) Q E ⟨h, g, d, t, os⟩ := by
  refine wpAny_call (codeAny_of_tree ?_)
  show wpAny _ A.in1 (callAny (.ref u) ⟨rest, []⟩) _ _ _
  simp only [callAny]
  refine wpAny_bind (wpAny_load hu ?_)
  simp only [kxs_mw, show (Value.type "method-wrapper" == Value.type "method" || Value.type "method-wrapper" == Value.type "builtin_function_or_method" || Value.type "method-wrapper" == Value.type "method-wrapper") = true by decide, if_true]
  refine W.KFB.if_so (by decide) ?_
  refine wpAny_bind (ESX.check_bound F.excBase_ValueError hC he rfl ?_)
  refine wpAny_bind (wpAny_pure (wpAny_pure ?_))
  refine ⟨Code.quiet_builtin _ (by decide +kernel), codeAny_builtin F.excBase_ValueError.initEntry ?_⟩
  rw [Around.under_plainId F.excBase_ValueError.init.plain _]
  wp_walk
  refine hq _ h.objs.size (fun b o hb ho => ?_) ?_
  · rw [Heap.get?_update_other _ _ (Ne.symm hb)]
    exact Heap.get?_push_of_some _ ho
  · rw [Heap.get?_update_self _ (Heap.get?_push_of_some _ he) rfl]
    rfl
end

theorem iniP_ok {fs : List Str} {a : Arguments} (h : iniP fs a = true) : ∃ as, a = ⟨[], as, none, [], [], none, []⟩ ∧ as.map (·.arg) = ("self" : Str) :: fs := by
  unfold iniP at h
  split at h
  · exact ⟨_, rfl, of_decide_eq_true h⟩
  · cases h
theorem iniC_ok {K : Frag} {file : Str} {cdv : Value} {q : Str} (h : iniC K file cdv q = true) :
    codeIn K cdv q = true ∧ ∃ c oc od vs sl tf, cdv = .ref c ∧ K.lookup c = some ⟨oc, od, .fields vs, sl⟩ ∧ vs[2]? = some (.str file tf) := by
  obtain ⟨h1, h2⟩ := aa h
  refine ⟨h1, ?_⟩
  cases cdv with
  | ref c =>
    simp only at h2
    cases e : K.lookup c with
    | none => rw [e] at h2; cases h2
    | some ob =>
      obtain ⟨oc, od, dt, sl⟩ := ob
      rw [e] at h2
      cases dt with
      | fields vs =>
        simp only at h2
        cases e2 : vs[2]? with
        | none => rw [e2] at h2; cases h2
        | some v =>
          rw [e2] at h2
          cases v with
          | str x tf =>
            have e3 : x = file := beq_iff_eq.mp h2
            subst e3
            exact ⟨c, oc, od, vs, sl, tf, rfl, e, e2⟩
          | _ => cases h2
      | _ => cases h2
  | _ => cases h2
/-- the statements that store -/
def mOf : List (Str × Value) → Str → Option Value
  | [] => fun _ => none
  | (f, v) :: r => fun y => if y = f then some v else mOf r y
theorem mOf_in : ∀ l : List (Str × Value), Within (mOf l) (l.map (·.1))
  | [] => Within.nil
  | (f, v) :: r => Within.cons f v (mOf_in r)
/-- what __init__ leaves of a fresh exception at x -/
structure InitEnd (h h' : Heap) (x C dx t1 : Addr) (l : List (Str × Value)) : Prop where
  keep : ∀ b o, b ≠ x → h.get? b = some o → h'.get? b = some o
  obj : h'.get? x = some { cls := .ref C, dict := some dx, data := .fields #[.ref t1, .none, .none, .none, .bool false, .none] }
  dbig : h.objs.size ≤ dx
  dne : dx ≠ x
  ns : h'.Ns1 dx (mOf l)
section
variable {prog : Program} {w : World} {A : Around} {E : Value → Shared → Prop} {R : Flow → Shared → Prop} {K : Frag} {file : Str} {C fI x L : Addr} {fs : List Str} {env : Env} {m : Str → Option Value}
theorem ldF {M : Model} {s : Shared} {pos : Pos} {y : Str} {v : Value} {Q : Value → Shared → Prop} (hk : env.scope.kind = .function) (hl : env.kindOf y = some .local) (hn : s.heap.Ns env.locals m) (hv : m y = some v) (hd : (y == ("__debug__" : Str)) = false) (h : Q v s) :
    wpAny M A (eval (.Name y pos) env) Q E s := wpAny_Name (wpAny_loadName_local hk hl hn hv h) hd
theorem ns_but {h h' : Heap} {a L : Addr} {m : Str → Option Value} (hn : h.Ns L m) (ha : L ≠ a) (k : ∀ b o, b ≠ a → h.get? b = some o → h'.get? b = some o) : h'.Ns L m := by
  obtain ⟨o, es, ep, ho, r⟩ := hn
  exact ⟨o, es, ep, k _ _ ha ho, r⟩
theorem kept_but {h h' : Heap} {x : Addr} (X : K.In h) (hx : K.lookup x = none) (k : ∀ b o, b ≠ x → h.get? b = some o → h'.get? b = some o) : K.In h' := fun a o e =>
  k a o (fun z => by rw [z, hx] at e; cases e) (X a o e)
/-- the further fields -/
theorem stores (T : ExC K file C fI fs) (hk : env.scope.kind = .function) (hself : env.kindOf "self" = some .local) (hms : m "self" = some (.ref x)) (hxL : x ≠ env.locals) (hnx : K.lookup x = none) :
    ∀ (r : List Str) (b : List Stmt) (vs : List Value) (l : List (Str × Value)) (s : Shared) (dx : Addr) (t1 : Addr),
      ini r b = true → (∀ f ∈ r, f ∈ fs ∧ env.kindOf f = some .local ∧ (f == ("__debug__" : Str)) = false) → r.map m = vs.map some → l.length + r.length ≤ 900 → s.heap.Ns env.locals m → K.In s.heap →
      s.heap.get? x = some { cls := .ref C, dict := some dx, data := .fields #[.ref t1, .none, .none, .none, .bool false, .none] } → dx ≠ x → dx ≠ env.locals → K.lookup dx = none → s.heap.Ns1 dx (mOf l) →
      (∀ h' tk, (∀ b o, b ≠ dx → s.heap.get? b = some o → h'.get? b = some o) → h'.Ns1 dx (mOf ((r.zip vs).reverse ++ l)) → R .next { s with heap := h', toks := tk }) →
      wpAny (model prog w) A (execs b env) R E s
  | [], [], vs, l, s, dx, t1, hi, _, hv, _, _, _, _, _, _, _, hd, hq => wpAny_execs_nil (hq s.heap s.toks (fun _ _ _ e => e) (by simpa using hd))
  | [], _ :: _, _, _, _, _, _, hi, _, _, _, _, _, _, _, _, _, _, _ => by simp [ini] at hi
  | f :: r, [], _, _, _, _, _, hi, _, _, _, _, _, _, _, _, _, _, _ => by simp [ini] at hi
  | f :: r, st :: b, [], _, _, _, _, _, _, hv, _, _, _, _, _, _, _, _, _ => by simp at hv
  | f :: r, st :: b, v :: vs, l, s, dx, t1, hi, hf, hv, hl, hn, X, hx, dne, dnl, hdx, hd, hq => by
    unfold ini at hi
    split at hi
    · rename_i e1 _
      cases e1
    · rename_i f0 r0 s0 p0 g0 p1 h0 p2 p3 b0 e1 e2
      cases e1
      cases e2
      obtain ⟨q1, i1⟩ := aa hi
      obtain ⟨q2, i2⟩ := aa i1
      obtain ⟨q3, i3⟩ := aa i2
      have q1 := beq_iff_eq.mp q1
      have q2 := beq_iff_eq.mp q2
      have q3 := beq_iff_eq.mp q3
      subst q1 q2 q3
      obtain ⟨nm, q, N, bs, bm, sn, sub, ab, col, dd, k0, k1, k2, k3, k5, hC, hbm, _⟩ := T.cls
      have hcl : clsIn K C = some { name := nm, bases := bs, mro := .ref C :: bm, ns := N, qualname := q, hasDict := true, slotNames := sn, subclasses := sub, abstract := ab, collection := col, hasDel := false } := by unfold clsIn; rw [hC] <;> rfl
      obtain ⟨hf1, hf2⟩ := List.forall_mem_cons.mp hf
      rw [List.map_cons, List.map_cons] at hv
      obtain ⟨hv1, hv2⟩ := List.cons.inj hv
      refine wpAny_execs_cons (plainObj_wpAny_Assign_Attribute (ldF hk hf1.2.1 hn hv1 hf1.2.2 (ldF hk hself hn hms (by decide) ?_)))
      obtain ⟨oD, _, _, hoD, _, _⟩ := hd.count (mOf_in l)
      refine set_plain X (ox := { cls := .ref C, dict := some dx, data := .fields #[.ref t1, .none, .none, .none, .bool false, .none] }) (od := some oD) ⟨hx, rfl, rfl, hoD⟩ T.sa ?_
      obtain ⟨hp, g, d, t, os⟩ := s
      refine OEX.osa_old X hx hd (mOf_in l) (by rw [List.length_map]; simp only [List.length_cons] at hl; omega) hcl (show refsVE (.ref C :: bm) = true from hbm) rfl (T.noF _ hf1.1) (fun h' tk' k hn' => ?_)
      refine stores T hk hself hms hxL hnx _ _ vs ((_, v) :: l) ⟨h', g, d, tk', os⟩ dx t1 i3 hf2 hv2 (by simp only [List.length_cons] at hl ⊢; omega) (ns_but hn (Ne.symm dnl) k) (kept_but X hdx k) (k _ _ (Ne.symm dne) hx) dne dnl hdx hn' (fun h2 tk2 k2 hn2 => ?_)
      refine hq h2 tk2 (fun b o hb e => k2 b o hb (k b o hb e)) ?_
      rw [List.zip_cons_cons, List.reverse_cons, List.append_assoc]
      exact hn2
    · cases hi
end

section
variable {prog : Program} {w : World} {A : Around} {E : Value → Shared → Prop} {R : Flow → Shared → Prop} {K : Frag} {file : Str} {C fI x L : Addr} {fs : List Str} {env : Env} {m : Str → Option Value}
theorem lookup_big {h : Heap} {a : Addr} (X : K.In h) (ha : h.objs.size ≤ a) : K.lookup a = none := by
  cases e : K.lookup a with
  | none => rfl
  | some o => exact absurd (Heap.lt_size (X _ _ e)) (Nat.not_lt.mpr ha)
/-- the first field -/
theorem stores0 (T : ExC K file C fI fs) (hk : env.scope.kind = .function) (hself : env.kindOf "self" = some .local) (hms : m "self" = some (.ref x)) (hxL : x ≠ env.locals) (hnx : K.lookup x = none)
    {r : List Str} {b : List Stmt} {vs : List Value} {s : Shared} {t1 : Addr} (hne : r ≠ []) (hi : ini r b = true) (hf : ∀ f ∈ r, f ∈ fs ∧ env.kindOf f = some .local ∧ (f == ("__debug__" : Str)) = false) (hv : r.map m = vs.map some) (hl : r.length ≤ 900)
    (hn : s.heap.Ns env.locals m) (X : K.In s.heap) (hx : s.heap.get? x = some (excO C t1))
    (hq : ∀ h' tk dx, (∀ b o, b ≠ x → s.heap.get? b = some o → h'.get? b = some o) → h'.get? x = some { cls := .ref C, dict := some dx, data := .fields #[.ref t1, .none, .none, .none, .bool false, .none] } → s.heap.objs.size ≤ dx → dx ≠ x →
      h'.Ns1 dx (mOf (r.zip vs).reverse) → R .next { s with heap := h', toks := tk }) :
    wpAny (model prog w) A (execs b env) R E s := by
  cases r with
  | nil => exact absurd rfl hne
  | cons f r =>
    cases vs with
    | nil => simp at hv
    | cons v vs =>
      unfold ini at hi
      split at hi
      · rename_i e1
        cases e1
      · rename_i f0 r0 s0 p0 g0 p1 h0 p2 p3 b0 e1
        cases e1
        obtain ⟨q1, i1⟩ := aa hi
        obtain ⟨q2, i2⟩ := aa i1
        obtain ⟨q3, i3⟩ := aa i2
        have q1 := beq_iff_eq.mp q1
        have q2 := beq_iff_eq.mp q2
        have q3 := beq_iff_eq.mp q3
        subst q1 q2 q3
        obtain ⟨nm, q, N, bs, bm, sn, sub, ab, col, dd, k0, k1, k2, k3, k5, hC, hbm, _⟩ := T.cls
        have hcl : clsIn K C = some { name := nm, bases := bs, mro := .ref C :: bm, ns := N, qualname := q, hasDict := true, slotNames := sn, subclasses := sub, abstract := ab, collection := col, hasDel := false } := by unfold clsIn; rw [hC] <;> rfl
        obtain ⟨hf1, hf2⟩ := List.forall_mem_cons.mp hf
        rw [List.map_cons, List.map_cons] at hv
        obtain ⟨hv1, hv2⟩ := List.cons.inj hv
        refine wpAny_execs_cons (plainObj_wpAny_Assign_Attribute (ldF hk hf1.2.1 hn hv1 hf1.2.2 (ldF hk hself hn hms (by decide) ?_)))
        refine set_plain X (ox := excO C t1) (od := none) ⟨hx, rfl, rfl, trivial⟩ T.sa ?_
        obtain ⟨hp, g, d, t, os⟩ := s
        refine exc_osa X hx hcl (show refsVE (.ref C :: bm) = true from hbm) rfl (T.noF _ hf1.1) (fun h' tk' dx k dn dne hx' hn' => ?_)
        have hLlt : env.locals < hp.objs.size := by
          obtain ⟨o, es, ep, ho, _⟩ := hn
          exact Heap.lt_size ho
        have dnl : dx ≠ env.locals := Nat.ne_of_gt (Nat.lt_of_lt_of_le hLlt dn)
        refine stores T hk hself hms hxL hnx _ _ vs [(_, v)] ⟨h', g, d, tk', os⟩ dx t1 i3 hf2 hv2 (by simp only [List.length_cons, List.length_nil] at hl ⊢; omega) (ns_but hn (Ne.symm hxL) k) (kept_but X hnx k) hx' dne dnl (lookup_big X dn) hn' (fun h2 tk2 k2 hn2 => ?_)
        refine hq h2 tk2 dx (fun b o hb e => k2 b o (fun z => ?_) (k b o hb e)) (k2 _ _ (Ne.symm dne) hx') dn dne ?_
        · rw [z] at e
          exact absurd (Heap.lt_size e) (Nat.not_lt.mpr dn)
        · rw [List.zip_cons_cons, List.reverse_cons]
          exact hn2
      · cases hi
end
section
variable {K : Frag} {file : Str} {C fI : Addr}
theorem iniF_ok {fs : List Str} (h : iniF K file C fI fs = true) : ∃ oc od osl nmF qual ps b sc kV doc pm an cdv ct cc cl cld csl,
    K.lookup fI = some ⟨oc, od, .func (ksFn nmF qual ps b sc .none kV doc pm an cdv ct cc), osl⟩ ∧ iniB fs b = true ∧ iniS fs sc = true ∧ iniP fs ps = true ∧ iniC K file cdv qual = true ∧ K.lookup cc = some ⟨cl, cld, .cell (some (.ref C)), csl⟩ := by
  unfold iniF at h
  split at h
  · rename_i oc od fd osl ho
    split at h
    · rename_i b x cc e1 e2 e3
      obtain ⟨h0, h⟩ := aa h
      obtain ⟨h1, h⟩ := aa h
      obtain ⟨h2, h⟩ := aa h
      obtain ⟨h3, h⟩ := aa h
      obtain ⟨h4, h⟩ := aa h
      obtain ⟨h5, h⟩ := aa h
      obtain ⟨h6, h⟩ := aa h
      split at h
      · rename_i cl cld C' csl hc
        have e : C' = C := of_decide_eq_true h
        subst e
        obtain ⟨n1, n2, n3, n4, n5, n6, n7, n8, n9, n10, n11, n12, n13, n14, n15⟩ := fd
        dsimp only at e1 e2 e3 h1 h2 h3 h4 h5 h6
        have e0 : x = ("__class__" : Str) := beq_iff_eq.mp h0
        have e6 : n6 = mainGlobals := of_decide_eq_true h1
        have e15 : n15 = builtinsNs := of_decide_eq_true h2
        subst e0 e1 e2 e3 e6 e15
        exact ⟨oc, od, osl, n1, n2, n3, b, n5, n9, n10, n11, n12, n13, n14, cc, cl, cld, csl, ho, h3, h4, h5, h6, hc⟩
      · cases h
    · cases h
  · cases h
theorem iniS_ok {fs : List Str} {sc : Scope} (h : iniS fs sc = true) : sc.kind = .function ∧ sc.isGenerator = false ∧ sc.isCoroutine = false ∧ (∀ x ∈ (("self" : Str) :: fs), sc.names.lookup x = some .local) ∧
    sc.names.lookup ("super" : Str) = some .globalImplicit ∧ sc.names.lookup ("__class__" : Str) = some .free ∧ ∀ x ∈ sc.names, x.2 ≠ .cell := by
  obtain ⟨h0, h⟩ := aa h
  obtain ⟨h1, h⟩ := aa h
  obtain ⟨h2, h⟩ := aa h
  obtain ⟨h3, h⟩ := aa h
  obtain ⟨h4, h⟩ := aa h
  obtain ⟨h5, h⟩ := aa h
  exact ⟨of_decide_eq_true h0, by simpa using h1, by simpa using h2, fun x hx => of_decide_eq_true (List.all_eq_true.mp h3 x hx), of_decide_eq_true h4, of_decide_eq_true h5, fun x hx => of_decide_eq_true (List.all_eq_true.mp h x hx)⟩
theorem iniB_ok {fs : List Str} {b : List Stmt} (h : iniB fs b = true) : ∃ p0 p1 p2 msg j p3 p4 p5 b', b = .Expr (.Call (.Attribute (.Call (.Name ("super" : Str) p0) [] [] p1) ("__init__" : Str) p2) [.Constant (.str msg) j p3] [] p4) p5 :: b' ∧ (p2.endLine == p4.line) = true ∧ ini fs b' = true := by
  unfold iniB at h
  split at h
  · rename_i s0 p0 p1 i0 p2 msg j p3 p4 p5 b'
    obtain ⟨q1, h1⟩ := aa h
    obtain ⟨q2, h2⟩ := aa h1
    obtain ⟨q3, h3⟩ := aa h2
    have q1 := beq_iff_eq.mp q1
    have q2 := beq_iff_eq.mp q2
    subst q1 q2
    exact ⟨p0, p1, p2, msg, j, p3, p4, p5, b', rfl, q3, h3⟩
  · cases h
theorem super_eq {p0 p1 p2 p3 p4 : Pos} {msg : Str} {j : Nat} {env : Env} (hp : (p2.endLine == p4.line) = true) :
    eval (.Call (.Attribute (.Call (.Name ("super" : Str) p0) [] [] p1) ("__init__" : Str) p2) [.Constant (.str msg) j p3] [] p4) env = (do
      let ov ← attributeBase (.Call (.Name ("super" : Str) p0) [] [] p1) ("__init__" : Str) env (eval (.Call (.Name ("super" : Str) p0) [] [] p1) env)
      standAt p2.atName
      let (f, first) ← holding [ov] (getMethod ov ("__init__" : Str) (do return (← importBound (.Call (.Name ("super" : Str) p0) [] [] p1) env).getD true))
      callWith p4 f first (backTo p4 (starEach [.Constant (.str msg) j p3] env)) []) := by
  have e : methodCallPos true (.Call (.Name ("super" : Str) p0) [] [] p1) env p2 p4 = pure p4 := by
    unfold methodCallPos
    rw [hp]
    rfl
  show (do
      let ov ← attributeBase (.Call (.Name ("super" : Str) p0) [] [] p1) ("__init__" : Str) env (eval (.Call (.Name ("super" : Str) p0) [] [] p1) env)
      standAt p2.atName
      (do
        let (f, first) ← holding [ov] (calleeOf true (.Call (.Name ("super" : Str) p0) [] [] p1) env ov ("__init__" : Str))
        let callPos ← methodCallPos true (.Call (.Name ("super" : Str) p0) [] [] p1) env p2 p4
        callWith callPos f first (backTo p4 (starEach [.Constant (.str msg) j p3] env)) [])) = _
  rw [e]
  rfl
/-- how the arguments are bound, for one and for two fields -/
def Fields (fs : List Str) : Prop := ∀ (s : Shared) (as : List Arg) (nmF qual : Str) (b : List Stmt) (sc : Scope) (kV doc pm : Value) (an : Option Addr) (cdv ct : Value) (cc : Addr) (us : List Value),
  as.map (·.arg) = ("self" : Str) :: fs → us.length = fs.length + 1 → BindsTo s (ksFn nmF qual ⟨[], as, none, [], [], none, []⟩ b sc .none kV doc pm an cdv ct cc) ⟨us, []⟩ ((("self" : Str) :: fs).zip us)
def Bound1 (f : Str) : Prop := ∀ (p0 p1 : Pos) (a0 a1 : Option Expr) (nmF qual : Str) (b : List Stmt) (sc : Scope) (kV doc pm : Value) (an : Option Addr) (cdv ct : Value) (cc : Addr) (u v : Value),
  bindArgs (ksFn nmF qual ⟨[], [⟨"self", a0, p0⟩, ⟨f, a1, p1⟩], none, [], [], none, []⟩ b sc .none kV doc pm an cdv ct cc) ⟨[u, v], []⟩ = pure [(("self" : Str), u), (f, v)]
def Bound2 (f g : Str) : Prop := ∀ (p0 p1 p2 : Pos) (a0 a1 a2 : Option Expr) (nmF qual : Str) (b : List Stmt) (sc : Scope) (kV doc pm : Value) (an : Option Addr) (cdv ct : Value) (cc : Addr) (u v w : Value),
  bindArgs (ksFn nmF qual ⟨[], [⟨"self", a0, p0⟩, ⟨f, a1, p1⟩, ⟨g, a2, p2⟩], none, [], [], none, []⟩ b sc .none kV doc pm an cdv ct cc) ⟨[u, v, w], []⟩ = pure [(("self" : Str), u), (f, v), (g, w)]
theorem fields1 {f : Str} (hb : Bound1 f) : Fields [f] := by
  intro s as nmF qual b sc kV doc pm an cdv ct cc us h hu
  rcases as with _ | ⟨⟨n0, a0, p0⟩, _ | ⟨⟨n1, a1, p1⟩, _ | ⟨_, _⟩⟩⟩ <;> simp at h
  rcases us with _ | ⟨u, _ | ⟨v, _ | ⟨_, _⟩⟩⟩ <;> simp at hu
  obtain ⟨h0, h1⟩ := h
  subst h0 h1
  exact BindsTo.of_eq (hb _ _ _ _ _ _ _ _ _ _ _ _ _ _ _ _ _)
theorem fields2 {f g : Str} (hb : Bound2 f g) : Fields [f, g] := by
  intro s as nmF qual b sc kV doc pm an cdv ct cc us h hu
  rcases as with _ | ⟨⟨n0, a0, p0⟩, _ | ⟨⟨n1, a1, p1⟩, _ | ⟨⟨n2, a2, p2⟩, _ | ⟨_, _⟩⟩⟩⟩ <;> simp at h
  rcases us with _ | ⟨u, _ | ⟨v, _ | ⟨w, _ | ⟨_, _⟩⟩⟩⟩ <;> simp at hu
  obtain ⟨h0, h1, h2⟩ := h
  subst h0 h1 h2
  exact BindsTo.of_eq (hb _ _ _ _ _ _ _ _ _ _ _ _ _ _ _ _ _ _ _ _)
theorem bound_value : Bound1 "value" := fun _ _ _ _ _ _ _ _ _ _ _ _ _ _ _ _ _ => by first | rfl | with_unfolding_all rfl
theorem bound_lowhigh : Bound2 "low" "high" := fun _ _ _ _ _ _ _ _ _ _ _ _ _ _ _ _ _ _ _ _ => by first | rfl | with_unfolding_all rfl
theorem lookup_zip : ∀ (xs : List Str) (us : List Value), xs.Nodup → xs.length = us.length → xs.map (fun y => (xs.zip us).reverse.lookup y) = us.map some
  | [], [], _, _ => rfl
  | x :: xs, u :: us, hn, hl => by
    obtain ⟨h1, h2⟩ := List.nodup_cons.mp hn
    have ih := lookup_zip xs us h2 (by simpa using hl)
    have e0 : ∀ y, (((x :: xs).zip (u :: us)).reverse).lookup y = (((xs.zip us).reverse).lookup y).or (if y == x then some u else none) := fun y => by
      rw [List.zip_cons_cons, List.reverse_cons, List.lookup_append]
      congr 1
      simp only [List.lookup]
      cases y == x <;> rfl
    have no : ((xs.zip us).reverse).lookup x = none := by
      rw [List.lookup_eq_none_iff]
      intro p hp
      have hp := List.mem_reverse.mp hp
      have := (List.of_mem_zip hp).1
      rw [bne_iff_ne]
      intro e
      rw [e] at h1
      exact h1 this
    rw [List.map_cons, List.map_cons, e0, no]
    refine congr (congrArg List.cons (by simp)) ?_
    rw [← ih]
    refine List.map_congr_left fun y hy => ?_
    rw [e0]
    have ne : (y == x) = false := by
      rw [beq_eq_false_iff_ne]
      intro e
      rw [e] at hy
      exact h1 hy
    rw [ne]
    cases (List.lookup y (xs.zip us).reverse) <;> rfl

theorem fit_init {prog : Program} {w : World} {A : Around} {R : Result → Shared → Prop} {s : Shared} {fs : List Str} {mg mb : Str → Option Value} (T : ExC K file C fI fs) (hfile : ((prog.main.file : Str) == file) = true)
    (htop : (prog.main.scope.names.lookup ("super" : Str)).isSome = false) (hne : fs ≠ []) (hnd : (("self" : Str) :: fs).Nodup) (hdb : ∀ f ∈ fs, (f == ("__debug__" : Str)) = false) (hF : Fields fs) (h9 : fs.length ≤ 900) {x t0 : Addr} {vs : List Value} (hvl : vs.length = fs.length)
    (X : K.In s.heap) (G : s.heap.Ns mainGlobals mg) (hsm : mg "super" = none) (B : s.heap.Ns builtinsNs mb) (hsb : mb "super" = some (.type "super")) (hlim : s.heap.NoLimit) (hx : s.heap.get? x = some (excO C t0)) (hnx : K.lookup x = none) (hroom : A.depth < recursionLimit)
    (hq : ∀ h' tk dx t1, InitEnd s.heap h' x C dx t1 (fs.zip vs).reverse → R (.ok (.ret .none)) { s with heap := h', toks := tk }) :
    codeAny (model prog w) A (.call (.ref fI) ⟨.ref x :: vs, []⟩) R s := by
  obtain ⟨oc, od, osl, nmF, qual, ps, b, sc, kV, doc, pm, an, cdv, ct, cc, cl, cld, csl, ho, hb, hsc, hps, hic, hcc⟩ := iniF_ok T.fn
  obtain ⟨hkd, hgen, hco, hloc, hsup, hcls, hcell⟩ := iniS_ok hsc
  obtain ⟨sk, snm, sgn, sco, smr⟩ := sc
  dsimp only at hkd hgen hco hloc hsup hcls hcell
  subst hkd hgen hco
  obtain ⟨as, eps, has⟩ := iniP_ok hps
  subst eps
  obtain ⟨a0, as', eas⟩ : ∃ a0 as', as = a0 :: as' := by
    cases as with
    | nil => simp at has
    | cons a0 as' => exact ⟨_, _, rfl⟩
  subst eas
  have ea0 : a0.arg = ("self" : Str) := by
    rw [List.map_cons] at has
    exact (List.cons.inj has).1
  obtain ⟨hcd, cda, ccl, ccd, cvs, csl2, tf, ecd, hcda, hfl⟩ := iniC_ok hic
  subst ecd
  obtain ⟨nm, q, N, bs, bm, sn, sub, ab, col, dd, k0, k1, k2, k3, k5, hC, hbm, hal⟩ := T.cls
  have hcl : clsIn K C = some { name := nm, bases := bs, mro := .ref C :: bm, ns := N, qualname := q, hasDict := true, slotNames := sn, subclasses := sub, abstract := ab, collection := col, hasDel := false } := by unfold clsIn; rw [hC] <;> rfl
  obtain ⟨p0, p1, p2, msg, j, p3, p4, p5, b', eb, hpos, hini⟩ := iniB_ok hb
  subst eb
  refine ks_codeAny_call_defAt (binds := (("self" : Str) :: fs).zip (.ref x :: vs)) hroom (X _ _ ho) rfl hlim (codeRec_of X hcd) rfl (hF _ _ _ _ _ _ _ _ _ _ _ _ _ _ has (by simp [hvl])) hcell (fun y hy => hloc _ (List.of_mem_zip hy).1) (fun h₁ hns k₁ => ?_) rfl rfl rfl
  have hxL : s.heap.objs.size ≠ x := Nat.ne_of_gt (Heap.lt_size hx)
  have X₁ : K.In h₁ := X.keeps k₁
  have hx₁ := k₁ _ _ hx
  have hC₁ := X₁ _ _ hC
  have hms : (((("self" : Str) :: fs).zip (.ref x :: vs)).reverse).lookup ("self" : Str) = some (.ref x) := by
    have z := lookup_zip (("self" : Str) :: fs) (.ref x :: vs) hnd (by simp [hvl])
    rw [List.map_cons, List.map_cons] at z
    exact (List.cons.inj z).1
  have hmf : fs.map (fun y => ((("self" : Str) :: fs).zip (.ref x :: vs)).reverse.lookup y) = vs.map some := by
    have z := lookup_zip (("self" : Str) :: fs) (.ref x :: vs) hnd (by simp [hvl])
    rw [List.map_cons, List.map_cons] at z
    exact (List.cons.inj z).2
  refine ks_wpAt_execs_cons (ks_wpAt_Expr_any (ks_wpAt_MethodCall ?_ (super_eq hpos)))
  refine ks_wpAt_super_base (env := ksEnv qual ⟨.function, snm, false, false, smr⟩ s.heap.objs.size fI (.ref cda) cc) hsup hcls rfl rfl (X₁ _ _ ho) rfl rfl rfl (X₁ _ _ hcda) rfl hfl hfile htop ?_
  refine ks_loadName_global rfl hsup (loadGlobal_builtin (env := ksEnv qual ⟨.function, snm, false, false, smr⟩ s.heap.objs.size fI (.ref cda) cc) (G.keeps k₁) hsm (B.keeps k₁) hsb ⟨rfl, ?_⟩)
  refine wpAny_loadName_free rfl hcls rfl ⟨_, X₁ _ _ hcc, rfl⟩ ?_
  show wpAny _ _ (loadName _ a0.arg) _ _ _
  rw [ea0]
  refine wpAny_loadName_local rfl (hloc _ List.mem_cons_self) hns hms ?_
  refine ks_wpAny_isType_cls hC₁ rfl ⟨rfl, ?_⟩
  refine ks_wpAny_call_super hC₁ rfl hx₁ rfl (fun c e => by cases e) (looks_mroIn X₁ (by unfold mroIn; rw [hcl, Option.bind_some]; simp)) (fun h₂ hso k₂ => ?_)
  have X₂ : K.In h₂ := X₁.keeps k₂
  have hx₂ := k₂ _ _ hx₁
  refine kxs_getMethod kxs_ValueError hso (looks_opaque X₂ T.opq) (l₀ := .ref C :: bm) (fun A Q E s k q => wpAny_bind ((looks_clsIn X₂ hcl) A _ E s k (wpAny_pure q))) (ESX.drop_own C bm) X₂ hal ?_ (fun e => by rw [e, hC] at hnx; cases hnx) rfl ?_
  · have I2 : InstAt h₂ x (excO C t0) C none := ⟨hx₂, rfl, rfl, trivial⟩
    refine I2.type.andThen (looks_mroIn X₂ ?_)
    unfold mroIn
    rw [hcl, Option.bind_some]
    have z := refsVE_contains "ValueError" (.ref C :: bm) (show refsVE (.ref C :: bm) = true from hbm)
    simp only [List.isEmpty_cons, Bool.false_eq_true, if_false, z]
    rfl
  · refine kxs_callWith (i := "ValueError.__init__") (x := x) rfl (evalArgs_plain ?_)
    refine Calls.spliced_cons (Calls.Constant_str (k := j) (pos := p3) (Calls.spliced_nil ⟨Heap.get?_push_at rfl rfl, ?_⟩))
    have k₃ : ∀ b o, h₁.get? b = some o → (h₂.push (kxs_mw "ValueError.__init__" x)).get? b = some o := fun b o e => Heap.get?_push_of_some _ (k₂ b o e)
    refine call_mw (k₃ _ _ hC₁) (k₃ _ _ hx₁) (Heap.get?_push_at rfl rfl) (by show 1 ≤ sizeLine; rw [sizeLine_eq]; decide) (fun h₄ t1 k₄ hx₄ => ?_)
    have k5 : ∀ b o, b ≠ x → h₁.get? b = some o → h₄.get? b = some o := fun b o hb e => k₄ b o hb (k₃ b o e)
    refine wpAt_of_wpAny ?_
    refine stores0 (env := ksEnv qual ⟨.function, snm, false, false, smr⟩ s.heap.objs.size fI (.ref cda) cc) T rfl (hloc _ List.mem_cons_self) hms (Ne.symm hxL) hnx hne hini (fun f hf => ⟨hf, hloc f (List.mem_cons_of_mem _ hf), hdb f hf⟩) hmf h9 (ns_but hns hxL k5) (kept_but X₁ hnx k5) hx₄ (fun h₅ tk dx k₅ hx₅ dn dne hns₅ => ?_)
    have hL4 : s.heap.objs.size < h₄.objs.size := by
      obtain ⟨o, es, ep, ho, _⟩ := ns_but hns hxL k5
      exact Heap.lt_size ho
    exact hq h₅ tk dx t1 ⟨fun b o hb e => k₅ b o hb (k5 b o hb (k₁ b o e)), hx₅, Nat.le_trans (Nat.le_of_lt hL4) dn, dne, hns₅⟩
end

end MP

set_option Elab.async false
set_option linter.all false
set_option maxRecDepth 100000
set_option maxHeartbeats 4000000
/-! MP6: own exceptions raised, caught, looked at. -/
namespace MP
open PySem PySem.W PySem.Calls PyProof.Rows PySem.HandSPX
/-- a made exception -/
structure OwnMade (h h' : Heap) (e C d : Addr) (l : List (Str × Value)) : Prop where
  keep : ∀ b o, h.get? b = some o → h'.get? b = some o
  new : h.objs.size ≤ e
  obj : ∃ oe vs, h'.get? e = some oe ∧ oe.cls = .ref C ∧ oe.dict = some d ∧ oe.data = .fields vs ∧ vs[1]? = some .none ∧ vs[2]? = some .none
  dbig : h.objs.size ≤ d
  dne : d ≠ e
  ns : h'.Ns1 d (mOf l)
/-- what is asked of the field names -/
structure FN (fs : List Str) : Prop where
  ne : fs ≠ []
  nd : (("self" : Str) :: fs).Nodup
  db : ∀ f ∈ fs, (f == ("__debug__" : Str)) = false
  bd : Fields fs
  few : fs.length ≤ 900
section
variable {prog : Program} {w : World} {A : Around} {R : Result → Shared → Prop} {s : Shared} {K : Frag} {file : Str} {C fI : Addr} {fs : List Str} {mg mb : Str → Option Value}
theorem fit_made (T : ExC K file C fI fs) (N : FN fs) (hfile : ((prog.main.file : Str) == file) = true) (htop : (prog.main.scope.names.lookup ("super" : Str)).isSome = false) {vs : List Value} (hvl : vs.length = fs.length)
    (X : K.In s.heap) (G : s.heap.Ns mainGlobals mg) (hsm : mg "super" = none) (B : s.heap.Ns builtinsNs mb) (hsb : mb "super" = some (.type "super")) (hlim : s.heap.NoLimit) (hroom : A.depth + 1 < recursionLimit)
    (hq : ∀ h' tk e d, OwnMade s.heap h' e C d (fs.zip vs).reverse → R (.ok (.ret (.ref e))) { s with heap := h', toks := tk }) :
    codeAny (model prog w) A (.call (.ref C) ⟨vs, []⟩) R s := by
  obtain ⟨nm, q, N', bs, bm, sn, sub, ab, col, dd, k0, k1, k2, k3, k5, hC, hbm, hal⟩ := T.cls
  obtain ⟨hp, g, dr, tk, os⟩ := s
  have k : ∀ b o, hp.get? b = some o → ((hp.push (kdv_tup vs)).push (excO C hp.objs.size)).get? b = some o := fun b o e => Heap.get?_push_of_some _ (Heap.get?_push_of_some _ e)
  have hget : ((hp.push (kdv_tup vs)).push (excO C hp.objs.size)).get? (hp.objs.size + 1) = some (excO C hp.objs.size) := by heap_get
  have hnx : K.lookup (hp.objs.size + 1) = none := lookup_big X (Nat.le_succ _)
  have hz : vs.length ≤ sizeLine := by
    have := N.few
    rw [hvl, sizeLine_eq]
    omega
  refine call_own F.excBase_ValueError (fun X => refsVE_contains X bm hbm) (X _ _ hC) (looks_findIn X T.iC) (fun self => bind_fn X self T.tC) hz ?_
  refine fit_init (s := ⟨(hp.push (kdv_tup vs)).push (excO C hp.objs.size), g, dr, tk, os⟩) (mg := mg) (mb := mb) T hfile htop N.ne N.nd N.db N.bd N.few hvl (X.keeps k) (G.keeps k) hsm (B.keeps k) hsb (hlim.keeps k) hget hnx ?_ fun h' tk' dx t1 I => ?_
  · show A.depth + 1 < recursionLimit
    exact hroom
  · obtain ⟨k', hx, dn, dne, hns⟩ := I
    have old : ∀ b o, hp.get? b = some o → h'.get? b = some o := fun b o e => k' b o (Nat.ne_of_lt (Nat.lt_succ_of_lt (Heap.lt_size e))) (k b o e)
    have z : hp.objs.size + 1 + 1 ≤ dx := by
      first
        | (simpa only [Heap.size_push] using dn)
        | exact dn
        | (have q := dn; rw [Heap.size_push, Heap.size_push] at q; exact q)
    exact ⟨rfl, hq h' tk' (hp.objs.size + 1) dx ⟨old, Nat.le_succ _, ⟨_, _, hx, rfl, rfl, rfl, rfl, rfl⟩, Nat.le_trans (Nat.le_trans (Nat.le_succ _) (Nat.le_succ _)) z, dne, hns⟩⟩
end
/-- what the program says beside the classes -/
structure FitW (P : Program) (mg : Str → Option Value) (file : Str) : Prop where
  hfile : ((P.main.file : Str) == file) = true
  htop : (P.main.scope.names.lookup ("super" : Str)).isSome = false
  sup : mg "super" = none
end MP
namespace MP
open PySem L2 PySem.Spec PyProof.Rows
theorem relO_mOf : ∀ (ns : List Str) (vs : List V) (us : List Value), Vals vs us → ∀ f, RelO ((ns.zip vs).lookup f) (mOf (ns.zip us) f)
  | [], vs, us, r, f => trivial
  | n :: ns, [], [], .nil, f => trivial
  | n :: ns, v :: vs, u :: us, .cons r rs, f => by
    rw [List.zip_cons_cons, List.zip_cons_cons]
    have ih := relO_mOf ns vs us rs f
    by_cases h : f = n
    · subst h
      have e : List.lookup f ((f, v) :: ns.zip vs) = some v := by simp [List.lookup]
      rw [e]
      show RelO (some v) (if f = f then some u else mOf _ f)
      rw [if_pos rfl]
      exact r
    · have e1 : (f == n) = false := by simpa using h
      have e : List.lookup f ((n, v) :: ns.zip vs) = (ns.zip vs).lookup f := by simp [List.lookup, e1]
      rw [e]
      show RelO _ (if f = n then some u else mOf _ f)
      rw [if_neg h]
      exact ih
theorem vals_reverse {vs : List V} {us : List Value} (r : Vals vs us) : Vals vs.reverse us.reverse := by
  induction r with
  | nil => exact .nil
  | cons h _ ih =>
    rw [List.reverse_cons, List.reverse_cons]
    exact ih.append (.cons h .nil)
theorem zip_rev {α β : Type} (l : List α) (l' : List β) (h : l.length = l'.length) : (l.zip l').reverse = l.reverse.zip l'.reverse := by
  rw [List.zip_eq_zipWith, List.zip_eq_zipWith, List.reverse_zipWith h]
section
variable {X : Cx} {C fI : Addr} {x file : Str} {names : List Str}
theorem pmk_fit {e : Expr} {es : List Expr} {ta : TA} {p pos : Pos} {k : Nat} (T : ExC X.K file C fI names) (N : FN names) (FW : FitW X.prog X.mg file) (hgC : X.mg x = some (.ref C)) (hr : Room k X.A) (ha : PA X (e :: es) ta) (hg : Gl X x) (hdb : (x == ("__debug__" : Str)) = false)
    (he : starEach (e :: es) X.env = (false, eval e X.env) :: starEach es X.env) (hpl : (backTo pos (starEach es X.env)).any (·.1) = false) :
    L2N.PMk X (.Call (.Name x p) (e :: es) [] pos) (fun σ H Q => ta σ H fun vs H1 => vs.length = names.length ∧ ∀ d, H1 d = none → Q (.ref C) (some d) (upd H1 d (.xd (names.reverse.zip vs.reverse)))) := by
  intro pins s σ H Q I h
  refine wpAny_Call_Name_kw (ld_glob I hg hgC ?_ hdb)
  refine PySem.W.callWith_K (h₀ := X.base) I.ok.mod.kin T.kC (thn (ha.run pos pins s σ H _ I h) fun us s1 hh => ?_) he hpl
  obtain ⟨vs, H1, I1, r1, hl, q1⟩ := hh
  refine ⟨I1.kIn, ?_⟩
  show wpAny _ _ (call (.ref C) us) _ _ _
  have hlim := I1.nolimit
  have bk := I1.bk
  obtain ⟨mb, hb1, hb2⟩ := I1.mod.blt
  have G := I1.mod.glob
  obtain ⟨hp, g, dr, tk, os⟩ := s1
  have hlu : us.length = names.length := by rw [← hl]; exact (Paired.length r1).symm
  refine wpAny_call (fit_made T N FW.hfile FW.htop hlu I1.kIn (G.keeps bk) FW.sup (hb1.keeps bk) ((hb2 _ (by decide)).trans (by decide +kernel)) hlim (by have := hr.dp; omega) fun h' tk' e d M => ?_)
  show L2N.MkP X pins σ Q (.ref e) ⟨h', g, dr, tk', os⟩
  obtain ⟨oe, fv, hoe, hc, hd, hdat, h1, h2⟩ := M.obj
  have hns := M.ns
  obtain ⟨G', g1, g2⟩ := restrict h' fun b => decide (b ≠ e)
  have gk : ∀ b, b ≠ e → G'.get? b = h'.get? b := fun b hb => g1 b (decide_eq_true hb)
  have ge : G'.get? e = none := g2 e (by simp)
  have old : ∀ b o, hp.get? b = some o → G'.get? b = some o := fun b o q => (gk b (Nat.ne_of_lt (Nat.lt_of_lt_of_le (Heap.lt_size q) M.new))).trans (M.keep b o q)
  have ob : ObjOk X.prog X.w (upd H1 d (.xd (names.reverse.zip vs.reverse))) G' d (.xd (names.reverse.zip vs.reverse)) :=
    ⟨_, hns.at (fun o q => (gk d M.dne).trans q), fun f => by
      rw [zip_rev names us hlu.symm]
      exact relO_mOf _ _ _ (vals_reverse r1) f⟩
  have J : Inv X pins σ (upd H1 d (.xd (names.reverse.zip vs.reverse))) ⟨G', g, dr, tk', os⟩ := I1.laid (t' := tk') old M.dbig ob
  refine ⟨e, oe, fv, ⟨G', g, dr, tk', os⟩, _, .ref C, some d, rfl, J, fun b o q => ?_, ge, hoe, ⟨hc, hd, fun vs' ev => ?_⟩, hdat, h1, ?_, rfl, I1.bare, raises_own T.exC T.tyC, q1 d (I1.hok.fresh M.dbig)⟩
  · by_cases hb : b = e
    · have q' : G'.get? b = some o := q
      rw [hb, ge] at q'; cases q'
    · exact (gk b hb).symm.trans q
  · rw [hdat] at ev
    cases ev
    exact h2
  · rw [upd_ne (Ne.symm M.dne)]
    exact I1.hok.fresh M.new
end
theorem rvs_rev {K : PySem.W.Frag} {m : Nat → Addr} {n : Nat} {H : Hp} : ∀ {ds : List D} {vs : List V}, RVs K m n H ds vs → RVs K m n H ds.reverse vs.reverse
  | [], vs, h => by cases h; exact rfl
  | d :: ds, vs, h => by
    obtain ⟨v, r, e, h1, h2⟩ := h
    subst e
    rw [List.reverse_cons, List.reverse_cons]
    exact RVs.app (rvs_rev h2) (RVs.one h1)
/-- raise x(e, ..) -/
def sRaise (x : Str) (names : List Str) (a : FA) : FS := fun ρ st => (a ρ st).so ρ fun ds st1 => if ds.length = names.length then .ex ⟨x, st1.length⟩ ρ (st1 ++ [.xd (names.reverse.zip ds.reverse)]) else .bad
/-- an own exception class: name, its fields -/
def ExcOk (P : Program) (K : PySem.W.Frag) (mg : Str → Option Value) (x : Str) (names : List Str) : Prop :=
  ∃ C fI file, mg x = some (.ref C) ∧ ExC K file C fI names ∧ FitW P mg file
theorem js_raise {X : Cx} {W : Wc} {x : Str} {names : List Str} {e : Expr} {es : List Expr} {fs : FA} {p pos pos2 : Pos} {k : Nat} (hc : X.calm = true) (T : ExcOk X.prog X.K X.mg x names) (N : FN names) (hr : Room k X.A) (tk : L2N.Takes X W.W) (ha : JA X W (e :: es) fs) (hg : Gl X x)
    (hdb : (x == ("__debug__" : Str)) = false := by decide) (he : starEach (e :: es) X.env = (false, eval e X.env) :: starEach es X.env := by rfl) (hpl : (backTo pos (starEach es X.env)).any (·.1) = false := by rfl) :
    JS X W (.Raise (some (.Call (.Name x p) (e :: es) [] pos)) none pos2) (sRaise x names fs) := by
  obtain ⟨C, fI, file, hm, T, FW⟩ := T
  refine ps_imp (L2N.ps_raise hc tk (pmk_fit T N FW hm hr ha hg hdb he hpl)) fun E σ H h => ?_
  obtain ⟨m, st, ρ, rs, re, h⟩ := h
  refine sa_bind rs re h fun ds st1 m1 H1 vs r1 re1 mn1 rv1 h1 => ?_
  by_cases hl : ds.length = names.length
  · rw [if_pos hl] at h1
    refine ⟨by rw [← RVs.len rv1]; exact hl, fun d hd => ?_⟩
    have hlv : vs.length = names.length := by rw [← RVs.len rv1]; exact hl
    have e1 : ((names.reverse.zip ds.reverse).map (·.1)) = names.reverse := by rw [List.map_fst_zip]; simp [hl]
    have e2 : ((names.reverse.zip ds.reverse).map (·.2)) = ds.reverse := by rw [List.map_snd_zip]; simp [hl]
    have rv2 : RVs X.K m1 st1.length H1 ((names.reverse.zip ds.reverse).map (·.2)) vs.reverse := by rw [e2]; exact rvs_rev rv1
    obtain ⟨m2, em, r2, mn2⟩ := r1.pushX hd rv2
    rw [e1] at r2 mn2
    exact h1 m2 _ σ (.ref C) (some d) r2 mn2 (re1.mono mn2) ⟨C, d, hm, rfl, rfl, by simp, by rw [em]⟩
  · rw [if_neg hl] at h1
    exact h1.elim

/-! ### try -/
theorem RE.less {K : PySem.W.Frag} {m : Nat → Addr} {n : Nat} {H : Hp} {gh gh' : List (D × V)} {ρ : En} {σ : L2.St} (r : RE gh K m n H ρ σ) (h : ∀ p ∈ gh', p ∈ gh) : RE gh' K m n H ρ σ := ⟨r.len, r.get, fun p hp => r.gho p (h p hp)⟩
theorem RE.more {K : PySem.W.Frag} {m : Nat → Addr} {n : Nat} {H : Hp} {gh : List (D × V)} {ρ : En} {σ : L2.St} {p : D × V} (r : RE gh K m n H ρ σ) (h : RV K m n H p.1 p.2) : RE (p :: gh) K m n H ρ σ :=
  ⟨r.len, r.get, fun q hq => by
    rcases List.mem_cons.mp hq with e | hq
    · rw [e]; exact h
    · exact r.gho q hq⟩
/-- what a suite leaves -/
def sLeave (i : Nat) : SO → SO
  | .nx ρ st => .nx (ρ.set i none) st
  | .bk ρ st => .bk (ρ.set i none) st
  | .ct ρ st => .ct (ρ.set i none) st
  | .rt d st => .rt d st
  | .ex _ _ _ => .bad
  | .bad => .bad
def sTryAs (i : Nat) (tb : List (Str × Bool)) (fb : FS) (fh : Ex → Nat → FS) : FS := fun ρ st => match fb ρ st with
  | .ex e ρ1 st1 => (match tb.lookup e.cls with
    | some true => sLeave i (fh e st1.length (ρ1.set i (some (.loc st1.length))) (st1 ++ [.nu]))
    | some false => .ex e ρ1 st1
    | none => .bad)
  | o => o
def sLeave0 : SO → SO
  | .ex _ _ _ => .bad
  | o => o
/-- except x: with no name -/
def sTry (tb : List (Str × Bool)) (fb fh : FS) : FS := fun ρ st => match fb ρ st with
  | .ex e ρ1 st1 => (match tb.lookup e.cls with
    | some true => sLeave0 (fh ρ1 st1)
    | some false => .ex e ρ1 st1
    | none => .bad)
  | o => o
theorem lookup_mem {tb : List (Str × Bool)} {x : Str} {b : Bool} (h : tb.lookup x = some b) : (x, b) ∈ tb := by
  induction tb with
  | nil => simp at h
  | cons p r ih =>
    obtain ⟨y, c⟩ := p
    rw [List.lookup_cons] at h
    cases q : (x == y) with
    | true =>
      rw [q] at h
      have e := beq_iff_eq.mp q
      cases h
      rw [e]
      exact List.mem_cons_self
    | false =>
      rw [q] at h
      exact List.mem_cons_of_mem _ (ih h)
abbrev noX : WX := fun _ _ _ _ => False
theorem takes_suite {X : Cx} {a : Addr} {pn : List (Addr × Obj)} : L2N.Takes (X.suite a pn) noX := fun u s' ⟨_, _, _, _, _, _, _, _, _, _, _, _, _, _, _, _, w⟩ => w
/-- a table of classes against the class of a clause -/
def Tab (K : PySem.W.Frag) (mg : Str → Option Value) (c : Value) (tb : List (Str × Bool)) : Prop := ∀ p ∈ tb, ∃ C, mg p.1 = some (.ref C) ∧ PySem.W.exmOne K (.ref C) c = some p.2
section
variable {X : Cx} {x n : Str} {c : Value} {i : Nat} {body suite : List Stmt} {b₀ : Stmt} {np pos pos' : Pos} {W : Wc} {fb : FS} {tb : List (Str × Bool)}
theorem js_try_as {fh : Ex → Nat → FS} (hs : X.stack = X.env :: X.outer) (hf : X.env.frame = some X.env.locals) (hN : X.N.Nodup) (hi : X.N[i]? = some n) (hln : X.env.kindOf n = some .local) (hc : Names X x c) (tk : L2N.Takes X W.W)
    (htab : Tab X.K X.mg c tb)
    (hb : ∀ (WB : WX) (pn : List (Addr × Obj)) (xe : Value → Shared → Prop), L2N.Takes (X.tr pn xe) WB → PassesOwn (model X.prog X.w) X.A X.env xe → JB (X.tr pn xe) ⟨WB, W.gh⟩ body fb)
    (hsu : ∀ (e : Ex) (k : Nat) (a C dx : Addr) (oe : Obj) (pn : List (Addr × Obj)), X.mg e.cls = some (.ref C) → L2N.Zn (.ref C) (some dx) oe → (∃ vs, oe.data = .fields vs) →
      JB (X.suite a ((a, oe) :: pn)) ⟨noX, (.loc k, .ref a) :: (.loc e.at_, .ref dx) :: W.gh⟩ (b₀ :: suite) (fh e k)) :
    JS X W (.Try body [.ExceptHandler (some (.Name x np)) (some n) (b₀ :: suite) pos'] [] [] pos) (sTryAs i tb fb fh) := by
  refine ps_imp (L2N.ps_try_as (tb := fun WB => rS X.K X.mg ⟨WB, W.gh⟩ fb) (ts := fun a cls d => fun D σ H => ∃ e C dx k, X.mg e.cls = some (.ref C) ∧ cls = .ref C ∧ d = some dx ∧ rS X.K X.mg ⟨noX, (.loc k, .ref a) :: (.loc e.at_, .ref dx) :: W.gh⟩ (fh e k) D σ H)
    hs hf hN hi hln hc tk (fun WB pn xe t hp => hb WB pn xe t hp) (fun a oe cls d pn hz hd => ⟨fun pins s σ H E I h => ?_⟩)) fun D σ H h => ?_
  · obtain ⟨e, C, dx, k, hm, rfl, rfl, h⟩ := h
    exact (hsu e k a C dx oe pn hm hz hd).run pins s σ H E I h
  · obtain ⟨m, st, ρ, rs, re, h⟩ := h
    refine ⟨m, st, ρ, rs, re, ?_⟩
    unfold sTryAs at h
    cases q : fb ρ st with
    | nx ρ1 st1 => rw [q] at h; exact h
    | rt d st1 => rw [q] at h; exact h
    | bk ρ1 st1 => rw [q] at h; exact h
    | ct ρ1 st1 => rw [q] at h; exact h
    | bad => rw [q] at h; exact h
    | ex e ρ1 st1 =>
      rw [q] at h
      simp only at h
      intro m1 H1 σ1 cls od r1 mn1 re1 rx
      obtain ⟨C, dx, hm, hcl, hod, hrv⟩ := rx
      cases ql : tb.lookup e.cls with
      | none => rw [ql] at h; exact h.elim
      | some b =>
        rw [ql] at h
        obtain ⟨C', hm', hx⟩ := htab _ (lookup_mem ql)
        have eC : C' = C := by
          have := hm'.symm.trans hm
          cases this
          rfl
        subst eC
        subst hcl hod
        refine ⟨b, hx, fun hb1 a ha => ?_, fun hb0 => ?_⟩
        · subst hb1
          simp only at h
          obtain ⟨m2, em, r2, mn2⟩ := r1.pushN a
          have rvk : RV X.K m2 (st1 ++ [Ob.nu]).length H1 (.loc st1.length) (.ref a) := ⟨by simp, by rw [em]⟩
          refine ⟨e, C', dx, st1.length, hm, rfl, rfl, m2, _, _, r2, (((re1.mono mn2).more (p := (.loc e.at_, .ref dx)) (mn2 _ _ hrv)).more (p := (.loc st1.length, .ref a)) rvk).set rvk, ?_⟩
          have sub : ∀ p ∈ W.gh, p ∈ (MP.D.loc st1.length, V.ref a) :: (MP.D.loc e.at_, V.ref dx) :: W.gh := fun p hp => List.mem_cons_of_mem _ (List.mem_cons_of_mem _ hp)
          cases q2 : fh e st1.length (ρ1.set i (some (.loc st1.length))) (st1 ++ [.nu]) with
          | nx ρ2 st2 => rw [q2] at h; exact fun m3 H3 σ3 r3 mn3 re3 => h m3 H3 _ r3 ((mn1.trans mn2).trans mn3) (re3.less sub).drop
          | bk ρ2 st2 => rw [q2] at h; exact fun m3 H3 σ3 r3 mn3 re3 => h m3 H3 _ r3 ((mn1.trans mn2).trans mn3) (re3.less sub).drop
          | ct ρ2 st2 => rw [q2] at h; exact fun m3 H3 σ3 r3 mn3 re3 => h m3 H3 _ r3 ((mn1.trans mn2).trans mn3) (re3.less sub).drop
          | rt d2 st2 => rw [q2] at h; exact fun m3 H3 v3 r3 mn3 rv3 => h m3 H3 v3 r3 ((mn1.trans mn2).trans mn3) rv3
          | ex _ _ _ => rw [q2] at h; exact h.elim
          | bad => rw [q2] at h; exact h.elim
        · subst hb0
          exact h m1 H1 σ1 _ _ r1 mn1 re1 ⟨C', dx, hm, rfl, rfl, hrv⟩
theorem js_try {fh : FS} (hs : X.stack = X.env :: X.outer) (hf : X.env.frame = some X.env.locals) (hc : Names X x c) (tk : L2N.Takes X W.W)
    (htab : Tab X.K X.mg c tb)
    (hb : ∀ (WB : WX) (pn : List (Addr × Obj)) (xe : Value → Shared → Prop), L2N.Takes (X.tr pn xe) WB → PassesOwn (model X.prog X.w) X.A X.env xe → JB (X.tr pn xe) ⟨WB, W.gh⟩ body fb)
    (hsu : ∀ (a : Addr) (oe : Obj) (pn : List (Addr × Obj)), (∃ vs, oe.data = .fields vs) → JB (X.suite a ((a, oe) :: pn)) ⟨noX, W.gh⟩ (b₀ :: suite) fh) :
    JS X W (.Try body [.ExceptHandler (some (.Name x np)) none (b₀ :: suite) pos'] [] [] pos) (sTry tb fb fh) := by
  refine ps_imp (L2N.ps_try_many (tb := fun WB => rS X.K X.mg ⟨WB, W.gh⟩ fb) hs hf tk (fun WB pn xe t hp => hb WB pn xe t hp) (.cons (ts := fun a cls d => rS X.K X.mg ⟨noX, W.gh⟩ fh) hc (fun a oe cls d pn hz hd => hsu a oe pn hd) .nil)) fun D σ H h => ?_
  obtain ⟨m, st, ρ, rs, re, h⟩ := h
  refine ⟨m, st, ρ, rs, re, ?_⟩
  unfold sTry at h
  cases q : fb ρ st with
  | nx ρ1 st1 => rw [q] at h; exact h
  | rt d st1 => rw [q] at h; exact h
  | bk ρ1 st1 => rw [q] at h; exact h
  | ct ρ1 st1 => rw [q] at h; exact h
  | bad => rw [q] at h; exact h
  | ex e ρ1 st1 =>
    rw [q] at h
    simp only at h
    intro m1 H1 σ1 cls od r1 mn1 re1 rx
    obtain ⟨C, dx, hm, hcl, hod, hrv⟩ := rx
    cases ql : tb.lookup e.cls with
    | none => rw [ql] at h; exact h.elim
    | some b =>
      rw [ql] at h
      obtain ⟨C', hm', hx⟩ := htab _ (lookup_mem ql)
      have eC : C' = C := by
        have := hm'.symm.trans hm
        cases this
        rfl
      subst eC
      subst hcl hod
      refine ⟨b, hx, fun hb1 a ha => ?_, fun hb0 => ?_⟩
      · subst hb1
        simp only at h
        refine ⟨m1, _, _, r1, re1, ?_⟩
        cases q2 : fh ρ1 st1 with
        | nx ρ2 st2 => rw [q2] at h; exact fun m3 H3 σ3 r3 mn3 re3 => h m3 H3 _ r3 (mn1.trans mn3) re3
        | bk ρ2 st2 => rw [q2] at h; exact fun m3 H3 σ3 r3 mn3 re3 => h m3 H3 _ r3 (mn1.trans mn3) re3
        | ct ρ2 st2 => rw [q2] at h; exact fun m3 H3 σ3 r3 mn3 re3 => h m3 H3 _ r3 (mn1.trans mn3) re3
        | rt d2 st2 => rw [q2] at h; exact fun m3 H3 v3 r3 mn3 rv3 => h m3 H3 v3 r3 (mn1.trans mn3) rv3
        | ex _ _ _ => rw [q2] at h; exact h.elim
        | bad => rw [q2] at h; exact h.elim
      · subst hb0
        exact h m1 H1 σ1 _ _ r1 mn1 re1 ⟨C', dx, hm, rfl, rfl, hrv⟩
end

/-! ### looking at the exception that the suite holds -/
def kXf (k : Nat) (e : Ex) (cs : List Str) (f : Str) (x : D) (st : S) : Out D := if x = .loc k ∧ e.cls ∈ cs then (match st[e.at_]? with
  | some (.xd fs) => (match fs.lookup f with
    | some d => .ok d st
    | none => .bad)
  | _ => .bad) else .bad
def fXf (k : Nat) (e : Ex) (cs : List Str) (f : Str) (a : FE) : FE := fun ρ st => (a ρ st).bind (kXf k e cs f)
def kIsX (k : Nat) (e : Ex) (tb : List (Str × Bool)) (x : D) (st : S) : Out D := if x = .loc k then (match st[e.at_]? with
  | some (.xd _) => (match tb.lookup e.cls with
    | some b => .ok (.bl b) st
    | none => .bad)
  | _ => .bad) else .bad
def fIsX (k : Nat) (e : Ex) (tb : List (Str × Bool)) (a : FE) : FE := fun ρ st => (a ρ st).bind (kIsX k e tb)
/-- the suite's exception -/
structure SuX (X : Cx) (gh : List (D × V)) (e : Ex) (k : Nat) (a C dx : Addr) (oe : Obj) : Prop where
  hm : X.mg e.cls = some (.ref C)
  hz : L2N.Zn (.ref C) (some dx) oe
  hd : ∃ vs, oe.data = .fields vs
  gk : (.loc k, .ref a) ∈ gh
  gx : (.loc e.at_, .ref dx) ∈ gh
/-- the field f of the classes cs -/
def FldOk (K : PySem.W.Frag) (mg : Str → Option Value) (cs : List Str) (f : Str) : Prop := ∀ c ∈ cs, ∃ C, mg c = some (.ref C) ∧ XfC K C ∧ PySem.W.findIn K (.ref C) f = some none
def TabI (K : PySem.W.Frag) (mg : Str → Option Value) (c : Value) (tb : List (Str × Bool)) : Prop := ∀ p ∈ tb, ∃ C, mg p.1 = some (.ref C) ∧ L2.ExcC K C ∧ PySem.W.kitOne K (.ref C) c = some p.2
theorem lookup_map {fs : List (Str × D)} {vs : List V} {K : PySem.W.Frag} {m : Nat → Addr} {n : Nat} {H : Hp} (h : RVs K m n H (fs.map (·.2)) vs) {f : Str} {d : D} (e : fs.lookup f = some d) : ∃ v, ((fs.map (·.1)).zip vs).lookup f = some v ∧ RV K m n H d v := by
  induction fs generalizing vs with
  | nil => simp at e
  | cons p r ih =>
    obtain ⟨y, c⟩ := p
    obtain ⟨v, vr, ev, h1, h2⟩ := h
    subst ev
    rw [List.lookup_cons] at e
    rw [List.map_cons, List.zip_cons_cons, List.lookup_cons]
    cases q : (f == y) with
    | true =>
      rw [q] at e
      cases e
      exact ⟨v, rfl, h1⟩
    | false =>
      rw [q] at e
      exact ih h2 e
def rIsX (K : PySem.W.Frag) (C a dx : Addr) : List V → Hp → VK → Prop := fun xs H Q => ∃ (c : V) (cv : Value) (b : Bool) (fs : List (Str × V)), xs = [.ref a, c] ∧ (∀ u, RelV c u → u = cv) ∧ PySem.W.kitOne K (.ref C) cv = some b ∧ H dx = some (.xd fs) ∧ Q (.bl b) H
section
variable {X : Cx} {W : Wc} {e : Ex} {k : Nat} {a C dx : Addr} {oe : Obj} {pn : List (Addr × Obj)} {x : Expr} {fa : FE}
theorem call_isX (E : L2.ExcC X.K C) (hz : Zc (.ref C) (some dx) oe) (hf : ∃ vs, oe.data = .fields vs) : CallR (X.suite a ((a, oe) :: pn)) (.builtin "isinstance") (rIsX X.K C a dx) := by
  intro pins s σ H xs us Q I r h
  obtain ⟨c, cv, b, fs, rfl, hcv, e, hxd, q⟩ := h
  cases r with
  | cons rx rr =>
    cases rr with
    | cons rt rr =>
      cases rr
      cases rx
      have ec := hcv _ rt
      subst ec
      obtain ⟨hget, _⟩ := I.pin (a, oe) (List.mem_append.mpr (.inl List.mem_cons_self))
      obtain ⟨vs, hv⟩ := hf
      obtain ⟨mA, hns, hr⟩ := (I.hok dx _ hxd : ObjOk X.prog X.w H s.heap dx (.xd fs))
      obtain ⟨od, ho, _⟩ := lookIn_ns hns
      have J : PySem.W.InstAt s.heap a oe C (some od) := ⟨hget, hz.1, by unfold PySem.W.notCls; rw [hv] <;> rfl, by rw [hz.2]; exact ho⟩
      have hcl : (PySem.W.clsIn X.K C).isSome = true := by
        have z := E.hd
        unfold PySem.W.hasDictIn at z
        cases q : PySem.W.clsIn X.K C with
        | none => rw [q] at z; cases z
        | some cd => rfl
      exact PySem.W.kia_one (PySem.W.kitx_exc hcl E.hg E.hk E.hs E.ha E.hn E.ht E.hm) I.kIn J e (fun z => nomatch z) fun tk => ⟨.bl b, H, I.kept (t' := tk) fun _ _ z => z, rfl, q⟩
/-- isinstance(e, c) -/
theorem je_isX {nm : Str} {vc : V} {cv : Value} {tb : List (Str × Bool)} {p p2 pos : Pos} (S : SuX X W.gh e k a C dx oe) (T : TabI X.K X.mg cv tb) (hT : PE (X.suite a ((a, oe) :: pn)) (.Name nm p2) (tC vc)) (hcv : ∀ u, RelV vc u → u = cv)
    (hg : Gl X "isinstance") (hm : X.mg "isinstance" = none) (ha : JE (X.suite a ((a, oe) :: pn)) W x fa)
    (he : starEach (x :: [.Name nm p2]) X.env = (false, eval x X.env) :: starEach [.Name nm p2] X.env := by rfl) (hpl : (backTo pos (starEach [.Name nm p2] X.env)).any (·.1) = false := by rfl) :
    JE (X.suite a ((a, oe) :: pn)) W (.Call (.Name "isinstance" p) [x, .Name nm p2] [] pos) (fIsX k e tb fa) := by
  cases ql : tb.lookup e.cls with
  | none =>
    refine pe_imp (pe_callB (X := X.suite a ((a, oe) :: pn)) (r := fun _ _ _ => False) (fun _ _ _ _ _ _ _ _ _ h => h.elim) hg hm PyProof.Rows.boot_isinstance (pa_cons ha (pa_cons hT pa_nil) he) (by decide) (by decide) he hpl) fun σ H Q h => ?_
    obtain ⟨m, st, ρ, rs, re, h⟩ := h
    refine re_bind (k := fun x st1 ρ => kIsX k e tb x st1) rs re h fun x st1 m1 H1 v1 r1 re1 mn1 rv1 h1 => ?_
    have hbad : kIsX k e tb x st1 = .bad := by
      unfold kIsX
      rw [ql]
      split
      · split <;> rfl
      · rfl
    rw [hbad] at h1
    exact h1.elim
  | some b =>
    obtain ⟨C', hm', hE, hx⟩ := T _ (lookup_mem ql)
    have eC : C' = C := by
      have := hm'.symm.trans S.hm
      cases this
      rfl
    subst eC
    refine pe_imp (pe_callB (X := X.suite a ((a, oe) :: pn)) (call_isX hE S.hz.zc S.hd) hg hm PyProof.Rows.boot_isinstance (pa_cons ha (pa_cons hT pa_nil) he) (by decide) (by decide) he hpl) fun σ H Q h => ?_
    obtain ⟨m, st, ρ, rs, re, h⟩ := h
    refine re_bind (k := fun x st1 ρ => kIsX k e tb x st1) rs re h fun x st1 m1 H1 v1 r1 re1 mn1 rv1 h1 => ?_
    unfold kIsX at h1
    by_cases hx' : x = .loc k
    · rw [if_pos hx'] at h1
      subst hx'
      have gk := re1.gho _ S.gk
      have gx := re1.gho _ S.gx
      have ev : v1 = .ref a := by
        obtain ⟨_, q1⟩ := rv1
        obtain ⟨_, q2⟩ := gk
        rw [q1]
        exact q2.symm
      subst ev
      cases q : st1[e.at_]? with
      | none => rw [q] at h1; exact h1.elim
      | some ob =>
        rw [q] at h1
        cases ob with
        | xd fs =>
          simp only [ql] at h1
          obtain ⟨vs, hxd, _⟩ := r1.at_ _ _ q
          have ed : m1 e.at_ = dx := by
            obtain ⟨_, q2⟩ := gx
            injection q2 with q3
            exact q3.symm
          exact ⟨vc, cv, b, _, rfl, hcv, hx, by rw [← ed]; exact hxd, h1 m1 H1 r1 Mn.refl _ rfl⟩
        | _ => exact h1.elim
    · rw [if_neg hx'] at h1; exact h1.elim
/-- e.f -/
theorem je_xf {f : Str} {cs : List Str} {pos : Pos} (S : SuX X W.gh e k a C dx oe) (T : FldOk X.K X.mg cs f) (ha : JE (X.suite a ((a, oe) :: pn)) W x fa) (hb : attributeBase x f X.env (eval x X.env) = eval x X.env := by rfl) :
    JE (X.suite a ((a, oe) :: pn)) W (.Attribute x f pos) (fXf k e cs f fa) := by
  by_cases hc : e.cls ∈ cs
  · obtain ⟨C', hm', hE, hx⟩ := T _ hc
    have eC : C' = C := by
      have := hm'.symm.trans S.hm
      cases this
      rfl
    subst eC
    refine pe_imp (pe_xf hE hx S.hz.zc S.hd ha hb) fun σ H Q h => ?_
    obtain ⟨m, st, ρ, rs, re, h⟩ := h
    refine re_bind (k := fun x st1 ρ => kXf k e cs f x st1) rs re h fun x st1 m1 H1 v1 r1 re1 mn1 rv1 h1 => ?_
    unfold kXf at h1
    by_cases hx' : x = .loc k ∧ e.cls ∈ cs
    · rw [if_pos hx'] at h1
      obtain ⟨hx', _⟩ := hx'
      subst hx'
      have gk := re1.gho _ S.gk
      have gx := re1.gho _ S.gx
      have ev : v1 = .ref a := by
        obtain ⟨_, q1⟩ := rv1
        obtain ⟨_, q2⟩ := gk
        rw [q1]
        exact q2.symm
      subst ev
      cases q : st1[e.at_]? with
      | none => rw [q] at h1; exact h1.elim
      | some ob =>
        rw [q] at h1
        cases ob with
        | xd fs =>
          simp only at h1
          cases qf : fs.lookup f with
          | none => rw [qf] at h1; exact h1.elim
          | some d =>
            rw [qf] at h1
            obtain ⟨vs, hxd, hvs⟩ := r1.at_ _ _ q
            have ed : m1 e.at_ = dx := by
              obtain ⟨_, q2⟩ := gx
              injection q2 with q3
              exact q3.symm
            obtain ⟨v, hl, hv⟩ := lookup_map hvs qf
            exact ⟨rfl, rfl, dx, _, v, rfl, by rw [← ed]; exact hxd, hl, h1 m1 H1 r1 Mn.refl v hv⟩
        | _ => exact h1.elim
    · rw [if_neg hx'] at h1; exact h1.elim
  · refine ⟨fun pins s σ H Q I h => attr_of hb (thn (ha.run pins s σ H (fun _ _ => False) I ?_) fun u s1 ⟨_, _, _, _, q⟩ => q.elim)⟩
    obtain ⟨m, st, ρ, rs, re, h⟩ := h
    refine re_bind (k := fun x st1 ρ => kXf k e cs f x st1) rs re h fun x st1 m1 H1 v1 r1 re1 mn1 rv1 h1 => ?_
    unfold kXf at h1
    rw [if_neg (fun z => hc z.2)] at h1
    exact h1.elim
end
end MP

set_option Elab.async false
set_option linter.all false
set_option maxRecDepth 100000
set_option maxHeartbeats 4000000
/-! MP7: the head's hook with any facts of the written part that are told by a Bool, and what they say. -/
namespace MP
open PySem L2 PySem.Spec PyProof.Rows
abbrev FrB := PySem.W.Frag → Bool
abbrev AlM : Type := Bool × List He.FnW
def asM (g : Addr → Option Obj) : Nat → List Addr
  | 0 => [mainGlobals, cStatics]
  | n + 1 => He.growD g (asM g n)
def obsM (xs : List FrB) (fn : List He.DefD) (K : PySem.W.Frag) : AlM := ((xs.all fun f => f K) && fn.all fun d => d.ok K, fn.map fun d => He.fnW K d.at_)
def valM (fn : List He.DefD) : AlM := (true, fn.map He.DefD.val)
def SaysM (xs : List FrB) (fn : List He.DefD) (K : PySem.W.Frag) : Prop := obsM xs fn K = valM fn
def obsMG (n : Nat) (xs : List FrB) (fn : List He.DefD) (g : Addr → Option Obj) : AlM := obsM xs fn (He.frG g (asM g n))
def hookM (n : Nat) (xs : List FrB) (fn : List He.DefD) : PySem.W.Hook where
  α := AlM
  obs := fun s => obsMG n xs fn s.heap.get?
  val := fun _ => valM fn
  says := fun _ h => ∃ K : PySem.W.Frag, K.In h ∧ SaysM xs fn K
  of := fun _ _ e => ⟨_, He.frG_in, e⟩
  keeps := fun _ _ _ ⟨K, hK, c⟩ k => ⟨K, PySem.W.Frag.In.keeps hK k, c⟩
theorem obsMG_eq {n : Nat} {xs : List FrB} {fn : List He.DefD} {g : Addr → Option Obj} {s : Shared} (h : ∀ a, g a = s.heap.get? a) : obsMG n xs fn g = (hookM n xs fn).obs s := by
  have e : g = s.heap.get? := funext h
  rw [e] <;> rfl
section
variable {xs : List FrB} {fn : List He.DefD} {K : PySem.W.Frag}
theorem SaysM.fact (c : SaysM xs fn K) (i : Nat) {f : FrB} (h : xs[i]? = some f := by rfl) : f K = true := by
  have c1 := (He.ba (show ((xs.all fun f => f K) && fn.all fun d => d.ok K) = true from congrArg (fun z : AlM => z.1) c)).1
  exact List.all_eq_true.mp c1 f (List.mem_of_getElem? h)
theorem SaysM.def_ (c : SaysM xs fn K) (i : Nat) {d : He.DefD} (h : fn[i]? = some d := by rfl) : ∃ fd, FunD K d.name d.qual d.params d.body d.scope (d.dvs K) (d.kws K) (He.fAd K d.at_) fd := by
  have c2 := (He.ba (show ((xs.all fun f => f K) && fn.all fun d => d.ok K) = true from congrArg (fun z : AlM => z.1) c)).2
  have e : fn.map (fun d => He.fnW K d.at_) = fn.map He.DefD.val := congrArg (fun z : AlM => z.2) c
  have e2 : (fn.map fun d => He.fnW K d.at_)[i]? = (fn.map He.DefD.val)[i]? := by rw [e]
  rw [List.getElem?_map, List.getElem?_map, h] at e2
  exact He.DefD.funD (Option.some.inj e2) (List.all_eq_true.mp c2 d (List.mem_of_getElem? h))
end
/-! ### facts -/
def faB (f : He.Fa) : FrB := fun K => f.ok K
def bltB (x : Str) (i : String) : FrB := fun K => He.eqO (PySem.W.nsIn K mainGlobals x) (some (some (.builtin i)))
def excB (file x : Str) (fs : List Str) : FrB := fun K => He.eqO (PySem.W.nsIn K mainGlobals x) (some (some (.ref (He.ga K x)))) && excX K file (He.ga K x) (He.ma K (He.ga K x) "__init__") fs
def xfcB (x f : Str) : FrB := fun K => xfB K (He.ga K x) && He.eqO (PySem.W.findIn K (.ref (He.ga K x)) f) (some none)
def ixcB (x : Str) : FrB := fun K =>
  He.eqO (PySem.W.findIn K (.ref (He.ga K x)) "__getattribute__") (some (some (.builtin "BaseException.__getattribute__"))) && (He.eqO (PySem.W.findIn K (.ref (He.ga K x)) "__getattr__") (some none) &&
  (decide (PySem.W.subIn K (.ref (He.ga K x)) (.type "BaseException") = some true) && (PySem.W.hasDictIn K (He.ga K x) && (He.eqO (PySem.W.findIn K (.ref (He.ga K x)) "__class__") (some (some (.builtin "object.__class__"))) &&
  (He.eqO (PySem.W.specialIn K (.builtin "object.__class__") "__get__") (some (some (.builtin "getset_descriptor.__get__"))) && (decide (PySem.W.takesIn K (.builtin "object.__class__") = some true) && decide (PySem.W.mroIn K (He.ga K x) (.type "object") = some true)))))))
/-- the value that a name stands for in an isinstance -/
inductive Cv where
  | glo (x : Str) | ty (n : String)
def Cv.v (K : PySem.W.Frag) : Cv → Value
  | .glo x => .ref (He.ga K x)
  | .ty n => .type n
def kitB1 (x : Str) (c : Cv) (b : Bool) : FrB := fun K => decide (PySem.W.kitOne K (.ref (He.ga K x)) (c.v K) = some b)
def exmB1 (x : Str) (c : Cv) (b : Bool) : FrB := fun K => decide (PySem.W.exmOne K (.ref (He.ga K x)) (c.v K) = some b)
def gloB (x : Str) : FrB := faB (.glo x)
def freeB (x : Str) : FrB := faB (.free x)
def tupB (x : Str) (vs : List He.Dv) : FrB := fun K => He.eqO (PySem.W.nsIn K mainGlobals x) (some (some (.ref (He.ga K x)))) && He.tupB K x vs
section
variable {K : PySem.W.Frag} {h : Heap} {mg : Str → Option Value} {P : Program}
theorem glo_of (X : K.In h) (G : h.Ns mainGlobals mg) {x : Str} (c : gloB x K = true) : mg x = some (.ref (He.ga K x)) := He.glo_ok X G c
theorem free_of (X : K.In h) (G : h.Ns mainGlobals mg) {x : Str} (c : freeB x K = true) : mg x = none := He.free_ok X G c
theorem blt_of (X : K.In h) (G : h.Ns mainGlobals mg) {x : Str} {i : String} (c : bltB x i K = true) : mg x = some (.builtin i) := PySem.W.mg_of X G (He.eqO_ok c)
theorem exc_of (X : K.In h) (G : h.Ns mainGlobals mg) {file x : Str} {fs : List Str} (FW : FitW P mg file) (c : excB file x fs K = true) : ExcOk P K mg x fs := by
  obtain ⟨c1, c2⟩ := aa c
  exact ⟨_, _, file, PySem.W.mg_of X G (He.eqO_ok c1), excX_ok c2, FW⟩
theorem ixc_of {x : Str} (c : ixcB x K = true) : L2.ExcC K (He.ga K x) := by
  obtain ⟨c1, c⟩ := aa c
  obtain ⟨c2, c⟩ := aa c
  obtain ⟨c3, c⟩ := aa c
  obtain ⟨c4, c⟩ := aa c
  obtain ⟨c5, c⟩ := aa c
  obtain ⟨c6, c⟩ := aa c
  obtain ⟨c7, c8⟩ := aa c
  exact ⟨He.eqO_ok c1, He.eqO_ok c2, of_decide_eq_true c3, c4, He.eqO_ok c5, He.eqO_ok c6, of_decide_eq_true c7, of_decide_eq_true c8⟩
theorem fld_nil {f : Str} : FldOk K mg [] f := fun _ h => nomatch h
theorem fld_cons {x f : Str} {cs : List Str} (hx : mg x = some (.ref (He.ga K x))) (c : xfcB x f K = true) (r : FldOk K mg cs f) : FldOk K mg (x :: cs) f := fun y hy => by
  rcases List.mem_cons.mp hy with e | hy
  · subst e
    obtain ⟨c1, c2⟩ := aa c
    exact ⟨_, hx, xfB_ok c1, He.eqO_ok c2⟩
  · exact r y hy
theorem tab_nil {c : Value} : Tab K mg c [] := fun _ h => nomatch h
theorem tab_cons {x : Str} {cv : Cv} {b : Bool} {tb : List (Str × Bool)} (hx : mg x = some (.ref (He.ga K x))) (c : exmB1 x cv b K = true) (r : Tab K mg (cv.v K) tb) : Tab K mg (cv.v K) ((x, b) :: tb) := fun y hy => by
  rcases List.mem_cons.mp hy with e | hy
  · subst e
    exact ⟨_, hx, of_decide_eq_true c⟩
  · exact r y hy
theorem tabi_nil {c : Value} : TabI K mg c [] := fun _ h => nomatch h
theorem tabi_cons {x : Str} {cv : Cv} {b : Bool} {tb : List (Str × Bool)} (hx : mg x = some (.ref (He.ga K x))) (hi : L2.ExcC K (He.ga K x)) (c : kitB1 x cv b K = true) (r : TabI K mg (cv.v K) tb) : TabI K mg (cv.v K) ((x, b) :: tb) := fun y hy => by
  rcases List.mem_cons.mp hy with e | hy
  · subst e
    exact ⟨_, hx, hi, of_decide_eq_true c⟩
  · exact r y hy
/-- a datum that the written part holds -/
def KD (K : PySem.W.Frag) (d : D) (u : Value) : Prop := ∃ v, RelV v u ∧ ∀ m n H, RV K m n H d v
def dOf : He.Dv → Option D
  | .non => some .non
  | .bl b => some (.bl b)
  | .int i => some (.int i)
  | .str x => some (.str x)
  | _ => none
def dsOf : List He.Dv → Option (List D)
  | [] => some []
  | v :: vs => (dOf v).bind fun d => (dsOf vs).bind fun ds => some (d :: ds)
theorem dOf_rv {v : He.Dv} {d : D} (e : dOf v = some d) (m : Nat → Addr) (n : Nat) (H : Hp) : RV K m n H d (v.v K) := by
  cases v <;> first | (cases e; rfl) | cases e
theorem dsOf_rv : ∀ {vs : List He.Dv} {ds : List D}, dsOf vs = some ds → ∀ (m : Nat → Addr) (n : Nat) (H : Hp), RVs K m n H ds (vs.map (He.Dv.v K))
  | [], ds, e, m, n, H => by cases e; exact rfl
  | v :: vs, ds, e, m, n, H => by
    unfold dsOf at e
    cases h1 : dOf v with
    | none => rw [h1] at e; cases e
    | some d =>
      rw [h1] at e
      cases h2 : dsOf vs with
      | none => rw [h2] at e; cases e
      | some ds' =>
        rw [h2] at e
        cases e
        exact ⟨_, _, rfl, dOf_rv h1 m n H, dsOf_rv h2 m n H⟩
theorem tup_of {x : Str} {vs : List He.Dv} {ds : List D} (e : dsOf vs = some ds) (X : K.In h) (G : h.Ns mainGlobals mg) (c : tupB x vs K = true) : ∃ u, mg x = some u ∧ KD K (.tup ds) u := by
  obtain ⟨c1, c2⟩ := aa c
  exact ⟨_, PySem.W.mg_of X G (He.eqO_ok c1), .ref (He.ga K x), rfl, fun m n H => ⟨_, _, rfl, He.tupB_ok c2 H, dsOf_rv e m n H⟩⟩
theorem je_kd {X : Cx} {W : Wc} {x : Str} {d : D} {pos : Pos} (c : ∃ u, X.mg x = some u ∧ KD X.K d u) (hg : Gl X x) (hd : (x == ("__debug__" : Str)) = false := by decide) : JE X W (.Name x pos) (fC d) := by
  obtain ⟨u, hm, v, hr, hv⟩ := c
  exact pe_imp (pe_glob hg hm hr hd) fun σ H Q ⟨m, st, ρ, rs, re, h⟩ => h m H rs Mn.refl v (hv _ _ _)
end

/-! ### words for the printed walks -/
theorem bt_len : bootBuiltins "len" = some (.builtin "len") := by decide +kernel
theorem bt_abs : bootBuiltins "abs" = some (.builtin "abs") := by decide +kernel
theorem bt_max : bootBuiltins "max" = some (.builtin "max") := by decide +kernel
theorem bt_min : bootBuiltins "min" = some (.builtin "min") := by decide +kernel
theorem bt_sum : bootBuiltins "sum" = some (.builtin "sum") := by decide +kernel
theorem bt_int : bootBuiltins "int" = some (.type "int") := by decide +kernel
theorem bt_bool : bootBuiltins "bool" = some (.type "bool") := by decide +kernel
theorem bt_str : bootBuiltins "str" = some (.type "str") := by decide +kernel
theorem bt_list : bootBuiltins "list" = some (.type "list") := by decide +kernel
theorem bt_tuple : bootBuiltins "tuple" = some (.type "tuple") := by decide +kernel
theorem bt_ValueError : bootBuiltins "ValueError" = some (.type "ValueError") := by decide +kernel
theorem bt_TypeError : bootBuiltins "TypeError" = some (.type "TypeError") := by decide +kernel
theorem bt_Exception : bootBuiltins "Exception" = some (.type "Exception") := by decide +kernel
theorem huR {k : Nat} {A : Around} (r : Room k A) : A.units + 64 < cLine := by have := r.un; omega
theorem huH {k : Nat} {A : Around} (r : L2H.RoomH k A) : A.units + 64 < cLine := by have := r.un; omega
theorem roomMk {k : Nat} {A : Around} (r : Room k A) (h : Option Value) : L2H.RoomH k (A.mark h) := ⟨r.dp, r.un⟩
theorem hotSu {X : Cx} {a : Addr} {oe : Obj} {pn : List (Addr × Obj)} {cls : Value} {d : Option Addr} (hz : L2N.Zn cls d oe) (hd : ∃ vs, oe.data = .fields vs) : L2H.HotC (X.suite a ((a, oe) :: pn)) := by
  obtain ⟨vs, hv⟩ := hd
  exact ⟨(a, oe), ⟨rfl, vs, hv, hz.2.2 vs hv⟩, List.mem_cons_self⟩
section
variable {K : PySem.W.Frag} {x qual : Str} {params : Arguments} {body : List Stmt} {scope : Scope} {dvs : List V} {kws : List (Str × V)} {f : Addr} {fd : FuncData} {ps ks : List Str} {np : Nat} {sel : List Nat}
theorem kw_binds (F : FunD K x qual params body scope dvs kws f fd) (hd : dvs ≠ [])
    (h : ∀ (T : Addr) (kV doc pm : Value) (an : Option Addr) (cdv ct : Value) (us ws its : List Value), us.length + ws.length = np → ws.length = ks.length → its.length = dvs.length →
      ∃ k, bindArgs (PySem.W.fnOf x qual params body scope (.ref T) kV doc pm an cdv ct) ⟨us, ks.zip ws⟩ = seqItems? (.ref T) >>= k ∧ k (some its.toArray) = pure (ps.zip (pick sel (us ++ ws ++ its)))) :
    ∃ dus, Vals dvs dus ∧ ∀ (s : Shared) (us ws : List Value), K.In s.heap → us.length + ws.length = np → ws.length = ks.length → BindsTo s fd ⟨us, ks.zip ws⟩ (ps.zip (pick sel (us ++ ws ++ dus))) := by
  obtain ⟨oc, od, dV, kV, doc, pm, an, cdv, ct, osl, rfl, lk, hcd, hD, hK⟩ := F.ex
  rcases hD with ⟨e, _⟩ | ⟨_, T, o, its, m, rfl, lT, oT, rT⟩
  · exact absurd e hd
  · refine ⟨its, rT, fun s us ws X h1 h2 => ?_⟩
    obtain ⟨k, e1, e2⟩ := h T kV doc pm an cdv ct us ws its h1 h2 rT.length.symm
    refine BindsTo.of_looks fun M => ?_
    rw [e1]
    exact looks_items X lT oT (.of_pure e2)
end

theorem walk_ofM {l : PySem.W.OpenLaw} {n k : Nat} {q : Program} {loose : List Str} {XP : (Str → Option Value) → Heap → Prop} {YP : World → Heap → Prop} {d : DefRec} {x : Str}
    (hn : l.most = some n) (hn2 : n ≤ sizeLine) (hdf : d.params.defaults = []) (hr : Room k callerA)
    (F : ∀ (w : World) (mg : Str → Option Value) (fa : Addr) (h : Heap), YP w h → h.Ns mainGlobals mg → mg d.name = some (.ref fa) →
      ∃ (K : PySem.W.Frag) (fd : FuncData) (sp : Sp), K.In h ∧ (∀ (s : Shared) (u : Value), BindsTo s fd ⟨[u], []⟩ [(x, u)]) ∧
        (∀ (H : Hp) (a : Addr) (ns : List Int), ns.length ≤ n → Only H → SqL K H a (ns.map V.int) → sp [.ref a] H (fun v _ => v = .bl true) fun _ _ _ => False) ∧
        ∀ base : Heap, K.In base → base.Ns mainGlobals mg → FnOk l.prog w K mg base (L2N.CX l.prog w) k fa fd [x] sp) :
    PySem.W.WalkO q loose XP YP l.row.toRowW d [] (fun f vs => PySem.call f vs) := by
  refine Att.attach_call hn hdf fun w s₀ s₁ mg mb fa o pm cd doc a vs ns G Y ho hd hcd hmg hobj hints hlen hg => ?_
  obtain ⟨K, fd, sp, KX, hb, hsp, hF⟩ := F w mg fa _ Y G.T.g hmg
  exact law_call KX G.T.g G.T.b G.T.builtins G.T.nolimit hg hobj hints (Nat.le_trans hlen hn2) hr hF hb (fun H hO hS => hsp H a ns hlen hO hS) fun H e s' ⟨_, _, _, _, _, _, _, _, _, _, _, _, z⟩ => z

/-- the law's promise from its denotation -/
theorem sp_law {K : PySem.W.Frag} {mg : Str → Option Value} {g : List D → S → Out D} (n : Nat) (h : ∀ ns : List Int, ns.length ≤ n → ∃ st', g [.loc 0] [.fz (ns.map D.int)] = .ok (.bl true) st')
    (H : Hp) (a : Addr) (ns : List Int) (hl : ns.length ≤ n) (hO : Only H) (hS : SqL K H a (ns.map V.int)) : spG K mg g [.ref a] H (fun v _ => v = .bl true) fun _ _ _ => False := by
  have hf : FzL K H a (ns.map V.int) := by
    rcases hS with (h1 | ⟨o, h1⟩) | h2
    · rcases hO a with z | ⟨o, xs, z⟩
      · rw [z] at h1; cases h1
      · rw [z] at h1; cases h1
    · exact .inl ⟨o, h1⟩
    · exact .inr h2
  have hv : ∀ (l : List Int) (m : Nat → Addr) (j : Nat), RVs K m j H (l.map D.int) (l.map V.int) := by
    intro l m j
    induction l with
    | nil => exact rfl
    | cons i l ih => exact ⟨_, _, rfl, rfl, ih⟩
  refine ⟨fun _ => a, [.fz (ns.map D.int)], [.loc 0], ⟨fun k o e => ?_, fun i j oi oj ei ej mi mj q => ?_⟩, ⟨_, _, rfl, ⟨by simp, rfl⟩, rfl⟩, ?_⟩
  · cases k with
    | zero =>
      cases e
      exact ⟨_, hf, hv _ _ _⟩
    | succ k => simp at e
  · cases i with
    | zero =>
      cases ei
      cases mi
    | succ i => simp at ei
  · obtain ⟨st', e⟩ := h ns hl
    rw [e]
    exact fun m' H' r mn v rv => rv
end MP

set_option Elab.async false
set_option linter.all false
set_option maxRecDepth 100000
set_option maxHeartbeats 4000000
/-! MP8: equations for reckoning with denotations. -/
namespace MP
open PySem
def SO.then_ (o : SO) (k : En → S → SO) : SO := match o with
  | .nx ρ st => k ρ st
  | .rt d st => .rt d st
  | .bk ρ st => .bk ρ st
  | .ct ρ st => .ct ρ st
  | .ex e ρ st => .ex e ρ st
  | .bad => .bad
section
variable (k : En → S → SO) (ρ : En) (st : S) (d : D) (e : Ex)
@[simp] theorem then_nx : (SO.nx ρ st).then_ k = k ρ st := rfl
@[simp] theorem then_rt : (SO.rt d st).then_ k = .rt d st := rfl
@[simp] theorem then_bk : (SO.bk ρ st).then_ k = .bk ρ st := rfl
@[simp] theorem then_ct : (SO.ct ρ st).then_ k = .ct ρ st := rfl
@[simp] theorem then_ex : (SO.ex e ρ st).then_ k = .ex e ρ st := rfl
end
section
variable (ρ : En) (st : S)
@[simp] theorem sSkip_ap : sSkip ρ st = .nx ρ st := rfl
@[simp] theorem sSeq_ap (a b : FS) : sSeq a b ρ st = (a ρ st).then_ b := by unfold sSeq; cases a ρ st <;> rfl
@[simp] theorem sSet_ap (i : Nat) (e : FE) : sSet i e ρ st = (e ρ st).so ρ fun d st1 => .nx (ρ.set i (some d)) st1 := rfl
@[simp] theorem sExpr_ap (e : FE) : sExpr e ρ st = (e ρ st).so ρ fun _ st1 => .nx ρ st1 := rfl
@[simp] theorem sRet_ap (e : FE) : sRet e ρ st = (e ρ st).so ρ fun d st1 => .rt d st1 := rfl
@[simp] theorem sRetN_ap : sRetN ρ st = .rt .non st := rfl
@[simp] theorem sIf_ap (t : FT) (a b : FS) : sIf t a b ρ st = (t ρ st).so ρ fun c st1 => if c = true then a ρ st1 else b ρ st1 := rfl
@[simp] theorem sBreak_ap : sBreak ρ st = .bk ρ st := rfl
@[simp] theorem sCont_ap : sCont ρ st = .ct ρ st := rfl
@[simp] theorem sPar_ap (i j : Nat) (a : FA) : sPar i j a ρ st = (a ρ st).so ρ fun ds st1 => match ds with
  | [x, y] => .nx ((ρ.set i (some x)).set j (some y)) st1
  | _ => .bad := rfl
@[simp] theorem sAsg_ap (t : FG) (e : FE) : sAsg t e ρ st = (e ρ st).so ρ fun d st1 => match t d st1 ρ with
  | some ρ1 => .nx ρ1 st1
  | none => .bad := rfl
@[simp] theorem sRaise_ap (x : Str) (names : List Str) (a : FA) : sRaise x names a ρ st = (a ρ st).so ρ fun ds st1 => if ds.length = names.length then .ex ⟨x, st1.length⟩ ρ (st1 ++ [.xd (names.reverse.zip ds.reverse)]) else .bad := rfl
@[simp] theorem sStore_ap (o i e : FE) : sStore o i e ρ st = (e ρ st).so ρ fun d st1 => (o ρ st1).so ρ fun x st2 => (i ρ st2).so ρ fun y st3 => match gStore x y d st3 with
  | some st4 => .nx ρ st4
  | none => .bad := rfl
@[simp] theorem fC_ap (d : D) : fC d ρ st = .ok d st := rfl
@[simp] theorem fVar_ap (i : Nat) : fVar i ρ st = match ρ[i]? with
  | some (some d) => .ok d st
  | _ => .bad := rfl
@[simp] theorem fBin_ap (g : D → D → S → Option (D × S)) (a b : FE) : fBin g a b ρ st = (a ρ st).bind fun x st1 => (b ρ st1).bind fun y st2 => ofO (g x y st2) := rfl
@[simp] theorem fUn_ap (g : D → S → Option (D × S)) (a : FE) : fUn g a ρ st = (a ρ st).bind fun x st1 => ofO (g x st1) := rfl
@[simp] theorem fNil_ap : fNil ρ st = .ok [] st := rfl
@[simp] theorem fCons_ap (a : FE) (r : FA) : fCons a r ρ st = (a ρ st).bind fun x st1 => (r ρ st1).bind fun xs st2 => .ok (x :: xs) st2 := rfl
@[simp] theorem fTup_ap (a : FA) : fTup a ρ st = (a ρ st).bind fun ds st1 => .ok (.tup ds) st1 := rfl
@[simp] theorem fLst_ap (a : FA) : fLst a ρ st = (a ρ st).bind fun ds st1 => .ok (.loc st1.length) (st1 ++ [.lst ds]) := rfl
@[simp] theorem fArgs_ap (g : List D → S → Option (D × S)) (a : FA) : fArgs g a ρ st = (a ρ st).bind fun ds st1 => ofO (g ds st1) := rfl
@[simp] theorem fCall_ap (g : List D → S → Out D) (a : FA) : fCall g a ρ st = (a ρ st).bind fun ds st1 => g ds st1 := rfl
@[simp] theorem fLM_ap (g : D → List D → S → Option (D × S)) (o : FE) (a : FA) : fLM g o a ρ st = (o ρ st).bind fun x st1 => match x with
  | .loc n => match lstAt st1 n with
    | some _ => (a ρ st1).bind fun ds st2 => ofO (g (.loc n) ds st2)
    | none => .bad
  | _ => .bad := rfl
@[simp] theorem fIsB_ap (a : FE) : fIsB a ρ st = (a ρ st).bind fun x st1 => match x with
  | .bl b => .ok b st1
  | _ => .bad := rfl
@[simp] theorem fTru_ap (a : FE) : fTru a ρ st = (a ρ st).bind fun x st1 => match truD st1 x with
  | some b => .ok b st1
  | none => .bad := rfl
@[simp] theorem fAnd_ap (a b : FT) : fAnd a b ρ st = (a ρ st).bind fun x st1 => if x = true then b ρ st1 else .ok false st1 := rfl
@[simp] theorem fOr_ap (a b : FT) : fOr a b ρ st = (a ρ st).bind fun x st1 => if x = true then .ok true st1 else b ρ st1 := rfl
@[simp] theorem fNot_ap (a : FT) : fNot a ρ st = (a ρ st).bind fun x st1 => .ok (!x) st1 := rfl
@[simp] theorem fAndV_ap (a b : FE) : fAndV a b ρ st = (fIsB a ρ st).bind fun x st1 => if x = true then b ρ st1 else .ok (.bl false) st1 := rfl
@[simp] theorem fOrV_ap (a b : FE) : fOrV a b ρ st = (fIsB a ρ st).bind fun x st1 => if x = true then .ok (.bl true) st1 else b ρ st1 := rfl
@[simp] theorem fNotV_ap (a : FE) : fNotV a ρ st = (fIsB a ρ st).bind fun x st1 => .ok (.bl (!x)) st1 := rfl
@[simp] theorem fIf_ap (t : FT) (a b : FE) : fIf t a b ρ st = (t ρ st).bind fun x st1 => if x = true then a ρ st1 else b ρ st1 := rfl
@[simp] theorem fSl_ap (g : D → Option Int → Option Int → S → Option (D × S)) (a : FE) (lo hi : FO) : fSl g a lo hi ρ st = (a ρ st).bind fun x st1 => (lo ρ st1).bind fun l st2 => (hi ρ st2).bind fun u st3 => ofO (g x l u st3) := rfl
@[simp] theorem fNo_ap : fNo ρ st = .ok none st := rfl
@[simp] theorem fXf_ap (k : Nat) (e : Ex) (cs : List Str) (f : Str) (a : FE) : fXf k e cs f a ρ st = (a ρ st).bind (kXf k e cs f) := rfl
@[simp] theorem fIsX_ap (k : Nat) (e : Ex) (tb : List (Str × Bool)) (a : FE) : fIsX k e tb a ρ st = (a ρ st).bind (kIsX k e tb) := rfl
@[simp] theorem tgN_ap (i : Nat) (d : D) : tgN i d st ρ = some (ρ.set i (some d)) := rfl
end
def absI (i : Int) : Int := ((i.natAbs : Nat) : Int)
section
variable (st : S) (i j : Int) (a b : D) (r : List D)
@[simp] theorem truD_bl (x : Bool) : truD st (.bl x) = some x := rfl
@[simp] theorem truD_int : truD st (.int i) = some (i != 0) := rfl
@[simp] theorem gAdd_int : gAdd (.int i) (.int j) st = some (.int (i + j), st) := rfl
@[simp] theorem gSub_int : gSub (.int i) (.int j) st = some (.int (i - j), st) := rfl
@[simp] theorem gMul_int : gMul (.int i) (.int j) st = if MulOk i j then some (.int (i * j), st) else none := rfl
@[simp] theorem gDiv_int : gDiv (.int i) (.int j) st = if DivOk j then some (.int (i / j), st) else none := rfl
@[simp] theorem gMod_int : gMod (.int i) (.int j) st = if 0 < j then some (.int (i % j), st) else none := rfl
@[simp] theorem gPow_int : gPow (.int i) (.int j) st = if 0 ≤ j ∧ j ≤ 1000000 ∧ i.natAbs < 2 ^ 64 then some (.int (i ^ j.toNat), st) else none := rfl
@[simp] theorem gNeg_int : gNeg (.int i) st = some (.int (-i), st) := rfl
@[simp] theorem gLt_int : gLt (.int i) (.int j) st = some (.bl (decide (i < j)), st) := rfl
@[simp] theorem gLe_int : gLe (.int i) (.int j) st = some (.bl (decide (i ≤ j)), st) := rfl
@[simp] theorem gGt_int : gGt (.int i) (.int j) st = some (.bl (decide (j < i)), st) := rfl
@[simp] theorem gGe_int : gGe (.int i) (.int j) st = some (.bl (decide (j ≤ i)), st) := rfl
@[simp] theorem gEq_int : gEq (.int i) (.int j) st = some (.bl (decide (i = j)), st) := rfl
@[simp] theorem gNe_int : gNe (.int i) (.int j) st = some (.bl (!decide (i = j)), st) := rfl
@[simp] theorem gIs_bl (x y : Bool) : gIs (.bl x) (.bl y) st = some (.bl (decide (x = y)), st) := rfl
@[simp] theorem gIsNot_bl (x y : Bool) : gIsNot (.bl x) (.bl y) st = some (.bl (!decide (x = y)), st) := rfl
@[simp] theorem gLen_tup (xs : List D) : gLen [.tup xs] st = some (.int xs.length, st) := rfl
theorem gLen_loc {n : Nat} {xs : List D} (h : lstAt st n = some xs) : gLen [.loc n] st = some (.int xs.length, st) := by unfold gLen; simp only [h]
@[simp] theorem gAbs_int : gAbs [.int i] st = some (.int (absI i), st) := by
  show some (D.int (if i < 0 then -i else i), st) = _
  have : (if i < 0 then -i else i) = absI i := by unfold absI; split <;> omega
  rw [this]
@[simp] theorem gInt_int : gInt [.int i] st = some (.int i, st) := rfl
@[simp] theorem gGcd_int : gGcd [.int i, .int j] st = some (.int ((Nat.gcd i.natAbs j.natAbs : Nat) : Int), st) := rfl
@[simp] theorem gStr_int : gStr [.int i] st = if i.natAbs.log2 < 1920 then some (.str (toString i), st) else none := rfl
@[simp] theorem gIx_tup (xs : List D) : gIx (.tup xs) (.int i) st = (L2.atI xs i).map fun d => (d, st) := rfl
theorem gIx_loc {n : Nat} {xs : List D} (h : lstAt st n = some xs) : gIx (.loc n) (.int i) st = (L2.atI xs i).map fun d => (d, st) := by unfold gIx; simp only [h]
@[simp] theorem atI_0 : L2.atI (a :: r) 0 = some a := by unfold L2.atI L2.ixN; simp
@[simp] theorem atI_1 : L2.atI (a :: b :: r) 1 = some b := by
  unfold L2.atI L2.ixN
  have h1 : (1 : Int) < ((a :: b :: r).length : Int) := by simp only [List.length_cons]; omega
  rw [if_pos (by decide), if_pos h1]
  rfl
theorem atI_nat {xs : List D} {k : Nat} {d : D} (h : xs[k]? = some d) : L2.atI xs (k : Int) = some d := by
  have hk : k < xs.length := (List.getElem?_eq_some_iff.mp h).1
  unfold L2.atI L2.ixN
  have h1 : (0 : Int) ≤ k := Int.natCast_nonneg k
  have h2 : (k : Int) < xs.length := by omega
  simp only [h1, h2, if_true, Option.bind_some, Int.toNat_natCast]
  first | exact h | simp [h]
@[simp] theorem gIsi_non (T : String) : gIsi T .non st = some (.bl (isiT T "NoneType"), st) := rfl
@[simp] theorem gIsi_bl (T : String) (x : Bool) : gIsi T (.bl x) st = some (.bl (isiT T "bool"), st) := rfl
@[simp] theorem gIsi_int (T : String) : gIsi T (.int i) st = some (.bl (isiT T "int"), st) := rfl
@[simp] theorem gIsi_str (T : String) (x : Str) : gIsi T (.str x) st = some (.bl (isiT T "str"), st) := rfl
@[simp] theorem gIsi_tup (T : String) (xs : List D) : gIsi T (.tup xs) st = some (.bl (isiT T "tuple"), st) := rfl
theorem gIsi_loc {T : String} {n : Nat} {xs : List D} (h : lstAt st n = some xs) : gIsi T (.loc n) st = some (.bl (isiT T "list"), st) := by unfold gIsi; simp only [h]
@[simp] theorem isiT_tt : isiT "tuple" "tuple" = true := by decide
@[simp] theorem isiT_ti : isiT "tuple" "int" = false := by decide
@[simp] theorem isiT_tn : isiT "tuple" "NoneType" = false := by decide
@[simp] theorem isiT_tb : isiT "tuple" "bool" = false := by decide
@[simp] theorem isiT_ts : isiT "tuple" "str" = false := by decide
@[simp] theorem isiT_tl : isiT "tuple" "list" = false := by decide
@[simp] theorem isiT_ii : isiT "int" "int" = true := by decide
@[simp] theorem isiT_ib : isiT "int" "bool" = true := by decide
@[simp] theorem isiT_in : isiT "int" "NoneType" = false := by decide
@[simp] theorem isiT_is : isiT "int" "str" = false := by decide
@[simp] theorem isiT_it : isiT "int" "tuple" = false := by decide
@[simp] theorem isiT_il : isiT "int" "list" = false := by decide
@[simp] theorem isiT_bb : isiT "bool" "bool" = true := by decide
@[simp] theorem isiT_bi : isiT "bool" "int" = false := by decide
@[simp] theorem isiT_bn : isiT "bool" "NoneType" = false := by decide
@[simp] theorem isiT_bs : isiT "bool" "str" = false := by decide
@[simp] theorem isiT_bt : isiT "bool" "tuple" = false := by decide
@[simp] theorem isiT_ll : isiT "list" "list" = true := by decide
@[simp] theorem isiT_lt : isiT "list" "tuple" = false := by decide
end
theorem den_rt {n : Nat} {f : FS} {ds : List D} {st st' : S} {d : D} (h : f (ds.map some ++ List.replicate (n - ds.length) none) st = .rt d st') : den n f ds st = .ok d st' := by
  unfold den
  rw [h]
theorem den_nx {n : Nat} {f : FS} {ds : List D} {st st' : S} {ρ : En} (h : f (ds.map some ++ List.replicate (n - ds.length) none) st = .nx ρ st') : den n f ds st = .ok .non st' := by
  unfold den
  rw [h]
theorem den_ex {n : Nat} {f : FS} {ds : List D} {st st' : S} {ρ : En} {e : Ex} (h : f (ds.map some ++ List.replicate (n - ds.length) none) st = .ex e ρ st') : den n f ds st = .exc e st' := by
  unfold den
  rw [h]
def SO.out : SO → Out D
  | .rt d st => .ok d st
  | .nx _ st => .ok .non st
  | .ex e _ st => .exc e st
  | _ => .bad
@[simp] theorem out_rt (d : D) (st : S) : (SO.rt d st).out = .ok d st := rfl
@[simp] theorem out_nx (ρ : En) (st : S) : (SO.nx ρ st).out = .ok .non st := rfl
@[simp] theorem out_ex (e : Ex) (ρ : En) (st : S) : (SO.ex e ρ st).out = .exc e st := rfl
theorem den_ap (n : Nat) (f : FS) (ds : List D) (st : S) : den n f ds st = (f (ds.map some ++ List.replicate (n - ds.length) none) st).out := by
  unfold den
  cases f (ds.map some ++ List.replicate (n - ds.length) none) st <;> rfl
/-- MulOk of not too large numbers -/
theorem mulok_small {i j : Int} (hi : i.natAbs < 2 ^ 400000) (hj : j.natAbs < 2 ^ 400000) : MulOk i j := by
  refine Or.inr ?_
  show i.natAbs.log2 + j.natAbs.log2 < 1000000
  have h : ∀ n : Nat, n < 2 ^ 400000 → n.log2 < 400000 := fun n h => by
    by_cases h0 : n = 0
    · subst h0; rw [Nat.log2_zero]; omega
    · exact (Nat.log2_lt h0).mpr h
  have := h _ hi
  have := h _ hj
  omega
theorem mulok_r {i j : Int} (h1 : -(2 ^ 64) < j) (h2 : j < 2 ^ 64) : MulOk i j := Or.inl (Or.inr ⟨h1, h2⟩)
theorem mulok_l {i j : Int} (h1 : -(2 ^ 64) < i) (h2 : i < 2 ^ 64) : MulOk i j := Or.inl (Or.inl ⟨h1, h2⟩)
theorem divok_small {j : Int} (h1 : 0 < j) (h2 : j.natAbs < 2 ^ 8000) : DivOk j := by
  refine ⟨h1, ?_⟩
  have h0 : j.natAbs ≠ 0 := by omega
  have := (Nat.log2_lt h0).mpr h2
  omega
end MP

set_option Elab.async false
set_option linter.all false
set_option maxRecDepth 100000
set_option maxHeartbeats 4000000
/-! MP9: the store in reckoning; loops. -/
namespace MP
open PySem
section
variable {st : S} {n : Nat} {xs : List D} {d : D}
theorem lstAt_lst (h : st[n]? = some (.lst xs)) : lstAt st n = some xs := by unfold lstAt; simp only [h]
theorem lstAt_fz (h : st[n]? = some (.fz xs)) : lstAt st n = some xs := by unfold lstAt; simp only [h]
@[simp] theorem ixN_0 (k : Nat) : L2.ixN (k + 1) 0 = some 0 := by unfold L2.ixN; simp
@[simp] theorem ixN_1 (k : Nat) : L2.ixN (k + 1 + 1) 1 = some 1 := by
  unfold L2.ixN
  rw [if_pos (by decide), if_pos (by omega)]
  rfl
@[simp] theorem ixN_2 (k : Nat) : L2.ixN (k + 1 + 1 + 1) 2 = some 2 := by
  unfold L2.ixN
  rw [if_pos (by decide), if_pos (by omega)]
  rfl
@[simp] theorem atI_2 (a b c : D) (r : List D) : L2.atI (a :: b :: c :: r) 2 = some c := by unfold L2.atI; simp
theorem gStore_loc {k : Int} {j : Nat} (h : st[n]? = some (.lst xs)) (hj : L2.ixN xs.length k = some j) : gStore (.loc n) (.int k) d st = some (st.set n (.lst (xs.set j d))) := by
  unfold gStore
  simp only [h, hj, Option.map_some]
theorem gPop_at {k : Int} {j : Nat} (h : st[n]? = some (.lst xs)) (hk : -(2 ^ 63) ≤ k ∧ k < 2 ^ 63) (hj : seqIndex? k xs.length = some j) (hd : xs[j]? = some d) : gPop (.loc n) [.int k] st = some (d, st.set n (.lst (xs.eraseIdx j))) := by
  unfold gPop
  simp only [h, hk, and_self, if_true, hj, hd, Option.map_some]
theorem gAppend_loc (h : st[n]? = some (.lst xs)) (hl : xs.length < sizeLine) : gAppend (.loc n) [d] st = some (.non, st.set n (.lst (xs ++ [d]))) := by
  unfold gAppend
  simp only [h, hl, if_true]
theorem gInsert_loc {i : Nat} (h : st[n]? = some (.lst xs)) (hl : xs.length < sizeLine) (hi : i ≤ xs.length) : gInsert (.loc n) [.int i, d] st = some (.non, st.set n (.lst (xs.take i ++ [d] ++ xs.drop i))) := by
  unfold gInsert
  have h1 : sizeLine = 16777216 := sizeLine_eq
  have h2 : (0 : Int) ≤ i ∧ (i : Int) < 2 ^ 63 := ⟨by omega, by omega⟩
  simp only [h, hl, h2, and_self, if_true, Int.toNat_natCast]
theorem set_at {o : Ob} (h : n < st.length) : (st.set n o)[n]? = some o := by
  rw [List.getElem?_set_self h]
theorem set_ne {o : Ob} {k : Nat} (h : k ≠ n) : (st.set n o)[k]? = st[k]? := List.getElem?_set_ne (Ne.symm h)
theorem app_old {o : Ob} {k : Nat} {ob : Ob} (h : st[k]? = some ob) : (st ++ [o])[k]? = some ob := by
  rw [List.getElem?_append_left (List.getElem?_eq_some_iff.mp h).1]
  exact h
theorem app_new {o : Ob} : (st ++ [o])[st.length]? = some o := by simp
theorem lt_of_at {ob : Ob} (h : st[n]? = some ob) : n < st.length := (List.getElem?_eq_some_iff.mp h).1
end
/-! ### loops -/
theorem sLoop_nil {chk : S → Bool} {t : FG} {body : FS} {ρ : En} {st : S} : sLoop chk t body [] ρ st = if chk st = true then .nx ρ st else .bad := rfl
/-- a loop that runs through: I holds ahead of each turn (done, to come) -/
theorem loop_inv {chk : S → Bool} {t : FG} {body : FS} (I : List D → List D → En → S → Prop)
    (hstep : ∀ don d ds ρ st, I don (d :: ds) ρ st → chk st = true ∧ ∃ ρ1, t d st ρ = some ρ1 ∧ ∃ ρ2 st2, (body ρ1 st = .nx ρ2 st2 ∨ body ρ1 st = .ct ρ2 st2) ∧ I (don ++ [d]) ds ρ2 st2)
    (hend : ∀ don ρ st, I don [] ρ st → chk st = true) : ∀ (ds don : List D) (ρ : En) (st : S), I don ds ρ st → ∃ ρ' st', sLoop chk t body ds ρ st = .nx ρ' st' ∧ I (don ++ ds) [] ρ' st'
  | [], don, ρ, st, h => ⟨ρ, st, by rw [sLoop_nil, if_pos (hend _ _ _ h)], by rw [List.append_nil]; exact h⟩
  | d :: ds, don, ρ, st, h => by
    obtain ⟨hc, ρ1, ht, ρ2, st2, hb, hI⟩ := hstep don d ds ρ st h
    obtain ⟨ρ', st', h1, h2⟩ := loop_inv I hstep hend ds (don ++ [d]) ρ2 st2 hI
    refine ⟨ρ', st', ?_, by rw [List.append_assoc] at h2; exact h2⟩
    unfold sLoop
    rw [if_pos hc, ht]
    rcases hb with hb | hb <;> (simp only [hb]; exact h1)
theorem rangeD_len (n : Nat) : (rangeD 0 n).length = n := by unfold rangeD; simp

theorem sForR1_ok {a : FA} {t : FG} {body : FS} {ρ : En} {st st1 : S} {j : Int} (h : a ρ st = .ok [.int j] st1) (hs : Small62 j) : sForR1 a t body ρ st = sLoop (fun _ => true) t body (rangeD 0 j) ρ st1 := by
  unfold sForR1
  rw [h]
  simp only [Out.so_ok]
  rw [if_pos hs]
theorem sFor_loc {e : FE} {t : FG} {body : FS} {ρ : En} {st st1 : S} {n : Nat} {ds : List D} (h : e ρ st = .ok (.loc n) st1) (hl : lstAt st1 n = some ds) : sFor e t body ρ st = sLoop (fun s => decide (lstAt s n = some ds)) t body ds ρ st1 := by
  unfold sFor
  rw [h]
  simp only [Out.so_ok, hl]
theorem sFor_tup {e : FE} {t : FG} {body : FS} {ρ : En} {st st1 : S} {ds : List D} (h : e ρ st = .ok (.tup ds) st1) : sFor e t body ρ st = sLoop (fun _ => true) t body ds ρ st1 := by
  unfold sFor
  rw [h]
  simp only [Out.so_ok]
theorem small_nat {n : Nat} (h : n < 1000000) : Small62 (n : Int) := by unfold Small62; omega
end MP

set_option Elab.async false
set_option linter.all false
set_option maxRecDepth 100000
set_option maxHeartbeats 4000000
/-! MPT: texts: methods of one text argument. -/
namespace MP
open PySem L2
def rM1 (K : PySem.W.Frag) (g : D → D → S → Option (D × S)) : V → List V → Hp → VK → Prop := fun x xs H Q => ∃ m st dx dy d st' y, xs = [y] ∧ RS K m st H ∧ RV K m st.length H dx x ∧ RV K m st.length H dy y ∧ g dx dy st = some (d, st') ∧ Fin K m st H d st' Q
def gFind (x y : D) (st : S) : Option (D × S) := match x, y with
  | .str a, .str b => some (.int (Txt.find a b), st)
  | _, _ => none
def gStarts (x y : D) (st : S) : Option (D × S) := match x, y with
  | .str a, .str b => some (.bl (Txt.startswith a b), st)
  | _, _ => none
def gSplit (x y : D) (st : S) : Option (D × S) := match x, y with
  | .str a, .str b => if (b.length == 0) = false ∧ a.length + 2 ≤ sizeLine then some (.loc st.length, st ++ [.lst ((Txt.split a b).map D.str)]) else none
  | _, _ => none
section
variable {X : Cx} {W : Wc} {o e : Expr} {fo fa : FE}
theorem mtd_find : MtR X "str.find" (rM1 X.K gFind) := by
  intro pins s σ H x xs v us Q I rx rv h
  obtain ⟨m, st, dx, dy, d, st', y, rfl, rs, r1, r2, e, fin⟩ := h
  unfold gFind at e
  split at e
  · cases r1; cases r2; cases e
    exact mt_find pins s σ H _ _ v us Q I rx rv ⟨_, _, rfl, rfl, fin.here rs rfl⟩
  · cases e
theorem mtd_starts : MtR X "str.startswith" (rM1 X.K gStarts) := by
  intro pins s σ H x xs v us Q I rx rv h
  obtain ⟨m, st, dx, dy, d, st', y, rfl, rs, r1, r2, e, fin⟩ := h
  unfold gStarts at e
  split at e
  · cases r1; cases r2; cases e
    exact mt_startswith pins s σ H _ _ v us Q I rx rv ⟨_, _, rfl, rfl, fin.here rs rfl⟩
  · cases e
def fM1 (g : D → D → S → Option (D × S)) (o a : FE) : FE := fun ρ st => (o ρ st).bind fun x st1 => match x with
  | .str _ => (a ρ st1).bind fun y st2 => ofO (g x y st2)
  | _ => .bad
theorem je_m1 {id : String} {name : Str} {apos pos : Pos} {g : D → D → S → Option (D × S)} (slot : Slot "str" name id) (ty : typeOf (.builtin id) = pure (.type "method_descriptor")) (rule : MtR X id (rM1 X.K g)) (ho : JE X W o fo) (he : JE X W e fa)
    (hs : starEach [e] X.env = [(false, eval e X.env)] := by rfl) (hbase : attributeBase o name X.env (eval o X.env) = eval o X.env := by rfl) (hline : (apos.endLine == pos.line) = true := by rfl) :
    JE X W (.Call (.Attribute o name apos) [e] [] pos) (fM1 g fo fa) := by
  refine pe_imp (pe_m1 slot ty rule ho he hs hbase hline) fun σ H Q h => ?_
  obtain ⟨m, st, ρ, rs, re, h⟩ := h
  refine re_bind (α := D) (k := fun x st1 ρ => match x with | .str _ => (fa ρ st1).bind fun y st2 => ofO (g x y st2) | _ => .bad) rs re h fun x st1 m1 H1 v1 r1 re1 mn1 rv1 h1 => ?_
  cases x with
  | str a =>
    obtain rfl : v1 = .str a := rv1
    refine ⟨⟨a, rfl⟩, ?_⟩
    refine re_bind (k := fun y st2 ρ => ofO (g (.str a) y st2)) r1 re1 h1 fun y st2 m2 H2 v2 r2 re2 mn2 rv2 h2 => ?_
    obtain ⟨d, st', e, fin⟩ := meet_fin h2
    exact ⟨m2, st2, .str a, y, d, st', v2, rfl, r2, rfl, rv2, e, fin⟩
  | _ => exact h1.elim
theorem mtd_split : MtR X "str.split" (rM1 X.K gSplit) := by
  intro pins s σ H x xs v us Q I rx rv h
  obtain ⟨m, st, dx, dy, d, st', y, rfl, rs, r1, r2, e, fin⟩ := h
  unfold gSplit at e
  split at e
  · cases r1; cases r2
    split at e
    · rename_i a b hc
      cases e
      have hv : ∀ l : List Str, RVs X.K m st.length H (l.map D.str) (l.map V.str) := fun l => by
        induction l with
        | nil => exact rfl
        | cons x l ih => exact ⟨_, _, rfl, rfl, ih⟩
      exact mt_split pins s σ H _ _ v us Q I rx rv ⟨_, _, rfl, rfl, hc.1, hc.2, fun p hp => fin.lst rs (hv _) hp⟩
    · cases e
  · cases e
/-- c in x, c not in x: c a text of one sign -/
def inS (n : Bool) (x y : D) (st : S) : Option (D × S) := match x, y with
  | .str a, .str z => (match a.cps.toList with
    | [c] => some (.bl (if n then !decide (c ∈ z.cps.toList) else decide (c ∈ z.cps.toList)), st)
    | _ => none)
  | _, _ => none
theorem one_sign {a : Str} {c : Nat} (h : a.cps.toList = [c]) : a = ⟨#[c]⟩ := by
  obtain ⟨⟨l⟩⟩ := a
  simp only at h
  rw [h]
theorem opd_inS : OpR X (compareOp .In) (rD X.K (inS false)) := by
  intro pins s σ H x y v u Q I rx ry h
  obtain ⟨m, st, dx, dy, d, st', rs, r1, r2, e, fin⟩ := h
  unfold inS at e
  split at e
  · cases r1; cases r2
    split at e
    · rename_i hc
      cases e
      rw [one_sign hc] at rx
      exact op_in_sign pins s σ H _ _ v u Q I rx ry ⟨_, _, rfl, rfl, fin.here rs rfl⟩
    · cases e
  · cases e
theorem opd_notInS : OpR X (compareOp .NotIn) (rD X.K (inS true)) := by
  intro pins s σ H x y v u Q I rx ry h
  obtain ⟨m, st, dx, dy, d, st', rs, r1, r2, e, fin⟩ := h
  unfold inS at e
  split at e
  · cases r1; cases r2
    split at e
    · rename_i hc
      cases e
      rw [one_sign hc] at rx
      exact op_notIn_sign pins s σ H _ _ v u Q I rx ry ⟨_, _, rfl, rfl, fin.here rs rfl⟩
    · cases e
  · cases e
/-- int(x) of a text -/
def gIntS (ds : List D) (st : S) : Option (D × S) := match ds with
  | [.str a] => (match PySem.intText? a with
    | some n => if a.length ≤ 640 then some (.int n, st) else none
    | none => none)
  | ds => gInt ds st
theorem cad_intS : CallR X (.type "int") (rDL X.K gIntS) := by
  intro pins s σ H xs us Q I r h
  obtain ⟨m, st, ds, d, st', rs, r1, e, fin⟩ := h
  unfold gIntS at e
  split at e
  · rename_i a
    split at e
    · rename_i n hn
      split at e
      · rename_i hl
        cases e
        obtain ⟨v, w, rfl, hv, hw⟩ := r1
        cases hv; cases hw
        exact call_int_str pins s σ H _ us Q I r ⟨_, n, rfl, hn, hl, fin.here rs rfl⟩
      · cases e
    · cases e
  · exact cad_int pins s σ H xs us Q I r ⟨m, st, _, d, st', rs, r1, e, fin⟩
/-- {x} in an f-string -/
def fFmt (a : FE) : FE := fun ρ st => (a ρ st).bind fun x st1 => match x with
  | .str y => if y.length ≤ sizeLine then .ok (.str y) st1 else .bad
  | .int i => if i.natAbs.log2 < 1920 then .ok (.str (toString i)) st1 else .bad
  | _ => .bad
theorem je_fmt {pos : Pos} (he : JE X W e fa) : JE X W (.FormattedValue e (-1) none pos) (fFmt fa) := by
  refine pe_imp (pe_fmt he) fun σ H Q h => ?_
  obtain ⟨m, st, ρ, rs, re, h⟩ := h
  refine re_bind (α := D) (k := fun x st1 ρ => match x with | .str y => if y.length ≤ sizeLine then .ok (.str y) st1 else .bad | .int i => if i.natAbs.log2 < 1920 then .ok (.str (toString i)) st1 else .bad | _ => .bad) rs re h fun x st1 m1 H1 v1 r1 re1 mn1 rv1 h1 => ?_
  cases x with
  | str y =>
    obtain rfl : v1 = .str y := rv1
    simp only at h1
    split at h1
    · rename_i hz
      exact .inl ⟨y, rfl, hz, h1 m1 H1 r1 Mn.refl _ rfl⟩
    · exact h1.elim
  | int i =>
    obtain rfl : v1 = .int i := rv1
    simp only at h1
    split at h1
    · rename_i hz
      exact .inr ⟨i, rfl, hz, h1 m1 H1 r1 Mn.refl _ rfl⟩
    · exact h1.elim
  | _ => exact h1.elim
end
def fJs : List FE → Str → FE
  | [], acc => fun _ st => .ok (.str acc) st
  | f :: r, acc => fun ρ st => (f ρ st).bind fun x st1 => match x with
    | .str y => if (acc ++ y).length ≤ sizeLine then fJs r (acc ++ y) ρ st1 else .bad
    | _ => .bad
inductive JP (X : Cx) (W : Wc) : List Expr → List FE → Prop
  | nil : JP X W [] []
  | cons {e : Expr} {f : FE} {es : List Expr} {fs : List FE} (h : JE X W e f) (r : JP X W es fs) : JP X W (e :: es) (f :: fs)
section
variable {X : Cx} {W : Wc}
theorem JP.pj {es : List Expr} {fs : List FE} (h : JP X W es fs) : PJ X es (fs.map (rE X.K X.mg W)) := by
  induction h with
  | nil => exact .nil
  | cons h _ ih => exact .cons h ih
theorem js_imp : ∀ (fs : List FE) (acc : Str) {σ : L2.St} {H : Hp} {Q : VK}, rE X.K X.mg W (fJs fs acc) σ H Q → tJs (fs.map (rE X.K X.mg W)) acc σ H fun out H1 => Q (.str out) H1
  | [], acc, σ, H, Q, ⟨m, st, ρ, rs, re, h⟩ => h m H rs Mn.refl _ rfl
  | f :: fs, acc, σ, H, Q, ⟨m, st, ρ, rs, re, h⟩ => by
    refine re_bind (α := D) (k := fun x st1 ρ => match x with | .str y => if (acc ++ y).length ≤ sizeLine then fJs fs (acc ++ y) ρ st1 else .bad | _ => .bad) rs re h fun x st1 m1 H1 v1 r1 re1 mn1 rv1 h1 => ?_
    cases x with
    | str y =>
      obtain rfl : v1 = .str y := rv1
      simp only at h1
      split at h1
      · rename_i hz
        exact ⟨y, rfl, hz, js_imp fs (acc ++ y) ⟨m1, st1, ρ, r1, re1, h1⟩⟩
      · exact h1.elim
    | _ => exact h1.elim
theorem je_joined {v1 v2 : Expr} {rest : List Expr} {fs : List FE} {pos : Pos} (h : JP X W (v1 :: v2 :: rest) fs) : JE X W (.JoinedStr (v1 :: v2 :: rest) pos) (fJs fs Str.empty) :=
  pe_imp (pe_joined h.pj) fun σ H Q h => js_imp fs _ h
end

def strB (x z : Str) : FrB := faB (.str x z)
theorem str_of {K : PySem.W.Frag} {h : Heap} {mg : Str → Option Value} (X : K.In h) (G : h.Ns mainGlobals mg) {x z : Str} (c : strB x z K = true) : ∃ u, mg x = some u ∧ KD K (.str z) u := by
  obtain ⟨t, e⟩ := He.str_ok X G c
  exact ⟨_, e, .str z, ⟨t, rfl⟩, fun _ _ _ => rfl⟩
theorem sl_find : Slot "str" "find" "str.find" := PySem.F.slot_str_find
theorem sl_startswith : Slot "str" "startswith" "str.startswith" := PySem.F.slot_str_startswith
theorem sl_split : Slot "str" "split" "str.split" := PySem.F.slot_str_split
theorem ty_find : typeOf (.builtin "str.find") = pure (.type "method_descriptor") := PySem.F.type_str_find
theorem ty_startswith : typeOf (.builtin "str.startswith") = pure (.type "method_descriptor") := PySem.F.type_str_startswith
theorem ty_split : typeOf (.builtin "str.split") = pure (.type "method_descriptor") := PySem.F.type_str_split
end MP

set_option Elab.async false
set_option linter.all false
set_option maxRecDepth 100000
set_option maxHeartbeats 4000000
/-! law_k01_number_texts: the defs as denotations (printed by gen.py) -/
namespace K01
open PySem MP
noncomputable section

abbrev c_DIGITS : D := .str ("0123456789" : Str)
def tx_FitError : List (Str × Bool) := [(("BadText" : Str), true)]
def tx_BadText : List (Str × Bool) := [(("BadText" : Str), true)]
def ti_BadText : List (Str × Bool) := [(("BadText" : Str), true)]
def ti_ValueError : List (Str × Bool) := [(("BadText" : Str), true)]
def ti_BadNumber : List (Str × Bool) := [(("BadText" : Str), false)]
def ti_BadSpan : List (Str × Bool) := [(("BadText" : Str), false)]
def ti_BadForm : List (Str × Bool) := [(("BadText" : Str), false)]
def ti_BadPlace : List (Str × Bool) := [(("BadText" : Str), false)]
def ti_FitError : List (Str × Bool) := [(("BadText" : Str), true)]
def cs_text : List Str := [("BadText" : Str)]
/-- _law_bag: 0 script, 1 bag, 2 cell -/
def m__law_bag : FS :=
  sSeq (sSet 1 (fLst (fCons (fC (.int 0)) (fCons (fBin gMod (fArgs gIntS (fCons (fArgs gSum (fCons (fSl gSl (fVar 0) (fNo) (fPart (fC (.int 63)))) (fNil))) (fNil))) (fC (.int 1000003))) (fNil)))))
  (sSeq (sFor (fSl gSl (fVar 0) (fNo) (fPart (fC (.int 63)))) (tgN 2) (sIf (fIsB (fBin gGe (fArgs gAbs (fCons (fArgs gIntS (fCons (fVar 2) (fNil))) (fNil))) (fBin gPow (fC (.int 10)) (fC (.int 18))))) (sExpr (fLM gAppend (fVar 1) (fCons (fArgs gAbs (fCons (fArgs gIntS (fCons (fVar 2) (fNil))) (fNil))) (fNil)))) (sExpr (fLM gAppend (fVar 1) (fCons (fBin gSub (fUn gNeg (fC (.int 1))) (fArgs gAbs (fCons (fArgs gIntS (fCons (fVar 2) (fNil))) (fNil)))) (fNil))))))
  (sRet (fVar 1)))
def g__law_bag : List D → S → Out D := arN 1 (den 3 m__law_bag)
/-- _law_mixed: 0 cell, 1 turn, 2 first, 3 second -/
def m__law_mixed : FS :=
  sSeq (sSet 2 (fBin gMod (fArgs gIntS (fCons (fBin gAdd (fBin gAdd (fBin gMul (fVar 0) (fC (.int 48271))) (fBin gMul (fVar 1) (fC (.int 69621)))) (fC (.int 12345))) (fNil))) (fC (.int 2147483647))))
  (sSeq (sSet 3 (fBin gMod (fArgs gIntS (fCons (fBin gAdd (fBin gAdd (fBin gMul (fVar 2) (fVar 2)) (fBin gMul (fVar 2) (fC (.int 16807)))) (fBin gMul (fVar 1) (fC (.int 7919)))) (fNil))) (fC (.int 2147483629))))
  (sRet (fBin gDiv (fBin gMod (fArgs gIntS (fCons (fBin gAdd (fBin gMul (fVar 3) (fC (.int 39373))) (fBin gDiv (fVar 2) (fC (.int 7)))) (fNil))) (fC (.int 2147483587))) (fC (.int 16)))))
def g__law_mixed : List D → S → Out D := arN 2 (den 4 m__law_mixed)
/-- _law_take: 0 bag, 1 many, 2 cell -/
def m__law_take : FS :=
  sSeq (sStore (fVar 0) (fC (.int 0)) (fBin gAdd (fBin gIx (fVar 0) (fC (.int 0))) (fC (.int 1))))
  (sSeq (sIf (fIsB (fBin gLt (fArgs gLen (fCons (fVar 0) (fNil))) (fC (.int 3)))) (sRet (fBin gMod (fArgs gIntS (fCons (fCall g__law_mixed (fCons (fBin gIx (fVar 0) (fC (.int 1))) (fCons (fBin gIx (fVar 0) (fC (.int 0))) (fNil)))) (fNil))) (fVar 1))) (sSkip))
  (sSeq (sSet 2 (fBin gIx (fVar 0) (fC (.int 2))))
  (sSeq (sIf (fIsB (fBin gLt (fVar 2) (fC (.int 0)))) (sSeq (sExpr (fLM gPop (fVar 0) (fCons (fC (.int 2)) (fNil))))
  (sRet (fBin gMod (fArgs gIntS (fCons (fCall g__law_mixed (fCons (fBin gSub (fUn gNeg (fC (.int 1))) (fVar 2)) (fCons (fBin gIx (fVar 0) (fC (.int 0))) (fNil)))) (fNil))) (fVar 1)))) (sSkip))
  (sSeq (sStore (fVar 0) (fC (.int 2)) (fBin gDiv (fVar 2) (fVar 1)))
  (sSeq (sIf (fIsB (fBin gEq (fBin gIx (fVar 0) (fC (.int 2))) (fC (.int 0)))) (sExpr (fLM gPop (fVar 0) (fCons (fC (.int 2)) (fNil)))) (sSkip))
  (sRet (fBin gMod (fArgs gIntS (fCons (fVar 2) (fNil))) (fVar 1))))))))
def g__law_take : List D → S → Out D := arN 2 (den 3 m__law_take)
/-- _law_large: 0 bag, 1 grown, 2 k -/
def m__law_large : FS :=
  sSeq (sSet 1 (fC (.int 0)))
  (sSeq (sForR1 (fCons (fC (.int 5)) (fNil)) (tgN 2) (sSet 1 (fBin gAdd (fBin gMul (fVar 1) (fC (.int 100000000))) (fCall g__law_take (fCons (fVar 0) (fCons (fC (.int 100000000)) (fNil)))))))
  (sRet (fVar 1)))
def g__law_large : List D → S → Out D := arN 1 (den 3 m__law_large)
/-- _law_divisor: 0 a, 1 b, 2 k -/
def m__law_divisor : FS :=
  sSeq (sForR1 (fCons (fC (.int 1500)) (fNil)) (tgN 2) (sSeq (sIf (fIsB (fBin gEq (fVar 1) (fC (.int 0)))) (sBreak) (sSkip))
  (sPar 0 1 (fCons (fVar 1) (fCons (fBin gMod (fArgs gIntS (fCons (fVar 0) (fNil))) (fVar 1)) (fNil))))))
  (sRet (fVar 0))
def g__law_divisor : List D → S → Out D := arN 2 (den 3 m__law_divisor)
/-- _law_lowest: 0 above, 1 below, 2 divisor -/
def m__law_lowest : FS :=
  sSeq (sSet 2 (fCall g__law_divisor (fCons (fArgs gAbs (fCons (fVar 0) (fNil))) (fCons (fVar 1) (fNil)))))
  (sRet (fTup (fCons (fBin gDiv (fVar 0) (fVar 2)) (fCons (fBin gDiv (fVar 1) (fVar 2)) (fNil)))))
def g__law_lowest : List D → S → Out D := arN 2 (den 3 m__law_lowest)
/-- _law_beside: 0 bag, 1 before, 2 way, 3 side, 4 mate, 5 factor -/
def m__law_beside : FS :=
  sSeq (sSet 4 (fTup (fCons (fC (.int 1)) (fCons (fC (.int 1)) (fNil)))))
  (sSeq (sIf (fIsB (fBin gGt (fArgs gLen (fCons (fVar 1) (fNil))) (fC (.int 0)))) (sSet 4 (fBin gIx (fVar 1) (fCall g__law_take (fCons (fVar 0) (fCons (fArgs gLen (fCons (fVar 1) (fNil))) (fNil)))))) (sSkip))
  (sSeq (sIf (fIsB (fBin gEq (fVar 2) (fC (.int 8)))) (sRet (fVar 4)) (sSkip))
  (sSeq (sIf (fIsB (fBin gEq (fVar 2) (fC (.int 9)))) (sRet (fTup (fCons (fUn gNeg (fBin gIx (fVar 4) (fC (.int 0)))) (fCons (fBin gIx (fVar 4) (fC (.int 1))) (fNil))))) (sSkip))
  (sSeq (sIf (fAnd (fIsB (fBin gEq (fVar 2) (fC (.int 10)))) (fIsB (fBin gGt (fBin gIx (fVar 4) (fC (.int 0))) (fC (.int 0))))) (sRet (fTup (fCons (fBin gIx (fVar 4) (fC (.int 1))) (fCons (fBin gIx (fVar 4) (fC (.int 0))) (fNil))))) (sSkip))
  (sSeq (sIf (fAnd (fIsB (fBin gEq (fVar 2) (fC (.int 10)))) (fIsB (fBin gLt (fBin gIx (fVar 4) (fC (.int 0))) (fC (.int 0))))) (sRet (fTup (fCons (fUn gNeg (fBin gIx (fVar 4) (fC (.int 1)))) (fCons (fUn gNeg (fBin gIx (fVar 4) (fC (.int 0)))) (fNil))))) (sSkip))
  (sSeq (sIf (fAnd (fIsB (fBin gLt (fArgs gAbs (fCons (fBin gIx (fVar 4) (fC (.int 0))) (fNil))) (fBin gPow (fC (.int 10)) (fC (.int 19))))) (fIsB (fBin gLt (fBin gIx (fVar 4) (fC (.int 1))) (fBin gPow (fC (.int 10)) (fC (.int 19)))))) (sSeq (sSet 5 (fBin gAdd (fC (.int 1)) (fCall g__law_take (fCons (fVar 0) (fCons (fC (.int 100000000)) (fNil))))))
  (sRet (fCall g__law_lowest (fCons (fBin gAdd (fBin gMul (fBin gIx (fVar 4) (fC (.int 0))) (fVar 5)) (fVar 3)) (fCons (fBin gMul (fBin gIx (fVar 4) (fC (.int 1))) (fVar 5)) (fNil)))))) (sSkip))
  (sSeq (sIf (fIsB (fBin gGt (fBin gIx (fVar 4) (fC (.int 0))) (fC (.int 0)))) (sRet (fCall g__law_lowest (fCons (fBin gSub (fBin gIx (fVar 4) (fC (.int 0))) (fC (.int 1))) (fCons (fBin gIx (fVar 4) (fC (.int 1))) (fNil))))) (sSkip))
  (sRet (fCall g__law_lowest (fCons (fBin gAdd (fBin gIx (fVar 4) (fC (.int 0))) (fC (.int 1))) (fCons (fBin gIx (fVar 4) (fC (.int 1))) (fNil))))))))))))
def g__law_beside : List D → S → Out D := arN 4 (den 6 m__law_beside)
/-- _law_number: 0 bag, 1 before, 2 way, 3 side, 4 above -/
def m__law_number : FS :=
  sSeq (sSet 2 (fCall g__law_take (fCons (fVar 0) (fCons (fC (.int 12)) (fNil)))))
  (sSeq (sSet 3 (fBin gSub (fC (.int 1)) (fBin gMul (fC (.int 2)) (fCall g__law_take (fCons (fVar 0) (fCons (fC (.int 2)) (fNil)))))))
  (sSeq (sIf (fIsB (fBin gEq (fVar 2) (fC (.int 0)))) (sRet (fTup (fCons (fC (.int 0)) (fCons (fC (.int 1)) (fNil))))) (sSkip))
  (sSeq (sIf (fIsB (fBin gEq (fVar 2) (fC (.int 1)))) (sRet (fTup (fCons (fBin gMul (fVar 3) (fCall g__law_take (fCons (fVar 0) (fCons (fC (.int 13)) (fNil))))) (fCons (fC (.int 1)) (fNil))))) (sSkip))
  (sSeq (sIf (fIsB (fBin gLt (fVar 2) (fC (.int 5)))) (sRet (fCall g__law_lowest (fCons (fBin gMul (fVar 3) (fCall g__law_take (fCons (fVar 0) (fCons (fC (.int 31)) (fNil))))) (fCons (fBin gAdd (fC (.int 1)) (fCall g__law_take (fCons (fVar 0) (fCons (fC (.int 12)) (fNil))))) (fNil))))) (sSkip))
  (sSeq (sIf (fIsB (fBin gEq (fVar 2) (fC (.int 5)))) (sRet (fTup (fCons (fBin gMul (fVar 3) (fCall g__law_large (fCons (fVar 0) (fNil)))) (fCons (fC (.int 1)) (fNil))))) (sSkip))
  (sSeq (sIf (fIsB (fBin gEq (fVar 2) (fC (.int 6)))) (sSeq (sSet 4 (fBin gMul (fVar 3) (fCall g__law_large (fCons (fVar 0) (fNil)))))
  (sRet (fCall g__law_lowest (fCons (fVar 4) (fCons (fBin gAdd (fC (.int 1)) (fBin gMod (fArgs gIntS (fCons (fCall g__law_large (fCons (fVar 0) (fNil))) (fNil))) (fBin gSub (fBin gPow (fC (.int 10)) (fC (.int 40))) (fC (.int 1))))) (fNil)))))) (sSkip))
  (sSeq (sIf (fIsB (fBin gEq (fVar 2) (fC (.int 7)))) (sSeq (sSet 4 (fBin gMul (fVar 3) (fBin gSub (fBin gSub (fBin gPow (fC (.int 10)) (fC (.int 40))) (fC (.int 1))) (fCall g__law_take (fCons (fVar 0) (fCons (fC (.int 30)) (fNil)))))))
  (sRet (fCall g__law_lowest (fCons (fVar 4) (fCons (fBin gSub (fBin gSub (fBin gPow (fC (.int 10)) (fC (.int 40))) (fC (.int 1))) (fCall g__law_take (fCons (fVar 0) (fCons (fC (.int 30)) (fNil))))) (fNil)))))) (sSkip))
  (sRet (fCall g__law_beside (fCons (fVar 0) (fCons (fVar 1) (fCons (fVar 2) (fCons (fVar 3) (fNil))))))))))))))
def g__law_number : List D → S → Out D := arN 2 (den 5 m__law_number)
/-- _law_numbers: 0 bag, 1 many, 2 row, 3 k -/
def m__law_numbers : FS :=
  sSeq (sSet 2 (fLst (fNil)))
  (sSeq (sForR1 (fCons (fVar 1) (fNil)) (tgN 3) (sExpr (fLM gAppend (fVar 2) (fCons (fCall g__law_number (fCons (fVar 0) (fCons (fVar 2) (fNil)))) (fNil)))))
  (sRet (fVar 2)))
def g__law_numbers : List D → S → Out D := arN 2 (den 4 m__law_numbers)
/-- _law_written: 0 a -/
def m__law_written : FS :=
  sSeq (sIf (fIsB (fBin gEq (fBin gIx (fVar 0) (fC (.int 1))) (fC (.int 1)))) (sRet (fArgs gStr (fCons (fBin gIx (fVar 0) (fC (.int 0))) (fNil)))) (sSkip))
  (sRet (fBin gAdd (fBin gAdd (fArgs gStr (fCons (fBin gIx (fVar 0) (fC (.int 0))) (fNil))) (fC (.str ("/" : Str)))) (fArgs gStr (fCons (fBin gIx (fVar 0) (fC (.int 1))) (fNil)))))
def g__law_written : List D → S → Out D := arN 1 (den 1 m__law_written)
/-- _law_little: 0 bag, 1 limits, 2 above, 3 below -/
def m__law_little : FS :=
  sSeq (sSet 1 (fLst (fCons (fC (.int 10)) (fCons (fC (.int 1000)) (fCons (fBin gPow (fC (.int 10)) (fC (.int 9))) (fCons (fBin gPow (fC (.int 10)) (fC (.int 18))) (fNil)))))))
  (sSeq (sSet 2 (fBin gMod (fArgs gIntS (fCons (fCall g__law_large (fCons (fVar 0) (fNil))) (fNil))) (fBin gIx (fVar 1) (fCall g__law_take (fCons (fVar 0) (fCons (fC (.int 4)) (fNil)))))))
  (sSeq (sSet 3 (fC (.int 1)))
  (sSeq (sIf (fIsB (fBin gEq (fCall g__law_take (fCons (fVar 0) (fCons (fC (.int 2)) (fNil)))) (fC (.int 0)))) (sSet 3 (fBin gAdd (fC (.int 1)) (fBin gMod (fArgs gIntS (fCons (fCall g__law_large (fCons (fVar 0) (fNil))) (fNil))) (fBin gSub (fBin gIx (fVar 1) (fCall g__law_take (fCons (fVar 0) (fCons (fC (.int 4)) (fNil))))) (fC (.int 1)))))) (sSkip))
  (sRet (fCall g__law_lowest (fCons (fBin gMul (fVar 2) (fBin gSub (fC (.int 1)) (fBin gMul (fC (.int 2)) (fCall g__law_take (fCons (fVar 0) (fCons (fC (.int 2)) (fNil))))))) (fCons (fVar 3) (fNil))))))))
def g__law_little : List D → S → Out D := arN 1 (den 4 m__law_little)
/-- _law_bent: 0 bag, 1 word, 2 chars, 3 k, 4 at, 5 char, 6 way -/
def m__law_bent : FS :=
  sSeq (sSet 2 (fC (.str ("0123456789-/ +._,:xeO\n\t" : Str))))
  (sSeq (sForR1 (fCons (fBin gAdd (fC (.int 1)) (fCall g__law_take (fCons (fVar 0) (fCons (fC (.int 3)) (fNil))))) (fNil)) (tgN 3) (sSeq (sSet 4 (fCall g__law_take (fCons (fVar 0) (fCons (fBin gAdd (fArgs gLen (fCons (fVar 1) (fNil))) (fC (.int 1))) (fNil)))))
  (sSeq (sSet 5 (fBin gIx (fVar 2) (fCall g__law_take (fCons (fVar 0) (fCons (fArgs gLen (fCons (fVar 2) (fNil))) (fNil))))))
  (sSeq (sSet 6 (fCall g__law_take (fCons (fVar 0) (fCons (fC (.int 4)) (fNil)))))
  (sIf (fIsB (fBin gEq (fVar 6) (fC (.int 0)))) (sSet 1 (fBin gAdd (fBin gAdd (fSl gSl (fVar 1) (fNo) (fPart (fVar 4))) (fVar 5)) (fSl gSl (fVar 1) (fPart (fVar 4)) (fNo)))) (sIf (fIsB (fBin gEq (fVar 6) (fC (.int 1)))) (sSet 1 (fBin gAdd (fBin gAdd (fSl gSl (fVar 1) (fNo) (fPart (fVar 4))) (fVar 5)) (fSl gSl (fVar 1) (fPart (fBin gAdd (fVar 4) (fC (.int 1)))) (fNo)))) (sIf (fIsB (fBin gEq (fVar 6) (fC (.int 2)))) (sSet 1 (fBin gAdd (fSl gSl (fVar 1) (fNo) (fPart (fVar 4))) (fSl gSl (fVar 1) (fPart (fBin gAdd (fVar 4) (fC (.int 1)))) (fNo)))) (sSet 1 (fBin gAdd (fBin gAdd (fSl gSl (fVar 1) (fNo) (fPart (fVar 4))) (fSl gSl (fVar 1) (fPart (fVar 4)) (fPart (fBin gAdd (fVar 4) (fC (.int 1)))))) (fSl gSl (fVar 1) (fPart (fVar 4)) (fNo)))))))))))
  (sRet (fVar 1)))
def g__law_bent : List D → S → Out D := arN 2 (den 7 m__law_bent)
/-- _law_drawn: 0 bag, 1 chars, 2 word, 3 k -/
def m__law_drawn : FS :=
  sSeq (sSet 1 (fC (.str ("00123456789246/-/-+ " : Str))))
  (sSeq (sSet 2 (fC (.str ("" : Str))))
  (sSeq (sForR1 (fCons (fCall g__law_take (fCons (fVar 0) (fCons (fC (.int 8)) (fNil)))) (fNil)) (tgN 3) (sSet 2 (fBin gAdd (fVar 2) (fBin gIx (fVar 1) (fCall g__law_take (fCons (fVar 0) (fCons (fArgs gLen (fCons (fVar 1) (fNil))) (fNil))))))))
  (sRet (fVar 2))))
def g__law_drawn : List D → S → Out D := arN 1 (den 4 m__law_drawn)
/-- _is_integer: 0 value -/
def m__is_integer : FS :=
  sRet (fAndV (fUn (gIsi "int") (fVar 0)) (fNotV (fUn (gIsi "bool") (fVar 0))))
def g__is_integer : List D → S → Out D := arN 1 (den 1 m__is_integer)
/-- is_number: 0 value, 1 top, 2 bottom -/
def m_is_number : FS :=
  sSeq (sIf (fOr (fNot (fTru (fUn (gIsi "tuple") (fVar 0)))) (fIsB (fBin gNe (fArgs gLen (fCons (fVar 0) (fNil))) (fC (.int 2))))) (sRet (fC (.bl false))) (sSkip))
  (sSeq (sAsg (tgTup [tgN 1, tgN 2]) (fVar 0))
  (sSeq (sIf (fOr (fNot (fTru (fCall g__is_integer (fCons (fVar 1) (fNil))))) (fNot (fTru (fCall g__is_integer (fCons (fVar 2) (fNil)))))) (sRet (fC (.bl false))) (sSkip))
  (sRet (fAndV (fBin gGe (fVar 2) (fC (.int 1))) (fBin gEq (fArgs gGcd (fCons (fVar 1) (fCons (fVar 2) (fNil)))) (fC (.int 1)))))))
def g_is_number : List D → S → Out D := arN 1 (den 3 m_is_number)
/-- _digits_value: 0 digits, 1 value, 2 character, 3 digit -/
def m__digits_value : FS :=
  sSeq (sIf (fIsB (fBin gEq (fVar 0) (fC (.str ("" : Str))))) (sRet (fC .non)) (sSkip))
  (sSeq (sIf (fAnd (fIsB (fBin gEq (fBin gIx (fVar 0) (fC (.int 0))) (fC (.str ("0" : Str))))) (fIsB (fBin gGt (fArgs gLen (fCons (fVar 0) (fNil))) (fC (.int 1))))) (sRet (fC .non)) (sSkip))
  (sSeq (sSet 1 (fC (.int 0)))
  (sSeq (sFor (fVar 0) (tgN 2) (sSeq (sSet 3 (fM1 gFind (fC c_DIGITS) (fVar 2)))
  (sSeq (sIf (fIsB (fBin gLt (fVar 3) (fC (.int 0)))) (sRet (fC .non)) (sSkip))
  (sSet 1 (fBin gAdd (fBin gMul (fVar 1) (fC (.int 10))) (fVar 3))))))
  (sRet (fVar 1)))))
def g__digits_value : List D → S → Out D := arN 1 (den 4 m__digits_value)
/-- parse_number: 0 text, 1 negative, 2 unsigned, 3 pieces, 4 top, 5 bottom, 6 number -/
def m_parse_number : FS :=
  sSeq (sSet 1 (fM1 gStarts (fVar 0) (fC (.str ("-" : Str)))))
  (sSeq (sSet 2 (fIf (fTru (fVar 1)) (fSl gSl (fVar 0) (fPart (fC (.int 1))) (fNo)) (fVar 0)))
  (sSeq (sSet 3 (fM1 gSplit (fVar 2) (fC (.str ("/" : Str)))))
  (sSeq (sIf (fIsB (fBin gGt (fArgs gLen (fCons (fVar 3) (fNil))) (fC (.int 2)))) (sRaise ("BadText" : Str) [("text" : Str)] (fCons (fVar 0) (fNil))) (sSkip))
  (sSeq (sSet 4 (fCall g__digits_value (fCons (fBin gIx (fVar 3) (fC (.int 0))) (fNil))))
  (sSeq (sSet 5 (fC (.int 1)))
  (sSeq (sIf (fIsB (fBin gEq (fArgs gLen (fCons (fVar 3) (fNil))) (fC (.int 2)))) (sSet 5 (fCall g__digits_value (fCons (fBin gIx (fVar 3) (fC (.int 1))) (fNil)))) (sSkip))
  (sSeq (sIf (fOr (fIsB (fBin gIs (fVar 4) (fC .non))) (fIsB (fBin gIs (fVar 5) (fC .non)))) (sRaise ("BadText" : Str) [("text" : Str)] (fCons (fVar 0) (fNil))) (sSkip))
  (sSeq (sIf (fAnd (fTru (fVar 1)) (fIsB (fBin gEq (fVar 4) (fC (.int 0))))) (sRaise ("BadText" : Str) [("text" : Str)] (fCons (fVar 0) (fNil))) (sSkip))
  (sSeq (sIf (fAnd (fIsB (fBin gEq (fArgs gLen (fCons (fVar 3) (fNil))) (fC (.int 2)))) (fIsB (fBin gEq (fVar 5) (fC (.int 1))))) (sRaise ("BadText" : Str) [("text" : Str)] (fCons (fVar 0) (fNil))) (sSkip))
  (sSeq (sSet 6 (fIf (fTru (fVar 1)) (fTup (fCons (fUn gNeg (fVar 4)) (fCons (fVar 5) (fNil)))) (fTup (fCons (fVar 4) (fCons (fVar 5) (fNil))))))
  (sSeq (sIf (fNot (fTru (fCall g_is_number (fCons (fVar 6) (fNil))))) (sRaise ("BadText" : Str) [("text" : Str)] (fCons (fVar 0) (fNil))) (sSkip))
  (sRet (fVar 6)))))))))))))
def g_parse_number : List D → S → Out D := arN 1 (den 7 m_parse_number)
/-- _law_refused_by_base: 0 word, 1 e -/
def m__law_refused_by_base : FS :=
  sSeq (sTryAs 1 tx_FitError (sExpr (fCall g_parse_number (fCons (fVar 0) (fNil)))) (fun e k => sRet (fAndV (fIsX k e ti_BadText (fVar 1)) (fAndV (fIsX k e ti_ValueError (fVar 1)) (fBin gEq (fXf k e cs_text ("text" : Str) (fVar 1)) (fVar 0))))))
  (sRet (fC (.bl false)))
def g__law_refused_by_base : List D → S → Out D := arN 1 (den 2 m__law_refused_by_base)
/-- _law_integer: 0 thing -/
def m__law_integer : FS :=
  sRet (fAndV (fUn (gIsi "int") (fVar 0)) (fNotV (fUn (gIsi "bool") (fVar 0))))
def g__law_integer : List D → S → Out D := arN 1 (den 1 m__law_integer)
/-- _law_is: 0 answer, 1 due -/
def m__law_is : FS :=
  sSeq (sIf (fOr (fNot (fTru (fUn (gIsi "tuple") (fVar 0)))) (fIsB (fBin gNe (fArgs gLen (fCons (fVar 0) (fNil))) (fC (.int 2))))) (sRet (fC (.bl false))) (sSkip))
  (sSeq (sIf (fOr (fNot (fTru (fCall g__law_integer (fCons (fBin gIx (fVar 0) (fC (.int 0))) (fNil))))) (fNot (fTru (fCall g__law_integer (fCons (fBin gIx (fVar 0) (fC (.int 1))) (fNil)))))) (sRet (fC (.bl false))) (sSkip))
  (sRet (fAndV (fBin gEq (fBin gIx (fVar 0) (fC (.int 0))) (fBin gIx (fVar 1) (fC (.int 0)))) (fBin gEq (fBin gIx (fVar 0) (fC (.int 1))) (fBin gIx (fVar 1) (fC (.int 1)))))))
def g__law_is : List D → S → Out D := arN 2 (den 2 m__law_is)
/-- _law_digits: 0 word, 1 char -/
def m__law_digits : FS :=
  sSeq (sIf (fOr (fIsB (fBin gEq (fVar 0) (fC (.str ("" : Str))))) (fAnd (fIsB (fBin gGt (fArgs gLen (fCons (fVar 0) (fNil))) (fC (.int 1)))) (fIsB (fBin gEq (fBin gIx (fVar 0) (fC (.int 0))) (fC (.str ("0" : Str))))))) (sRet (fC (.bl false))) (sSkip))
  (sSeq (sFor (fVar 0) (tgN 1) (sIf (fIsB (fBin (inS true) (fVar 1) (fC (.str ("0123456789" : Str))))) (sRet (fC (.bl false))) (sSkip)))
  (sRet (fC (.bl true))))
def g__law_digits : List D → S → Out D := arN 1 (den 2 m__law_digits)
/-- _law_read: 0 word, 1 rest, 2 parts, 3 above, 4 below -/
def m__law_read : FS :=
  sSeq (sSet 1 (fVar 0))
  (sSeq (sIf (fIsB (fBin gEq (fSl gSl (fVar 0) (fNo) (fPart (fC (.int 1)))) (fC (.str ("-" : Str))))) (sSet 1 (fSl gSl (fVar 0) (fPart (fC (.int 1))) (fNo))) (sSkip))
  (sSeq (sSet 2 (fM1 gSplit (fVar 1) (fC (.str ("/" : Str)))))
  (sSeq (sIf (fOr (fIsB (fBin gGt (fArgs gLen (fCons (fVar 2) (fNil))) (fC (.int 2)))) (fNot (fTru (fCall g__law_digits (fCons (fBin gIx (fVar 2) (fC (.int 0))) (fNil)))))) (sRet (fC .non)) (sSkip))
  (sSeq (sSet 3 (fArgs gIntS (fCons (fBin gIx (fVar 2) (fC (.int 0))) (fNil))))
  (sSeq (sIf (fIsB (fBin gNe (fVar 1) (fVar 0))) (sSeq (sIf (fIsB (fBin gEq (fVar 3) (fC (.int 0)))) (sRet (fC .non)) (sSkip))
  (sSet 3 (fUn gNeg (fVar 3)))) (sSkip))
  (sSeq (sIf (fIsB (fBin gEq (fArgs gLen (fCons (fVar 2) (fNil))) (fC (.int 1)))) (sRet (fTup (fCons (fVar 3) (fCons (fC (.int 1)) (fNil))))) (sSkip))
  (sSeq (sIf (fNot (fTru (fCall g__law_digits (fCons (fBin gIx (fVar 2) (fC (.int 1))) (fNil))))) (sRet (fC .non)) (sSkip))
  (sSeq (sSet 4 (fArgs gIntS (fCons (fBin gIx (fVar 2) (fC (.int 1))) (fNil))))
  (sSeq (sIf (fOr (fIsB (fBin gLt (fVar 4) (fC (.int 2)))) (fIsB (fBin gNe (fCall g__law_divisor (fCons (fArgs gAbs (fCons (fVar 3) (fNil))) (fCons (fVar 4) (fNil)))) (fC (.int 1))))) (sRet (fC .non)) (sSkip))
  (sRet (fTup (fCons (fVar 3) (fCons (fVar 4) (fNil))))))))))))))
def g__law_read : List D → S → Out D := arN 1 (den 5 m__law_read)
/-- _law_refused: 0 word, 1 e -/
def m__law_refused : FS :=
  sSeq (sTryAs 1 tx_BadText (sExpr (fCall g_parse_number (fCons (fVar 0) (fNil)))) (fun e k => sSeq (sIf (fOr (fTru (fIsX k e ti_BadNumber (fVar 1))) (fTru (fIsX k e ti_BadSpan (fVar 1)))) (sRet (fC (.bl false))) (sSkip))
  (sSeq (sIf (fOr (fTru (fIsX k e ti_BadForm (fVar 1))) (fTru (fIsX k e ti_BadPlace (fVar 1)))) (sRet (fC (.bl false))) (sSkip))
  (sSeq (sIf (fOr (fNot (fTru (fIsX k e ti_FitError (fVar 1)))) (fNot (fTru (fIsX k e ti_ValueError (fVar 1))))) (sRet (fC (.bl false))) (sSkip))
  (sRet (fAndV (fUn (gIsi "str") (fXf k e cs_text ("text" : Str) (fVar 1))) (fBin gEq (fXf k e cs_text ("text" : Str) (fVar 1)) (fVar 0))))))))
  (sRet (fC (.bl false)))
def g__law_refused : List D → S → Out D := arN 1 (den 2 m__law_refused)
/-- _law_text_right: 0 word, 1 due -/
def m__law_text_right : FS :=
  sSeq (sSet 1 (fCall g__law_read (fCons (fVar 0) (fNil))))
  (sSeq (sIf (fIsB (fBin gIs (fVar 1) (fC .non))) (sRet (fCall g__law_refused (fCons (fVar 0) (fNil)))) (sSkip))
  (sRet (fCall g__law_is (fCons (fCall g_parse_number (fCons (fVar 0) (fNil))) (fCons (fVar 1) (fNil))))))
def g__law_text_right : List D → S → Out D := arN 1 (den 2 m__law_text_right)
/-- format_number: 0 a, 1 top, 2 bottom -/
def m_format_number : FS :=
  sSeq (sAsg (tgTup [tgN 1, tgN 2]) (fVar 0))
  (sSeq (sIf (fIsB (fBin gEq (fVar 2) (fC (.int 1)))) (sRet (fArgs gStr (fCons (fVar 1) (fNil)))) (sSkip))
  (sRet (fJs [fFmt (fVar 1), fC (.str ("/" : Str)), fFmt (fVar 2)] Str.empty)))
def g_format_number : List D → S → Out D := arN 1 (den 3 m_format_number)
/-- _law_odd: 0 a, 1 factor, 2 word, 3 above, 4 plain, 5 below, 6 row -/
def m__law_odd : FS :=
  sSeq (sSet 2 (fCall g__law_written (fCons (fVar 0) (fNil))))
  (sSeq (sSet 3 (fArgs gStr (fCons (fBin gIx (fVar 0) (fC (.int 0))) (fNil))))
  (sSeq (sSet 4 (fArgs gStr (fCons (fArgs gAbs (fCons (fBin gIx (fVar 0) (fC (.int 0))) (fNil))) (fNil))))
  (sSeq (sSet 5 (fArgs gStr (fCons (fBin gIx (fVar 0) (fC (.int 1))) (fNil))))
  (sSeq (sSet 6 (fLst (fCons (fC (.str ("" : Str))) (fCons (fC (.str ("-" : Str))) (fCons (fC (.str ("/" : Str))) (fCons (fBin gAdd (fC (.str (" " : Str))) (fVar 2)) (fCons (fBin gAdd (fVar 2) (fC (.str (" " : Str)))) (fCons (fBin gAdd (fVar 2) (fC (.str ("\n" : Str)))) (fCons (fBin gAdd (fC (.str ("\t" : Str))) (fVar 2)) (fCons (fBin gAdd (fC (.str ("+" : Str))) (fVar 2)) (fCons (fBin gAdd (fC (.str ("0" : Str))) (fVar 2)) (fNil))))))))))))
  (sSeq (sSet 6 (fBin gAdd (fVar 6) (fLst (fCons (fBin gAdd (fC (.str ("--" : Str))) (fVar 4)) (fCons (fBin gAdd (fC (.str ("- " : Str))) (fVar 4)) (fCons (fBin gAdd (fC (.str ("-0" : Str))) (fVar 4)) (fCons (fC (.str ("-0" : Str))) (fCons (fC (.str ("-0/3" : Str))) (fCons (fBin gAdd (fC (.str ("0/" : Str))) (fArgs gStr (fCons (fBin gAdd (fBin gIx (fVar 0) (fC (.int 1))) (fC (.int 1))) (fNil)))) (fNil))))))))))
  (sSeq (sSet 6 (fBin gAdd (fVar 6) (fLst (fCons (fBin gAdd (fVar 2) (fC (.str ("/1" : Str)))) (fCons (fBin gAdd (fVar 2) (fC (.str ("/" : Str)))) (fCons (fBin gAdd (fC (.str ("/" : Str))) (fVar 2)) (fCons (fBin gAdd (fVar 3) (fC (.str ("/0" : Str)))) (fCons (fBin gAdd (fBin gAdd (fVar 3) (fC (.str ("/-" : Str)))) (fVar 5)) (fNil)))))))))
  (sSeq (sSet 6 (fBin gAdd (fVar 6) (fLst (fCons (fBin gAdd (fBin gAdd (fVar 3) (fC (.str ("/+" : Str)))) (fVar 5)) (fCons (fBin gAdd (fBin gAdd (fVar 3) (fC (.str ("/0" : Str)))) (fVar 5)) (fCons (fBin gAdd (fBin gAdd (fVar 3) (fC (.str ("//" : Str)))) (fVar 5)) (fCons (fBin gAdd (fBin gAdd (fVar 3) (fC (.str (" /" : Str)))) (fVar 5)) (fNil))))))))
  (sSeq (sSet 6 (fBin gAdd (fVar 6) (fLst (fCons (fBin gAdd (fBin gAdd (fVar 3) (fC (.str ("/ " : Str)))) (fVar 5)) (fCons (fBin gAdd (fBin gAdd (fArgs gStr (fCons (fBin gMul (fBin gIx (fVar 0) (fC (.int 0))) (fVar 1)) (fNil))) (fC (.str ("/" : Str)))) (fArgs gStr (fCons (fBin gMul (fBin gIx (fVar 0) (fC (.int 1))) (fVar 1)) (fNil)))) (fNil))))))
  (sSeq (sSet 6 (fBin gAdd (fVar 6) (fLst (fCons (fBin gAdd (fBin gAdd (fVar 3) (fC (.str ("," : Str)))) (fVar 5)) (fCons (fBin gAdd (fVar 3) (fC (.str ("_0" : Str)))) (fNil))))))
  (sRet (fBin gAdd (fVar 6) (fLst (fCons (fBin gAdd (fVar 2) (fC (.str (".0" : Str)))) (fCons (fBin gAdd (fVar 2) (fC (.str ("e1" : Str)))) (fCons (fBin gAdd (fVar 2) (fC (.str ("x" : Str)))) (fCons (fBin gAdd (fBin gAdd (fC (.str ("(" : Str))) (fVar 2)) (fC (.str (")" : Str)))) (fCons (fBin gAdd (fBin gAdd (fVar 2) (fC (.str (" " : Str)))) (fVar 2)) (fNil))))))))))))))))))
def g__law_odd : List D → S → Out D := arN 2 (den 7 m__law_odd)
/-- _law_number_right: 0 a, 1 factor, 2 answer, 3 word -/
def m__law_number_right : FS :=
  sSeq (sSet 2 (fCall g_format_number (fCons (fVar 0) (fNil))))
  (sSeq (sIf (fOr (fNot (fTru (fUn (gIsi "str") (fVar 2)))) (fIsB (fBin gNe (fVar 2) (fCall g__law_written (fCons (fVar 0) (fNil)))))) (sRet (fC (.bl false))) (sSkip))
  (sSeq (sIf (fNot (fTru (fCall g__law_is (fCons (fCall g_parse_number (fCons (fCall g__law_written (fCons (fVar 0) (fNil))) (fNil))) (fCons (fVar 0) (fNil)))))) (sRet (fC (.bl false))) (sSkip))
  (sSeq (sFor (fCall g__law_odd (fCons (fVar 0) (fCons (fVar 1) (fNil)))) (tgN 3) (sIf (fNot (fTru (fCall g__law_text_right (fCons (fVar 3) (fNil))))) (sRet (fC (.bl false))) (sSkip)))
  (sRet (fCall g__law_refused_by_base (fCons (fBin gAdd (fCall g__law_written (fCons (fVar 0) (fNil))) (fC (.str ("/1" : Str)))) (fNil)))))))
def g__law_number_right : List D → S → Out D := arN 2 (den 4 m__law_number_right)
/-- law: 0 script, 1 bag, 2 a, 3 k, 4 word, 5 factor -/
def m_law : FS :=
  sSeq (sSet 1 (fCall g__law_bag (fCons (fVar 0) (fNil))))
  (sSeq (sFor (fCall g__law_numbers (fCons (fVar 1) (fCons (fBin gAdd (fC (.int 1)) (fCall g__law_take (fCons (fVar 1) (fCons (fC (.int 4)) (fNil))))) (fNil)))) (tgN 2) (sSeq (sSet 5 (fBin gAdd (fC (.int 2)) (fCall g__law_take (fCons (fVar 1) (fCons (fC (.int 8)) (fNil))))))
  (sSeq (sIf (fIsB (fBin gEq (fCall g__law_take (fCons (fVar 1) (fCons (fC (.int 2)) (fNil)))) (fC (.int 1)))) (sSet 5 (fBin gAdd (fC (.int 2)) (fCall g__law_take (fCons (fVar 1) (fCons (fC (.int 100000000)) (fNil)))))) (sSkip))
  (sIf (fNot (fTru (fCall g__law_number_right (fCons (fVar 2) (fCons (fVar 5) (fNil)))))) (sRet (fC (.bl false))) (sSkip)))))
  (sSeq (sForR1 (fCons (fBin gAdd (fC (.int 2)) (fCall g__law_take (fCons (fVar 1) (fCons (fC (.int 5)) (fNil))))) (fNil)) (tgN 3) (sSeq (sSet 4 (fCall g__law_written (fCons (fCall g__law_little (fCons (fVar 1) (fNil))) (fNil))))
  (sSeq (sIf (fOr (fNot (fTru (fCall g__law_text_right (fCons (fVar 4) (fNil))))) (fNot (fTru (fCall g__law_text_right (fCons (fCall g__law_bent (fCons (fVar 1) (fCons (fVar 4) (fNil)))) (fNil)))))) (sRet (fC (.bl false))) (sSkip))
  (sIf (fNot (fTru (fCall g__law_text_right (fCons (fCall g__law_drawn (fCons (fVar 1) (fNil))) (fNil))))) (sRet (fC (.bl false))) (sSkip)))))
  (sSeq (sFor (fLst (fCons (fC (.str ("0" : Str))) (fCons (fC (.str ("1" : Str))) (fCons (fC (.str ("-1" : Str))) (fCons (fC (.str ("10" : Str))) (fCons (fC (.str ("1/2" : Str))) (fCons (fC (.str ("-1/2" : Str))) (fCons (fC (.str ("10/3" : Str))) (fCons (fC (.str ("100/9" : Str))) (fCons (fC (.str ("-7/10" : Str))) (fCons (fC (.str ("0/1" : Str))) (fCons (fC (.str ("01" : Str))) (fCons (fC (.str ("1/10/3" : Str))) (fNil)))))))))))))) (tgN 4) (sIf (fNot (fTru (fCall g__law_text_right (fCons (fVar 4) (fNil))))) (sRet (fC (.bl false))) (sSkip)))
  (sRet (fCall g__law_refused_by_base (fCons (fC (.str ("" : Str))) (fNil)))))))
def g_law : List D → S → Out D := arN 1 (den 6 m_law)
end
end K01

set_option Elab.async false
set_option linter.all false
set_option maxRecDepth 100000
set_option maxHeartbeats 0
/-! law_k01_number_texts: each def does as its denotation says (printed by gen.py) -/
namespace K01
open PySem PySem.Spec PyProof.Rows L2 MP
def top (i : Nat) : Stmt := PySem.Challenge.pw_pagefit_k01_number_texts.main.body.getD i (.Pass ⟨0, 0, 0, 0⟩)
abbrev st__law_bag : Stmt := top 16
abbrev st__law_mixed : Stmt := top 17
abbrev st__law_take : Stmt := top 18
abbrev st__law_large : Stmt := top 19
abbrev st__law_divisor : Stmt := top 20
abbrev st__law_lowest : Stmt := top 21
abbrev st__law_beside : Stmt := top 22
abbrev st__law_number : Stmt := top 23
abbrev st__law_numbers : Stmt := top 24
abbrev st__law_written : Stmt := top 27
abbrev st__law_little : Stmt := top 31
abbrev st__law_bent : Stmt := top 32
abbrev st__law_drawn : Stmt := top 33
abbrev st__is_integer : Stmt := top 11
abbrev st_is_number : Stmt := top 10
abbrev st__digits_value : Stmt := top 14
abbrev st_parse_number : Stmt := top 13
abbrev st__law_refused_by_base : Stmt := top 35
abbrev st__law_integer : Stmt := top 25
abbrev st__law_is : Stmt := top 26
abbrev st__law_digits : Stmt := top 28
abbrev st__law_read : Stmt := top 29
abbrev st__law_refused : Stmt := top 34
abbrev st__law_text_right : Stmt := top 36
abbrev st_format_number : Stmt := top 12
abbrev st__law_odd : Stmt := top 30
abbrev st__law_number_right : Stmt := top 37
abbrev st_law : Stmt := top 38
theorem sc__law_bag : FnScope [("script" : Str), ("bag" : Str), ("cell" : Str)] [("script" : Str)] (defScope st__law_bag) := ⟨rfl, rfl, rfl, by decide +kernel, rfl, by decide +kernel, by decide +kernel⟩
theorem sc__law_mixed : FnScope [("cell" : Str), ("turn" : Str), ("first" : Str), ("second" : Str)] [("cell" : Str), ("turn" : Str)] (defScope st__law_mixed) := ⟨rfl, rfl, rfl, by decide +kernel, rfl, by decide +kernel, by decide +kernel⟩
theorem sc__law_take : FnScope [("bag" : Str), ("many" : Str), ("cell" : Str)] [("bag" : Str), ("many" : Str)] (defScope st__law_take) := ⟨rfl, rfl, rfl, by decide +kernel, rfl, by decide +kernel, by decide +kernel⟩
theorem sc__law_large : FnScope [("bag" : Str), ("grown" : Str), ("k" : Str)] [("bag" : Str)] (defScope st__law_large) := ⟨rfl, rfl, rfl, by decide +kernel, rfl, by decide +kernel, by decide +kernel⟩
theorem sc__law_divisor : FnScope [("a" : Str), ("b" : Str), ("k" : Str)] [("a" : Str), ("b" : Str)] (defScope st__law_divisor) := ⟨rfl, rfl, rfl, by decide +kernel, rfl, by decide +kernel, by decide +kernel⟩
theorem sc__law_lowest : FnScope [("above" : Str), ("below" : Str), ("divisor" : Str)] [("above" : Str), ("below" : Str)] (defScope st__law_lowest) := ⟨rfl, rfl, rfl, by decide +kernel, rfl, by decide +kernel, by decide +kernel⟩
theorem sc__law_beside : FnScope [("bag" : Str), ("before" : Str), ("way" : Str), ("side" : Str), ("mate" : Str), ("factor" : Str)] [("bag" : Str), ("before" : Str), ("way" : Str), ("side" : Str)] (defScope st__law_beside) := ⟨rfl, rfl, rfl, by decide +kernel, rfl, by decide +kernel, by decide +kernel⟩
theorem sc__law_number : FnScope [("bag" : Str), ("before" : Str), ("way" : Str), ("side" : Str), ("above" : Str)] [("bag" : Str), ("before" : Str)] (defScope st__law_number) := ⟨rfl, rfl, rfl, by decide +kernel, rfl, by decide +kernel, by decide +kernel⟩
theorem sc__law_numbers : FnScope [("bag" : Str), ("many" : Str), ("row" : Str), ("k" : Str)] [("bag" : Str), ("many" : Str)] (defScope st__law_numbers) := ⟨rfl, rfl, rfl, by decide +kernel, rfl, by decide +kernel, by decide +kernel⟩
theorem sc__law_written : FnScope [("a" : Str)] [("a" : Str)] (defScope st__law_written) := ⟨rfl, rfl, rfl, by decide +kernel, rfl, by decide +kernel, by decide +kernel⟩
theorem sc__law_little : FnScope [("bag" : Str), ("limits" : Str), ("above" : Str), ("below" : Str)] [("bag" : Str)] (defScope st__law_little) := ⟨rfl, rfl, rfl, by decide +kernel, rfl, by decide +kernel, by decide +kernel⟩
theorem sc__law_bent : FnScope [("bag" : Str), ("word" : Str), ("chars" : Str), ("k" : Str), ("at" : Str), ("char" : Str), ("way" : Str)] [("bag" : Str), ("word" : Str)] (defScope st__law_bent) := ⟨rfl, rfl, rfl, by decide +kernel, rfl, by decide +kernel, by decide +kernel⟩
theorem sc__law_drawn : FnScope [("bag" : Str), ("chars" : Str), ("word" : Str), ("k" : Str)] [("bag" : Str)] (defScope st__law_drawn) := ⟨rfl, rfl, rfl, by decide +kernel, rfl, by decide +kernel, by decide +kernel⟩
theorem sc__is_integer : FnScope [("value" : Str)] [("value" : Str)] (defScope st__is_integer) := ⟨rfl, rfl, rfl, by decide +kernel, rfl, by decide +kernel, by decide +kernel⟩
theorem sc_is_number : FnScope [("value" : Str), ("top" : Str), ("bottom" : Str)] [("value" : Str)] (defScope st_is_number) := ⟨rfl, rfl, rfl, by decide +kernel, rfl, by decide +kernel, by decide +kernel⟩
theorem sc__digits_value : FnScope [("digits" : Str), ("value" : Str), ("character" : Str), ("digit" : Str)] [("digits" : Str)] (defScope st__digits_value) := ⟨rfl, rfl, rfl, by decide +kernel, rfl, by decide +kernel, by decide +kernel⟩
theorem sc_parse_number : FnScope [("text" : Str), ("negative" : Str), ("unsigned" : Str), ("pieces" : Str), ("top" : Str), ("bottom" : Str), ("number" : Str)] [("text" : Str)] (defScope st_parse_number) := ⟨rfl, rfl, rfl, by decide +kernel, rfl, by decide +kernel, by decide +kernel⟩
theorem sc__law_refused_by_base : FnScope [("word" : Str), ("e" : Str)] [("word" : Str)] (defScope st__law_refused_by_base) := ⟨rfl, rfl, rfl, by decide +kernel, rfl, by decide +kernel, by decide +kernel⟩
theorem sc__law_integer : FnScope [("thing" : Str)] [("thing" : Str)] (defScope st__law_integer) := ⟨rfl, rfl, rfl, by decide +kernel, rfl, by decide +kernel, by decide +kernel⟩
theorem sc__law_is : FnScope [("answer" : Str), ("due" : Str)] [("answer" : Str), ("due" : Str)] (defScope st__law_is) := ⟨rfl, rfl, rfl, by decide +kernel, rfl, by decide +kernel, by decide +kernel⟩
theorem sc__law_digits : FnScope [("word" : Str), ("char" : Str)] [("word" : Str)] (defScope st__law_digits) := ⟨rfl, rfl, rfl, by decide +kernel, rfl, by decide +kernel, by decide +kernel⟩
theorem sc__law_read : FnScope [("word" : Str), ("rest" : Str), ("parts" : Str), ("above" : Str), ("below" : Str)] [("word" : Str)] (defScope st__law_read) := ⟨rfl, rfl, rfl, by decide +kernel, rfl, by decide +kernel, by decide +kernel⟩
theorem sc__law_refused : FnScope [("word" : Str), ("e" : Str)] [("word" : Str)] (defScope st__law_refused) := ⟨rfl, rfl, rfl, by decide +kernel, rfl, by decide +kernel, by decide +kernel⟩
theorem sc__law_text_right : FnScope [("word" : Str), ("due" : Str)] [("word" : Str)] (defScope st__law_text_right) := ⟨rfl, rfl, rfl, by decide +kernel, rfl, by decide +kernel, by decide +kernel⟩
theorem sc_format_number : FnScope [("a" : Str), ("top" : Str), ("bottom" : Str)] [("a" : Str)] (defScope st_format_number) := ⟨rfl, rfl, rfl, by decide +kernel, rfl, by decide +kernel, by decide +kernel⟩
theorem sc__law_odd : FnScope [("a" : Str), ("factor" : Str), ("word" : Str), ("above" : Str), ("plain" : Str), ("below" : Str), ("row" : Str)] [("a" : Str), ("factor" : Str)] (defScope st__law_odd) := ⟨rfl, rfl, rfl, by decide +kernel, rfl, by decide +kernel, by decide +kernel⟩
theorem sc__law_number_right : FnScope [("a" : Str), ("factor" : Str), ("answer" : Str), ("word" : Str)] [("a" : Str), ("factor" : Str)] (defScope st__law_number_right) := ⟨rfl, rfl, rfl, by decide +kernel, rfl, by decide +kernel, by decide +kernel⟩
theorem sc_law : FnScope [("script" : Str), ("bag" : Str), ("a" : Str), ("k" : Str), ("word" : Str), ("factor" : Str)] [("script" : Str)] (defScope st_law) := ⟨rfl, rfl, rfl, by decide +kernel, rfl, by decide +kernel, by decide +kernel⟩
theorem fn_BadText : FN [("text" : Str)] := ⟨by decide, by decide +kernel, by decide +kernel, fields1 (by unfold Bound1; intros; first | rfl | with_unfolding_all rfl), by decide⟩
structure Gs (P : Program) (K : PySem.W.Frag) (mg : Str → Option Value) : Prop where
  free_ValueError : mg ("ValueError" : Str) = none
  free_abs : mg ("abs" : Str) = none
  free_bool : mg ("bool" : Str) = none
  free_int : mg ("int" : Str) = none
  free_isinstance : mg ("isinstance" : Str) = none
  free_len : mg ("len" : Str) = none
  free_range : mg ("range" : Str) = none
  free_str : mg ("str" : Str) = none
  free_sum : mg ("sum" : Str) = none
  free_tuple : mg ("tuple" : Str) = none
  blt_gcd : mg ("gcd" : Str) = some (.builtin "math.gcd")
  glo_BadForm : mg ("BadForm" : Str) = some (.ref (He.ga K ("BadForm" : Str)))
  glo_BadNumber : mg ("BadNumber" : Str) = some (.ref (He.ga K ("BadNumber" : Str)))
  glo_BadPlace : mg ("BadPlace" : Str) = some (.ref (He.ga K ("BadPlace" : Str)))
  glo_BadSpan : mg ("BadSpan" : Str) = some (.ref (He.ga K ("BadSpan" : Str)))
  glo_BadText : mg ("BadText" : Str) = some (.ref (He.ga K ("BadText" : Str)))
  glo_FitError : mg ("FitError" : Str) = some (.ref (He.ga K ("FitError" : Str)))
  const_DIGITS : ∃ u, mg ("DIGITS" : Str) = some u ∧ KD K c_DIGITS u
  exc_BadText : ExcOk P K mg ("BadText" : Str) [("text" : Str)]
  tx_FitError : Tab K mg (.ref (He.ga K ("FitError" : Str))) tx_FitError
  tx_BadText : Tab K mg (.ref (He.ga K ("BadText" : Str))) tx_BadText
  ti_BadText : TabI K mg (.ref (He.ga K ("BadText" : Str))) ti_BadText
  ti_ValueError : TabI K mg (.type "ValueError") ti_ValueError
  ti_BadNumber : TabI K mg (.ref (He.ga K ("BadNumber" : Str))) ti_BadNumber
  ti_BadSpan : TabI K mg (.ref (He.ga K ("BadSpan" : Str))) ti_BadSpan
  ti_BadForm : TabI K mg (.ref (He.ga K ("BadForm" : Str))) ti_BadForm
  ti_BadPlace : TabI K mg (.ref (He.ga K ("BadPlace" : Str))) ti_BadPlace
  ti_FitError : TabI K mg (.ref (He.ga K ("FitError" : Str))) ti_FitError
  fld_text : FldOk K mg cs_text ("text" : Str)
section
variable {P : Program} {w : World} {K : PySem.W.Frag} {mg : Str → Option Value} {base : Heap}
theorem jb__law_bag (G : Gs P K mg)  {f : Addr} {cdv : Value} {A : Around} {outer : List PySem.Env} {s : Shared} {H : Hp} {E : XK} (hr : Room 0 (A.deeper (envOfC ("_law_bag" : Str) (defScope st__law_bag) s.heap.objs.size f cdv))) :
    JB (cxOf (L2N.CX P w) P w K mg base [("script" : Str), ("bag" : Str), ("cell" : Str)] ("_law_bag" : Str) (defScope st__law_bag) f cdv A outer s H E) (wcE E) (defBody st__law_bag) m__law_bag :=
  (jb_cons (js_set (i := 1) sc__law_bag.nd rfl (Or.inl rfl) (je_lst (ja_cons je_int (ja_cons (je_op opd_mod (je_callTy cad_intS rfl G.free_int bt_int (ja_cons (je_callB (cad_sum rfl) rfl G.free_sum bt_sum (ja_cons (je_sl sld (je_var 0) jo_no (jo_part je_int)) ja_nil)) ja_nil)) je_int) ja_nil)) (flen_cons (flen_cons flen_nil))))
  (jb_cons (js_for (L2.passes_of rfl) rfl (je_sl sld (je_var 0) jo_no (jo_part je_int)) (jg_name (i := 2) sc__law_bag.nd rfl (Or.inl rfl)) (jb_one (js_if (jt_cmp opd_ge (je_callB cad_abs rfl G.free_abs bt_abs (ja_cons (je_callTy cad_intS rfl G.free_int bt_int (ja_cons (je_var 2) ja_nil)) ja_nil)) (je_op opd_pow je_int je_int) rfl) (jb_one (js_expr (je_lm PySem.F.slot_list_append PySem.F.type_list_append mtd_append (je_var 1) (ja_cons (je_callB cad_abs rfl G.free_abs bt_abs (ja_cons (je_callTy cad_intS rfl G.free_int bt_int (ja_cons (je_var 2) ja_nil)) ja_nil)) ja_nil)))) (jb_one (js_expr (je_lm PySem.F.slot_list_append PySem.F.type_list_append mtd_append (je_var 1) (ja_cons (je_op opd_sub (je_un und_neg je_int) (je_callB cad_abs rfl G.free_abs bt_abs (ja_cons (je_callTy cad_intS rfl G.free_int bt_int (ja_cons (je_var 2) ja_nil)) ja_nil))) ja_nil)))))))
  (jb_one (js_ret (je_var 1)))))
theorem d__law_bag (G : Gs P K mg)  (gm : mg ("_law_bag" : Str) = some (.ref (He.fAd K (("_law_bag" : Str), none)))) {fd : FuncData} (F : FunD K ("_law_bag" : Str) ("_law_bag" : Str) (defArgs st__law_bag) (defBody st__law_bag) (defScope st__law_bag) [] [] (He.fAd K (("_law_bag" : Str), none)) fd) : DefOk false P w K mg base ("_law_bag" : Str) [] 1 g__law_bag :=
  ⟨_, gm, F.kp, rn_pos (hot := false) (def_ok F sc__law_bag fun cdv A outer s H E hr => jb__law_bag G  hr) rfl (F.bindsN fun _ _ _ _ _ _ us hl => match us, hl with | [_], _ => rfl)⟩
theorem jb__law_mixed (G : Gs P K mg)  {f : Addr} {cdv : Value} {A : Around} {outer : List PySem.Env} {s : Shared} {H : Hp} {E : XK} (hr : Room 0 (A.deeper (envOfC ("_law_mixed" : Str) (defScope st__law_mixed) s.heap.objs.size f cdv))) :
    JB (cxOf (L2N.CX P w) P w K mg base [("cell" : Str), ("turn" : Str), ("first" : Str), ("second" : Str)] ("_law_mixed" : Str) (defScope st__law_mixed) f cdv A outer s H E) (wcE E) (defBody st__law_mixed) m__law_mixed :=
  (jb_cons (js_set (i := 2) sc__law_mixed.nd rfl (Or.inl rfl) (je_op opd_mod (je_callTy cad_intS rfl G.free_int bt_int (ja_cons (je_op opd_add (je_op opd_add (je_op opd_mul (je_var 0) je_int) (je_op opd_mul (je_var 1) je_int)) je_int) ja_nil)) je_int))
  (jb_cons (js_set (i := 3) sc__law_mixed.nd rfl (Or.inl rfl) (je_op opd_mod (je_callTy cad_intS rfl G.free_int bt_int (ja_cons (je_op opd_add (je_op opd_add (je_op opd_mul (je_var 2) (je_var 2)) (je_op opd_mul (je_var 2) je_int)) (je_op opd_mul (je_var 1) je_int)) ja_nil)) je_int))
  (jb_one (js_ret (je_op opd_div (je_op opd_mod (je_callTy cad_intS rfl G.free_int bt_int (ja_cons (je_op opd_add (je_op opd_mul (je_var 3) je_int) (je_op opd_div (je_var 2) je_int)) ja_nil)) je_int) je_int)))))
theorem d__law_mixed (G : Gs P K mg)  (gm : mg ("_law_mixed" : Str) = some (.ref (He.fAd K (("_law_mixed" : Str), none)))) {fd : FuncData} (F : FunD K ("_law_mixed" : Str) ("_law_mixed" : Str) (defArgs st__law_mixed) (defBody st__law_mixed) (defScope st__law_mixed) [] [] (He.fAd K (("_law_mixed" : Str), none)) fd) : DefOk false P w K mg base ("_law_mixed" : Str) [] 1 g__law_mixed :=
  ⟨_, gm, F.kp, rn_pos (hot := false) (def_ok F sc__law_mixed fun cdv A outer s H E hr => jb__law_mixed G  hr) rfl (F.bindsN fun _ _ _ _ _ _ us hl => match us, hl with | [_, _], _ => rfl)⟩
theorem jb__law_take (G : Gs P K mg) (d__law_mixed : DefOk false P w K mg base ("_law_mixed" : Str) [] 1 g__law_mixed) {f : Addr} {cdv : Value} {A : Around} {outer : List PySem.Env} {s : Shared} {H : Hp} {E : XK} (hr : Room 1 (A.deeper (envOfC ("_law_take" : Str) (defScope st__law_take) s.heap.objs.size f cdv))) :
    JB (cxOf (L2N.CX P w) P w K mg base [("bag" : Str), ("many" : Str), ("cell" : Str)] ("_law_take" : Str) (defScope st__law_take) f cdv A outer s H E) (wcE E) (defBody st__law_take) m__law_take :=
  (jb_cons (js_store (je_var 0) je_int (je_op opd_add (je_ix ixd (je_var 0) je_int) je_int) (fun _ => rfl))
  (jb_cons (js_if (jt_cmp opd_lt (je_callB cad_len rfl G.free_len bt_len (ja_cons (je_var 0) ja_nil)) je_int rfl) (jb_one (js_ret (je_op opd_mod (je_callTy cad_intS rfl G.free_int bt_int (ja_cons (je_call d__law_mixed (hr.mono (by decide)) (L2N.takes_of rfl rfl rfl rfl) rfl (ja_cons (je_ix ixd (je_var 0) je_int) (ja_cons (je_ix ixd (je_var 0) je_int) ja_nil))) ja_nil)) (je_var 1)))) jb_nil)
  (jb_cons (js_set (i := 2) sc__law_take.nd rfl (Or.inl rfl) (je_ix ixd (je_var 0) je_int))
  (jb_cons (js_if (jt_cmp opd_lt (je_var 2) je_int rfl) (jb_cons (js_expr (je_lm PySem.F.slot_list_pop PySem.F.type_list_pop mtd_pop (je_var 0) (ja_cons je_int ja_nil)))
  (jb_one (js_ret (je_op opd_mod (je_callTy cad_intS rfl G.free_int bt_int (ja_cons (je_call d__law_mixed (hr.mono (by decide)) (L2N.takes_of rfl rfl rfl rfl) rfl (ja_cons (je_op opd_sub (je_un und_neg je_int) (je_var 2)) (ja_cons (je_ix ixd (je_var 0) je_int) ja_nil))) ja_nil)) (je_var 1))))) jb_nil)
  (jb_cons (js_store (je_var 0) je_int (je_op opd_div (je_var 2) (je_var 1)) (fun _ => rfl))
  (jb_cons (js_if (jt_cmp (opd_eq (huR hr)) (je_ix ixd (je_var 0) je_int) je_int rfl) (jb_one (js_expr (je_lm PySem.F.slot_list_pop PySem.F.type_list_pop mtd_pop (je_var 0) (ja_cons je_int ja_nil)))) jb_nil)
  (jb_one (js_ret (je_op opd_mod (je_callTy cad_intS rfl G.free_int bt_int (ja_cons (je_var 2) ja_nil)) (je_var 1))))))))))
theorem d__law_take (G : Gs P K mg) (d__law_mixed : DefOk false P w K mg base ("_law_mixed" : Str) [] 1 g__law_mixed) (gm : mg ("_law_take" : Str) = some (.ref (He.fAd K (("_law_take" : Str), none)))) {fd : FuncData} (F : FunD K ("_law_take" : Str) ("_law_take" : Str) (defArgs st__law_take) (defBody st__law_take) (defScope st__law_take) [] [] (He.fAd K (("_law_take" : Str), none)) fd) : DefOk false P w K mg base ("_law_take" : Str) [] 2 g__law_take :=
  ⟨_, gm, F.kp, rn_pos (hot := false) (def_ok F sc__law_take fun cdv A outer s H E hr => jb__law_take G d__law_mixed hr) rfl (F.bindsN fun _ _ _ _ _ _ us hl => match us, hl with | [_, _], _ => rfl)⟩
theorem jb__law_large (G : Gs P K mg) (d__law_take : DefOk false P w K mg base ("_law_take" : Str) [] 2 g__law_take) {f : Addr} {cdv : Value} {A : Around} {outer : List PySem.Env} {s : Shared} {H : Hp} {E : XK} (hr : Room 2 (A.deeper (envOfC ("_law_large" : Str) (defScope st__law_large) s.heap.objs.size f cdv))) :
    JB (cxOf (L2N.CX P w) P w K mg base [("bag" : Str), ("grown" : Str), ("k" : Str)] ("_law_large" : Str) (defScope st__law_large) f cdv A outer s H E) (wcE E) (defBody st__law_large) m__law_large :=
  (jb_cons (js_set (i := 1) sc__law_large.nd rfl (Or.inl rfl) je_int)
  (jb_cons (js_forR1 (L2.passes_of rfl) rfl rfl G.free_range (ja_cons je_int ja_nil) (jg_name (i := 2) sc__law_large.nd rfl (Or.inl rfl)) (jb_one (js_set (i := 1) sc__law_large.nd rfl (Or.inl rfl) (je_op opd_add (je_op opd_mul (je_var 1) je_int) (je_call d__law_take (hr.mono (by decide)) (L2N.takes_of rfl rfl rfl rfl) rfl (ja_cons (je_var 0) (ja_cons je_int ja_nil)))))))
  (jb_one (js_ret (je_var 1)))))
theorem d__law_large (G : Gs P K mg) (d__law_take : DefOk false P w K mg base ("_law_take" : Str) [] 2 g__law_take) (gm : mg ("_law_large" : Str) = some (.ref (He.fAd K (("_law_large" : Str), none)))) {fd : FuncData} (F : FunD K ("_law_large" : Str) ("_law_large" : Str) (defArgs st__law_large) (defBody st__law_large) (defScope st__law_large) [] [] (He.fAd K (("_law_large" : Str), none)) fd) : DefOk false P w K mg base ("_law_large" : Str) [] 3 g__law_large :=
  ⟨_, gm, F.kp, rn_pos (hot := false) (def_ok F sc__law_large fun cdv A outer s H E hr => jb__law_large G d__law_take hr) rfl (F.bindsN fun _ _ _ _ _ _ us hl => match us, hl with | [_], _ => rfl)⟩
theorem jb__law_divisor (G : Gs P K mg)  {f : Addr} {cdv : Value} {A : Around} {outer : List PySem.Env} {s : Shared} {H : Hp} {E : XK} (hr : Room 0 (A.deeper (envOfC ("_law_divisor" : Str) (defScope st__law_divisor) s.heap.objs.size f cdv))) :
    JB (cxOf (L2N.CX P w) P w K mg base [("a" : Str), ("b" : Str), ("k" : Str)] ("_law_divisor" : Str) (defScope st__law_divisor) f cdv A outer s H E) (wcE E) (defBody st__law_divisor) m__law_divisor :=
  (jb_cons (js_forR1 (L2.passes_of rfl) rfl rfl G.free_range (ja_cons je_int ja_nil) (jg_name (i := 2) sc__law_divisor.nd rfl (Or.inl rfl)) (jb_cons (js_if (jt_cmp (opd_eq (huR hr)) (je_var 1) je_int rfl) (jb_one js_break) jb_nil)
  (jb_one (js_par (i := 0) (j := 1) rfl sc__law_divisor.nd rfl rfl (by decide) rfl rfl (ja_cons (je_var 1) (ja_cons (je_op opd_mod (je_callTy cad_intS rfl G.free_int bt_int (ja_cons (je_var 0) ja_nil)) (je_var 1)) ja_nil)) rfl))))
  (jb_one (js_ret (je_var 0))))
theorem d__law_divisor (G : Gs P K mg)  (gm : mg ("_law_divisor" : Str) = some (.ref (He.fAd K (("_law_divisor" : Str), none)))) {fd : FuncData} (F : FunD K ("_law_divisor" : Str) ("_law_divisor" : Str) (defArgs st__law_divisor) (defBody st__law_divisor) (defScope st__law_divisor) [] [] (He.fAd K (("_law_divisor" : Str), none)) fd) : DefOk false P w K mg base ("_law_divisor" : Str) [] 1 g__law_divisor :=
  ⟨_, gm, F.kp, rn_pos (hot := false) (def_ok F sc__law_divisor fun cdv A outer s H E hr => jb__law_divisor G  hr) rfl (F.bindsN fun _ _ _ _ _ _ us hl => match us, hl with | [_, _], _ => rfl)⟩
theorem jb__law_lowest (G : Gs P K mg) (d__law_divisor : DefOk false P w K mg base ("_law_divisor" : Str) [] 1 g__law_divisor) {f : Addr} {cdv : Value} {A : Around} {outer : List PySem.Env} {s : Shared} {H : Hp} {E : XK} (hr : Room 1 (A.deeper (envOfC ("_law_lowest" : Str) (defScope st__law_lowest) s.heap.objs.size f cdv))) :
    JB (cxOf (L2N.CX P w) P w K mg base [("above" : Str), ("below" : Str), ("divisor" : Str)] ("_law_lowest" : Str) (defScope st__law_lowest) f cdv A outer s H E) (wcE E) (defBody st__law_lowest) m__law_lowest :=
  (jb_cons (js_set (i := 2) sc__law_lowest.nd rfl (Or.inl rfl) (je_call d__law_divisor (hr.mono (by decide)) (L2N.takes_of rfl rfl rfl rfl) rfl (ja_cons (je_callB cad_abs rfl G.free_abs bt_abs (ja_cons (je_var 0) ja_nil)) (ja_cons (je_var 1) ja_nil))))
  (jb_one (js_ret (je_tup (ja_cons (je_op opd_div (je_var 0) (je_var 2)) (ja_cons (je_op opd_div (je_var 1) (je_var 2)) ja_nil)) (flen_cons (flen_cons flen_nil))))))
theorem d__law_lowest (G : Gs P K mg) (d__law_divisor : DefOk false P w K mg base ("_law_divisor" : Str) [] 1 g__law_divisor) (gm : mg ("_law_lowest" : Str) = some (.ref (He.fAd K (("_law_lowest" : Str), none)))) {fd : FuncData} (F : FunD K ("_law_lowest" : Str) ("_law_lowest" : Str) (defArgs st__law_lowest) (defBody st__law_lowest) (defScope st__law_lowest) [] [] (He.fAd K (("_law_lowest" : Str), none)) fd) : DefOk false P w K mg base ("_law_lowest" : Str) [] 2 g__law_lowest :=
  ⟨_, gm, F.kp, rn_pos (hot := false) (def_ok F sc__law_lowest fun cdv A outer s H E hr => jb__law_lowest G d__law_divisor hr) rfl (F.bindsN fun _ _ _ _ _ _ us hl => match us, hl with | [_, _], _ => rfl)⟩
theorem jb__law_beside (G : Gs P K mg) (d__law_take : DefOk false P w K mg base ("_law_take" : Str) [] 2 g__law_take) (d__law_lowest : DefOk false P w K mg base ("_law_lowest" : Str) [] 2 g__law_lowest) {f : Addr} {cdv : Value} {A : Around} {outer : List PySem.Env} {s : Shared} {H : Hp} {E : XK} (hr : Room 2 (A.deeper (envOfC ("_law_beside" : Str) (defScope st__law_beside) s.heap.objs.size f cdv))) :
    JB (cxOf (L2N.CX P w) P w K mg base [("bag" : Str), ("before" : Str), ("way" : Str), ("side" : Str), ("mate" : Str), ("factor" : Str)] ("_law_beside" : Str) (defScope st__law_beside) f cdv A outer s H E) (wcE E) (defBody st__law_beside) m__law_beside :=
  (jb_cons (js_set (i := 4) sc__law_beside.nd rfl (Or.inl rfl) (je_tup (ja_cons je_int (ja_cons je_int ja_nil)) (flen_cons (flen_cons flen_nil))))
  (jb_cons (js_if (jt_cmp opd_gt (je_callB cad_len rfl G.free_len bt_len (ja_cons (je_var 1) ja_nil)) je_int rfl) (jb_one (js_set (i := 4) sc__law_beside.nd rfl (Or.inl rfl) (je_ix ixd (je_var 1) (je_call d__law_take (hr.mono (by decide)) (L2N.takes_of rfl rfl rfl rfl) rfl (ja_cons (je_var 0) (ja_cons (je_callB cad_len rfl G.free_len bt_len (ja_cons (je_var 1) ja_nil)) ja_nil)))))) jb_nil)
  (jb_cons (js_if (jt_cmp (opd_eq (huR hr)) (je_var 2) je_int rfl) (jb_one (js_ret (je_var 4))) jb_nil)
  (jb_cons (js_if (jt_cmp (opd_eq (huR hr)) (je_var 2) je_int rfl) (jb_one (js_ret (je_tup (ja_cons (je_un und_neg (je_ix ixd (je_var 4) je_int)) (ja_cons (je_ix ixd (je_var 4) je_int) ja_nil)) (flen_cons (flen_cons flen_nil))))) jb_nil)
  (jb_cons (js_if (PW.pt (jw_and (jt_cmp (opd_eq (huR hr)) (je_var 2) je_int rfl) (jw_and1 (jt_cmp opd_gt (je_ix ixd (je_var 4) je_int) je_int rfl)))) (jb_one (js_ret (je_tup (ja_cons (je_ix ixd (je_var 4) je_int) (ja_cons (je_ix ixd (je_var 4) je_int) ja_nil)) (flen_cons (flen_cons flen_nil))))) jb_nil)
  (jb_cons (js_if (PW.pt (jw_and (jt_cmp (opd_eq (huR hr)) (je_var 2) je_int rfl) (jw_and1 (jt_cmp opd_lt (je_ix ixd (je_var 4) je_int) je_int rfl)))) (jb_one (js_ret (je_tup (ja_cons (je_un und_neg (je_ix ixd (je_var 4) je_int)) (ja_cons (je_un und_neg (je_ix ixd (je_var 4) je_int)) ja_nil)) (flen_cons (flen_cons flen_nil))))) jb_nil)
  (jb_cons (js_if (PW.pt (jw_and (jt_cmp opd_lt (je_callB cad_abs rfl G.free_abs bt_abs (ja_cons (je_ix ixd (je_var 4) je_int) ja_nil)) (je_op opd_pow je_int je_int) rfl) (jw_and1 (jt_cmp opd_lt (je_ix ixd (je_var 4) je_int) (je_op opd_pow je_int je_int) rfl)))) (jb_cons (js_set (i := 5) sc__law_beside.nd rfl (Or.inl rfl) (je_op opd_add je_int (je_call d__law_take (hr.mono (by decide)) (L2N.takes_of rfl rfl rfl rfl) rfl (ja_cons (je_var 0) (ja_cons je_int ja_nil)))))
  (jb_one (js_ret (je_call d__law_lowest (hr.mono (by decide)) (L2N.takes_of rfl rfl rfl rfl) rfl (ja_cons (je_op opd_add (je_op opd_mul (je_ix ixd (je_var 4) je_int) (je_var 5)) (je_var 3)) (ja_cons (je_op opd_mul (je_ix ixd (je_var 4) je_int) (je_var 5)) ja_nil)))))) jb_nil)
  (jb_cons (js_if (jt_cmp opd_gt (je_ix ixd (je_var 4) je_int) je_int rfl) (jb_one (js_ret (je_call d__law_lowest (hr.mono (by decide)) (L2N.takes_of rfl rfl rfl rfl) rfl (ja_cons (je_op opd_sub (je_ix ixd (je_var 4) je_int) je_int) (ja_cons (je_ix ixd (je_var 4) je_int) ja_nil))))) jb_nil)
  (jb_one (js_ret (je_call d__law_lowest (hr.mono (by decide)) (L2N.takes_of rfl rfl rfl rfl) rfl (ja_cons (je_op opd_add (je_ix ixd (je_var 4) je_int) je_int) (ja_cons (je_ix ixd (je_var 4) je_int) ja_nil)))))))))))))
theorem d__law_beside (G : Gs P K mg) (d__law_take : DefOk false P w K mg base ("_law_take" : Str) [] 2 g__law_take) (d__law_lowest : DefOk false P w K mg base ("_law_lowest" : Str) [] 2 g__law_lowest) (gm : mg ("_law_beside" : Str) = some (.ref (He.fAd K (("_law_beside" : Str), none)))) {fd : FuncData} (F : FunD K ("_law_beside" : Str) ("_law_beside" : Str) (defArgs st__law_beside) (defBody st__law_beside) (defScope st__law_beside) [] [] (He.fAd K (("_law_beside" : Str), none)) fd) : DefOk false P w K mg base ("_law_beside" : Str) [] 3 g__law_beside :=
  ⟨_, gm, F.kp, rn_pos (hot := false) (def_ok F sc__law_beside fun cdv A outer s H E hr => jb__law_beside G d__law_take d__law_lowest hr) rfl (F.bindsN fun _ _ _ _ _ _ us hl => match us, hl with | [_, _, _, _], _ => rfl)⟩
theorem jb__law_number (G : Gs P K mg) (d__law_take : DefOk false P w K mg base ("_law_take" : Str) [] 2 g__law_take) (d__law_large : DefOk false P w K mg base ("_law_large" : Str) [] 3 g__law_large) (d__law_lowest : DefOk false P w K mg base ("_law_lowest" : Str) [] 2 g__law_lowest) (d__law_beside : DefOk false P w K mg base ("_law_beside" : Str) [] 3 g__law_beside) {f : Addr} {cdv : Value} {A : Around} {outer : List PySem.Env} {s : Shared} {H : Hp} {E : XK} (hr : Room 3 (A.deeper (envOfC ("_law_number" : Str) (defScope st__law_number) s.heap.objs.size f cdv))) :
    JB (cxOf (L2N.CX P w) P w K mg base [("bag" : Str), ("before" : Str), ("way" : Str), ("side" : Str), ("above" : Str)] ("_law_number" : Str) (defScope st__law_number) f cdv A outer s H E) (wcE E) (defBody st__law_number) m__law_number :=
  (jb_cons (js_set (i := 2) sc__law_number.nd rfl (Or.inl rfl) (je_call d__law_take (hr.mono (by decide)) (L2N.takes_of rfl rfl rfl rfl) rfl (ja_cons (je_var 0) (ja_cons je_int ja_nil))))
  (jb_cons (js_set (i := 3) sc__law_number.nd rfl (Or.inl rfl) (je_op opd_sub je_int (je_op opd_mul je_int (je_call d__law_take (hr.mono (by decide)) (L2N.takes_of rfl rfl rfl rfl) rfl (ja_cons (je_var 0) (ja_cons je_int ja_nil))))))
  (jb_cons (js_if (jt_cmp (opd_eq (huR hr)) (je_var 2) je_int rfl) (jb_one (js_ret (je_tup (ja_cons je_int (ja_cons je_int ja_nil)) (flen_cons (flen_cons flen_nil))))) jb_nil)
  (jb_cons (js_if (jt_cmp (opd_eq (huR hr)) (je_var 2) je_int rfl) (jb_one (js_ret (je_tup (ja_cons (je_op opd_mul (je_var 3) (je_call d__law_take (hr.mono (by decide)) (L2N.takes_of rfl rfl rfl rfl) rfl (ja_cons (je_var 0) (ja_cons je_int ja_nil)))) (ja_cons je_int ja_nil)) (flen_cons (flen_cons flen_nil))))) jb_nil)
  (jb_cons (js_if (jt_cmp opd_lt (je_var 2) je_int rfl) (jb_one (js_ret (je_call d__law_lowest (hr.mono (by decide)) (L2N.takes_of rfl rfl rfl rfl) rfl (ja_cons (je_op opd_mul (je_var 3) (je_call d__law_take (hr.mono (by decide)) (L2N.takes_of rfl rfl rfl rfl) rfl (ja_cons (je_var 0) (ja_cons je_int ja_nil)))) (ja_cons (je_op opd_add je_int (je_call d__law_take (hr.mono (by decide)) (L2N.takes_of rfl rfl rfl rfl) rfl (ja_cons (je_var 0) (ja_cons je_int ja_nil)))) ja_nil))))) jb_nil)
  (jb_cons (js_if (jt_cmp (opd_eq (huR hr)) (je_var 2) je_int rfl) (jb_one (js_ret (je_tup (ja_cons (je_op opd_mul (je_var 3) (je_call d__law_large (hr.mono (by decide)) (L2N.takes_of rfl rfl rfl rfl) rfl (ja_cons (je_var 0) ja_nil))) (ja_cons je_int ja_nil)) (flen_cons (flen_cons flen_nil))))) jb_nil)
  (jb_cons (js_if (jt_cmp (opd_eq (huR hr)) (je_var 2) je_int rfl) (jb_cons (js_set (i := 4) sc__law_number.nd rfl (Or.inl rfl) (je_op opd_mul (je_var 3) (je_call d__law_large (hr.mono (by decide)) (L2N.takes_of rfl rfl rfl rfl) rfl (ja_cons (je_var 0) ja_nil))))
  (jb_one (js_ret (je_call d__law_lowest (hr.mono (by decide)) (L2N.takes_of rfl rfl rfl rfl) rfl (ja_cons (je_var 4) (ja_cons (je_op opd_add je_int (je_op opd_mod (je_callTy cad_intS rfl G.free_int bt_int (ja_cons (je_call d__law_large (hr.mono (by decide)) (L2N.takes_of rfl rfl rfl rfl) rfl (ja_cons (je_var 0) ja_nil)) ja_nil)) (je_op opd_sub (je_op opd_pow je_int je_int) je_int))) ja_nil)))))) jb_nil)
  (jb_cons (js_if (jt_cmp (opd_eq (huR hr)) (je_var 2) je_int rfl) (jb_cons (js_set (i := 4) sc__law_number.nd rfl (Or.inl rfl) (je_op opd_mul (je_var 3) (je_op opd_sub (je_op opd_sub (je_op opd_pow je_int je_int) je_int) (je_call d__law_take (hr.mono (by decide)) (L2N.takes_of rfl rfl rfl rfl) rfl (ja_cons (je_var 0) (ja_cons je_int ja_nil))))))
  (jb_one (js_ret (je_call d__law_lowest (hr.mono (by decide)) (L2N.takes_of rfl rfl rfl rfl) rfl (ja_cons (je_var 4) (ja_cons (je_op opd_sub (je_op opd_sub (je_op opd_pow je_int je_int) je_int) (je_call d__law_take (hr.mono (by decide)) (L2N.takes_of rfl rfl rfl rfl) rfl (ja_cons (je_var 0) (ja_cons je_int ja_nil)))) ja_nil)))))) jb_nil)
  (jb_one (js_ret (je_call d__law_beside (hr.mono (by decide)) (L2N.takes_of rfl rfl rfl rfl) rfl (ja_cons (je_var 0) (ja_cons (je_var 1) (ja_cons (je_var 2) (ja_cons (je_var 3) ja_nil)))))))))))))))
theorem d__law_number (G : Gs P K mg) (d__law_take : DefOk false P w K mg base ("_law_take" : Str) [] 2 g__law_take) (d__law_large : DefOk false P w K mg base ("_law_large" : Str) [] 3 g__law_large) (d__law_lowest : DefOk false P w K mg base ("_law_lowest" : Str) [] 2 g__law_lowest) (d__law_beside : DefOk false P w K mg base ("_law_beside" : Str) [] 3 g__law_beside) (gm : mg ("_law_number" : Str) = some (.ref (He.fAd K (("_law_number" : Str), none)))) {fd : FuncData} (F : FunD K ("_law_number" : Str) ("_law_number" : Str) (defArgs st__law_number) (defBody st__law_number) (defScope st__law_number) [] [] (He.fAd K (("_law_number" : Str), none)) fd) : DefOk false P w K mg base ("_law_number" : Str) [] 4 g__law_number :=
  ⟨_, gm, F.kp, rn_pos (hot := false) (def_ok F sc__law_number fun cdv A outer s H E hr => jb__law_number G d__law_take d__law_large d__law_lowest d__law_beside hr) rfl (F.bindsN fun _ _ _ _ _ _ us hl => match us, hl with | [_, _], _ => rfl)⟩
theorem jb__law_numbers (G : Gs P K mg) (d__law_number : DefOk false P w K mg base ("_law_number" : Str) [] 4 g__law_number) {f : Addr} {cdv : Value} {A : Around} {outer : List PySem.Env} {s : Shared} {H : Hp} {E : XK} (hr : Room 4 (A.deeper (envOfC ("_law_numbers" : Str) (defScope st__law_numbers) s.heap.objs.size f cdv))) :
    JB (cxOf (L2N.CX P w) P w K mg base [("bag" : Str), ("many" : Str), ("row" : Str), ("k" : Str)] ("_law_numbers" : Str) (defScope st__law_numbers) f cdv A outer s H E) (wcE E) (defBody st__law_numbers) m__law_numbers :=
  (jb_cons (js_set (i := 2) sc__law_numbers.nd rfl (Or.inl rfl) (je_lst ja_nil flen_nil))
  (jb_cons (js_forR1 (L2.passes_of rfl) rfl rfl G.free_range (ja_cons (je_var 1) ja_nil) (jg_name (i := 3) sc__law_numbers.nd rfl (Or.inl rfl)) (jb_one (js_expr (je_lm PySem.F.slot_list_append PySem.F.type_list_append mtd_append (je_var 2) (ja_cons (je_call d__law_number (hr.mono (by decide)) (L2N.takes_of rfl rfl rfl rfl) rfl (ja_cons (je_var 0) (ja_cons (je_var 2) ja_nil))) ja_nil)))))
  (jb_one (js_ret (je_var 2)))))
theorem d__law_numbers (G : Gs P K mg) (d__law_number : DefOk false P w K mg base ("_law_number" : Str) [] 4 g__law_number) (gm : mg ("_law_numbers" : Str) = some (.ref (He.fAd K (("_law_numbers" : Str), none)))) {fd : FuncData} (F : FunD K ("_law_numbers" : Str) ("_law_numbers" : Str) (defArgs st__law_numbers) (defBody st__law_numbers) (defScope st__law_numbers) [] [] (He.fAd K (("_law_numbers" : Str), none)) fd) : DefOk false P w K mg base ("_law_numbers" : Str) [] 5 g__law_numbers :=
  ⟨_, gm, F.kp, rn_pos (hot := false) (def_ok F sc__law_numbers fun cdv A outer s H E hr => jb__law_numbers G d__law_number hr) rfl (F.bindsN fun _ _ _ _ _ _ us hl => match us, hl with | [_, _], _ => rfl)⟩
theorem jb__law_written (G : Gs P K mg)  {f : Addr} {cdv : Value} {A : Around} {outer : List PySem.Env} {s : Shared} {H : Hp} {E : XK} (hr : Room 0 (A.deeper (envOfC ("_law_written" : Str) (defScope st__law_written) s.heap.objs.size f cdv))) :
    JB (cxOf (L2N.CX P w) P w K mg base [("a" : Str)] ("_law_written" : Str) (defScope st__law_written) f cdv A outer s H E) (wcE E) (defBody st__law_written) m__law_written :=
  (jb_cons (js_if (jt_cmp (opd_eq (huR hr)) (je_ix ixd (je_var 0) je_int) je_int rfl) (jb_one (js_ret (je_callTy cad_str rfl G.free_str bt_str (ja_cons (je_ix ixd (je_var 0) je_int) ja_nil)))) jb_nil)
  (jb_one (js_ret (je_op opd_add (je_op opd_add (je_callTy cad_str rfl G.free_str bt_str (ja_cons (je_ix ixd (je_var 0) je_int) ja_nil)) je_str) (je_callTy cad_str rfl G.free_str bt_str (ja_cons (je_ix ixd (je_var 0) je_int) ja_nil))))))
theorem d__law_written (G : Gs P K mg)  (gm : mg ("_law_written" : Str) = some (.ref (He.fAd K (("_law_written" : Str), none)))) {fd : FuncData} (F : FunD K ("_law_written" : Str) ("_law_written" : Str) (defArgs st__law_written) (defBody st__law_written) (defScope st__law_written) [] [] (He.fAd K (("_law_written" : Str), none)) fd) : DefOk false P w K mg base ("_law_written" : Str) [] 1 g__law_written :=
  ⟨_, gm, F.kp, rn_pos (hot := false) (def_ok F sc__law_written fun cdv A outer s H E hr => jb__law_written G  hr) rfl (F.bindsN fun _ _ _ _ _ _ us hl => match us, hl with | [_], _ => rfl)⟩
theorem jb__law_little (G : Gs P K mg) (d__law_take : DefOk false P w K mg base ("_law_take" : Str) [] 2 g__law_take) (d__law_large : DefOk false P w K mg base ("_law_large" : Str) [] 3 g__law_large) (d__law_lowest : DefOk false P w K mg base ("_law_lowest" : Str) [] 2 g__law_lowest) {f : Addr} {cdv : Value} {A : Around} {outer : List PySem.Env} {s : Shared} {H : Hp} {E : XK} (hr : Room 3 (A.deeper (envOfC ("_law_little" : Str) (defScope st__law_little) s.heap.objs.size f cdv))) :
    JB (cxOf (L2N.CX P w) P w K mg base [("bag" : Str), ("limits" : Str), ("above" : Str), ("below" : Str)] ("_law_little" : Str) (defScope st__law_little) f cdv A outer s H E) (wcE E) (defBody st__law_little) m__law_little :=
  (jb_cons (js_set (i := 1) sc__law_little.nd rfl (Or.inl rfl) (je_lst (ja_cons je_int (ja_cons je_int (ja_cons (je_op opd_pow je_int je_int) (ja_cons (je_op opd_pow je_int je_int) ja_nil)))) (flen_cons (flen_cons (flen_cons (flen_cons flen_nil))))))
  (jb_cons (js_set (i := 2) sc__law_little.nd rfl (Or.inl rfl) (je_op opd_mod (je_callTy cad_intS rfl G.free_int bt_int (ja_cons (je_call d__law_large (hr.mono (by decide)) (L2N.takes_of rfl rfl rfl rfl) rfl (ja_cons (je_var 0) ja_nil)) ja_nil)) (je_ix ixd (je_var 1) (je_call d__law_take (hr.mono (by decide)) (L2N.takes_of rfl rfl rfl rfl) rfl (ja_cons (je_var 0) (ja_cons je_int ja_nil))))))
  (jb_cons (js_set (i := 3) sc__law_little.nd rfl (Or.inl rfl) je_int)
  (jb_cons (js_if (jt_cmp (opd_eq (huR hr)) (je_call d__law_take (hr.mono (by decide)) (L2N.takes_of rfl rfl rfl rfl) rfl (ja_cons (je_var 0) (ja_cons je_int ja_nil))) je_int rfl) (jb_one (js_set (i := 3) sc__law_little.nd rfl (Or.inl rfl) (je_op opd_add je_int (je_op opd_mod (je_callTy cad_intS rfl G.free_int bt_int (ja_cons (je_call d__law_large (hr.mono (by decide)) (L2N.takes_of rfl rfl rfl rfl) rfl (ja_cons (je_var 0) ja_nil)) ja_nil)) (je_op opd_sub (je_ix ixd (je_var 1) (je_call d__law_take (hr.mono (by decide)) (L2N.takes_of rfl rfl rfl rfl) rfl (ja_cons (je_var 0) (ja_cons je_int ja_nil)))) je_int))))) jb_nil)
  (jb_one (js_ret (je_call d__law_lowest (hr.mono (by decide)) (L2N.takes_of rfl rfl rfl rfl) rfl (ja_cons (je_op opd_mul (je_var 2) (je_op opd_sub je_int (je_op opd_mul je_int (je_call d__law_take (hr.mono (by decide)) (L2N.takes_of rfl rfl rfl rfl) rfl (ja_cons (je_var 0) (ja_cons je_int ja_nil)))))) (ja_cons (je_var 3) ja_nil)))))))))
theorem d__law_little (G : Gs P K mg) (d__law_take : DefOk false P w K mg base ("_law_take" : Str) [] 2 g__law_take) (d__law_large : DefOk false P w K mg base ("_law_large" : Str) [] 3 g__law_large) (d__law_lowest : DefOk false P w K mg base ("_law_lowest" : Str) [] 2 g__law_lowest) (gm : mg ("_law_little" : Str) = some (.ref (He.fAd K (("_law_little" : Str), none)))) {fd : FuncData} (F : FunD K ("_law_little" : Str) ("_law_little" : Str) (defArgs st__law_little) (defBody st__law_little) (defScope st__law_little) [] [] (He.fAd K (("_law_little" : Str), none)) fd) : DefOk false P w K mg base ("_law_little" : Str) [] 4 g__law_little :=
  ⟨_, gm, F.kp, rn_pos (hot := false) (def_ok F sc__law_little fun cdv A outer s H E hr => jb__law_little G d__law_take d__law_large d__law_lowest hr) rfl (F.bindsN fun _ _ _ _ _ _ us hl => match us, hl with | [_], _ => rfl)⟩
theorem jb__law_bent (G : Gs P K mg) (d__law_take : DefOk false P w K mg base ("_law_take" : Str) [] 2 g__law_take) {f : Addr} {cdv : Value} {A : Around} {outer : List PySem.Env} {s : Shared} {H : Hp} {E : XK} (hr : Room 2 (A.deeper (envOfC ("_law_bent" : Str) (defScope st__law_bent) s.heap.objs.size f cdv))) :
    JB (cxOf (L2N.CX P w) P w K mg base [("bag" : Str), ("word" : Str), ("chars" : Str), ("k" : Str), ("at" : Str), ("char" : Str), ("way" : Str)] ("_law_bent" : Str) (defScope st__law_bent) f cdv A outer s H E) (wcE E) (defBody st__law_bent) m__law_bent :=
  (jb_cons (js_set (i := 2) sc__law_bent.nd rfl (Or.inl rfl) je_str)
  (jb_cons (js_forR1 (L2.passes_of rfl) rfl rfl G.free_range (ja_cons (je_op opd_add je_int (je_call d__law_take (hr.mono (by decide)) (L2N.takes_of rfl rfl rfl rfl) rfl (ja_cons (je_var 0) (ja_cons je_int ja_nil)))) ja_nil) (jg_name (i := 3) sc__law_bent.nd rfl (Or.inl rfl)) (jb_cons (js_set (i := 4) sc__law_bent.nd rfl (Or.inl rfl) (je_call d__law_take (hr.mono (by decide)) (L2N.takes_of rfl rfl rfl rfl) rfl (ja_cons (je_var 0) (ja_cons (je_op opd_add (je_callB cad_len rfl G.free_len bt_len (ja_cons (je_var 1) ja_nil)) je_int) ja_nil))))
  (jb_cons (js_set (i := 5) sc__law_bent.nd rfl (Or.inl rfl) (je_ix ixd (je_var 2) (je_call d__law_take (hr.mono (by decide)) (L2N.takes_of rfl rfl rfl rfl) rfl (ja_cons (je_var 0) (ja_cons (je_callB cad_len rfl G.free_len bt_len (ja_cons (je_var 2) ja_nil)) ja_nil)))))
  (jb_cons (js_set (i := 6) sc__law_bent.nd rfl (Or.inl rfl) (je_call d__law_take (hr.mono (by decide)) (L2N.takes_of rfl rfl rfl rfl) rfl (ja_cons (je_var 0) (ja_cons je_int ja_nil))))
  (jb_one (js_if (jt_cmp (opd_eq (huR hr)) (je_var 6) je_int rfl) (jb_one (js_set (i := 1) sc__law_bent.nd rfl (Or.inl rfl) (je_op opd_add (je_op opd_add (je_sl sld (je_var 1) jo_no (jo_part (je_var 4))) (je_var 5)) (je_sl sld (je_var 1) (jo_part (je_var 4)) jo_no)))) (jb_one (js_if (jt_cmp (opd_eq (huR hr)) (je_var 6) je_int rfl) (jb_one (js_set (i := 1) sc__law_bent.nd rfl (Or.inl rfl) (je_op opd_add (je_op opd_add (je_sl sld (je_var 1) jo_no (jo_part (je_var 4))) (je_var 5)) (je_sl sld (je_var 1) (jo_part (je_op opd_add (je_var 4) je_int)) jo_no)))) (jb_one (js_if (jt_cmp (opd_eq (huR hr)) (je_var 6) je_int rfl) (jb_one (js_set (i := 1) sc__law_bent.nd rfl (Or.inl rfl) (je_op opd_add (je_sl sld (je_var 1) jo_no (jo_part (je_var 4))) (je_sl sld (je_var 1) (jo_part (je_op opd_add (je_var 4) je_int)) jo_no)))) (jb_one (js_set (i := 1) sc__law_bent.nd rfl (Or.inl rfl) (je_op opd_add (je_op opd_add (je_sl sld (je_var 1) jo_no (jo_part (je_var 4))) (je_sl sld (je_var 1) (jo_part (je_var 4)) (jo_part (je_op opd_add (je_var 4) je_int)))) (je_sl sld (je_var 1) (jo_part (je_var 4)) jo_no))))))))))))))
  (jb_one (js_ret (je_var 1)))))
theorem d__law_bent (G : Gs P K mg) (d__law_take : DefOk false P w K mg base ("_law_take" : Str) [] 2 g__law_take) (gm : mg ("_law_bent" : Str) = some (.ref (He.fAd K (("_law_bent" : Str), none)))) {fd : FuncData} (F : FunD K ("_law_bent" : Str) ("_law_bent" : Str) (defArgs st__law_bent) (defBody st__law_bent) (defScope st__law_bent) [] [] (He.fAd K (("_law_bent" : Str), none)) fd) : DefOk false P w K mg base ("_law_bent" : Str) [] 3 g__law_bent :=
  ⟨_, gm, F.kp, rn_pos (hot := false) (def_ok F sc__law_bent fun cdv A outer s H E hr => jb__law_bent G d__law_take hr) rfl (F.bindsN fun _ _ _ _ _ _ us hl => match us, hl with | [_, _], _ => rfl)⟩
theorem jb__law_drawn (G : Gs P K mg) (d__law_take : DefOk false P w K mg base ("_law_take" : Str) [] 2 g__law_take) {f : Addr} {cdv : Value} {A : Around} {outer : List PySem.Env} {s : Shared} {H : Hp} {E : XK} (hr : Room 2 (A.deeper (envOfC ("_law_drawn" : Str) (defScope st__law_drawn) s.heap.objs.size f cdv))) :
    JB (cxOf (L2N.CX P w) P w K mg base [("bag" : Str), ("chars" : Str), ("word" : Str), ("k" : Str)] ("_law_drawn" : Str) (defScope st__law_drawn) f cdv A outer s H E) (wcE E) (defBody st__law_drawn) m__law_drawn :=
  (jb_cons (js_set (i := 1) sc__law_drawn.nd rfl (Or.inl rfl) je_str)
  (jb_cons (js_set (i := 2) sc__law_drawn.nd rfl (Or.inl rfl) je_str)
  (jb_cons (js_forR1 (L2.passes_of rfl) rfl rfl G.free_range (ja_cons (je_call d__law_take (hr.mono (by decide)) (L2N.takes_of rfl rfl rfl rfl) rfl (ja_cons (je_var 0) (ja_cons je_int ja_nil))) ja_nil) (jg_name (i := 3) sc__law_drawn.nd rfl (Or.inl rfl)) (jb_one (js_set (i := 2) sc__law_drawn.nd rfl (Or.inl rfl) (je_op opd_add (je_var 2) (je_ix ixd (je_var 1) (je_call d__law_take (hr.mono (by decide)) (L2N.takes_of rfl rfl rfl rfl) rfl (ja_cons (je_var 0) (ja_cons (je_callB cad_len rfl G.free_len bt_len (ja_cons (je_var 1) ja_nil)) ja_nil))))))))
  (jb_one (js_ret (je_var 2))))))
theorem d__law_drawn (G : Gs P K mg) (d__law_take : DefOk false P w K mg base ("_law_take" : Str) [] 2 g__law_take) (gm : mg ("_law_drawn" : Str) = some (.ref (He.fAd K (("_law_drawn" : Str), none)))) {fd : FuncData} (F : FunD K ("_law_drawn" : Str) ("_law_drawn" : Str) (defArgs st__law_drawn) (defBody st__law_drawn) (defScope st__law_drawn) [] [] (He.fAd K (("_law_drawn" : Str), none)) fd) : DefOk false P w K mg base ("_law_drawn" : Str) [] 3 g__law_drawn :=
  ⟨_, gm, F.kp, rn_pos (hot := false) (def_ok F sc__law_drawn fun cdv A outer s H E hr => jb__law_drawn G d__law_take hr) rfl (F.bindsN fun _ _ _ _ _ _ us hl => match us, hl with | [_], _ => rfl)⟩
theorem jb__is_integer (G : Gs P K mg)  {f : Addr} {cdv : Value} {A : Around} {outer : List PySem.Env} {s : Shared} {H : Hp} {E : XK} (hr : Room 0 (A.deeper (envOfC ("_is_integer" : Str) (defScope st__is_integer) s.heap.objs.size f cdv))) :
    JB (cxOf (L2N.CX P w) P w K mg base [("value" : Str)] ("_is_integer" : Str) (defScope st__is_integer) f cdv A outer s H E) (wcE E) (defBody st__is_integer) m__is_integer :=
  (jb_one (js_ret (je_and (je_isi rfl G.free_isinstance rfl G.free_int bt_int (by decide) (je_var 0)) (je_one (je_not (je_isi rfl G.free_isinstance rfl G.free_bool bt_bool (by decide) (je_var 0)))))))
theorem d__is_integer (G : Gs P K mg)  (gm : mg ("_is_integer" : Str) = some (.ref (He.fAd K (("_is_integer" : Str), none)))) {fd : FuncData} (F : FunD K ("_is_integer" : Str) ("_is_integer" : Str) (defArgs st__is_integer) (defBody st__is_integer) (defScope st__is_integer) [] [] (He.fAd K (("_is_integer" : Str), none)) fd) : DefOk false P w K mg base ("_is_integer" : Str) [] 1 g__is_integer :=
  ⟨_, gm, F.kp, rn_pos (hot := false) (def_ok F sc__is_integer fun cdv A outer s H E hr => jb__is_integer G  hr) rfl (F.bindsN fun _ _ _ _ _ _ us hl => match us, hl with | [_], _ => rfl)⟩
theorem jb_is_number (G : Gs P K mg) (d__is_integer : DefOk false P w K mg base ("_is_integer" : Str) [] 1 g__is_integer) {f : Addr} {cdv : Value} {A : Around} {outer : List PySem.Env} {s : Shared} {H : Hp} {E : XK} (hr : Room 1 (A.deeper (envOfC ("is_number" : Str) (defScope st_is_number) s.heap.objs.size f cdv))) :
    JB (cxOf (L2N.CX P w) P w K mg base [("value" : Str), ("top" : Str), ("bottom" : Str)] ("is_number" : Str) (defScope st_is_number) f cdv A outer s H E) (wcE E) (defBody st_is_number) m_is_number :=
  (jb_cons (js_if (PW.pt (jw_or (jt_not (jt_tru (je_isi rfl G.free_isinstance rfl G.free_tuple bt_tuple (by decide) (je_var 0)))) (jw_or1 (jt_cmp (opd_ne (huR hr)) (je_callB cad_len rfl G.free_len bt_len (ja_cons (je_var 0) ja_nil)) je_int rfl)))) (jb_one (js_ret je_bl)) jb_nil)
  (jb_cons (js_asg (je_var 0) (jg_tup rfl (jgs_cons (jg_name (i := 1) sc_is_number.nd rfl (Or.inl rfl)) (jgs_cons (jg_name (i := 2) sc_is_number.nd rfl (Or.inl rfl)) jgs_nil))))
  (jb_cons (js_if (PW.pt (jw_or (jt_not (jt_tru (je_call d__is_integer (hr.mono (by decide)) (L2N.takes_of rfl rfl rfl rfl) rfl (ja_cons (je_var 1) ja_nil)))) (jw_or1 (jt_not (jt_tru (je_call d__is_integer (hr.mono (by decide)) (L2N.takes_of rfl rfl rfl rfl) rfl (ja_cons (je_var 2) ja_nil))))))) (jb_one (js_ret je_bl)) jb_nil)
  (jb_one (js_ret (je_and (je_cmp opd_ge (je_var 2) je_int rfl) (je_one (je_cmp (opd_eq (huR hr)) (je_callBfun cad_gcd rfl G.blt_gcd (ja_cons (je_var 1) (ja_cons (je_var 2) ja_nil))) je_int rfl))))))))
theorem d_is_number (G : Gs P K mg) (d__is_integer : DefOk false P w K mg base ("_is_integer" : Str) [] 1 g__is_integer) (gm : mg ("is_number" : Str) = some (.ref (He.fAd K (("is_number" : Str), none)))) {fd : FuncData} (F : FunD K ("is_number" : Str) ("is_number" : Str) (defArgs st_is_number) (defBody st_is_number) (defScope st_is_number) [] [] (He.fAd K (("is_number" : Str), none)) fd) : DefOk false P w K mg base ("is_number" : Str) [] 2 g_is_number :=
  ⟨_, gm, F.kp, rn_pos (hot := false) (def_ok F sc_is_number fun cdv A outer s H E hr => jb_is_number G d__is_integer hr) rfl (F.bindsN fun _ _ _ _ _ _ us hl => match us, hl with | [_], _ => rfl)⟩
theorem jb__digits_value (G : Gs P K mg)  {f : Addr} {cdv : Value} {A : Around} {outer : List PySem.Env} {s : Shared} {H : Hp} {E : XK} (hr : Room 0 (A.deeper (envOfC ("_digits_value" : Str) (defScope st__digits_value) s.heap.objs.size f cdv))) :
    JB (cxOf (L2N.CX P w) P w K mg base [("digits" : Str), ("value" : Str), ("character" : Str), ("digit" : Str)] ("_digits_value" : Str) (defScope st__digits_value) f cdv A outer s H E) (wcE E) (defBody st__digits_value) m__digits_value :=
  (jb_cons (js_if (jt_cmp (opd_eq (huR hr)) (je_var 0) je_str rfl) (jb_one (js_ret je_non)) jb_nil)
  (jb_cons (js_if (PW.pt (jw_and (jt_cmp (opd_eq (huR hr)) (je_ix ixd (je_var 0) je_int) je_str rfl) (jw_and1 (jt_cmp opd_gt (je_callB cad_len rfl G.free_len bt_len (ja_cons (je_var 0) ja_nil)) je_int rfl)))) (jb_one (js_ret je_non)) jb_nil)
  (jb_cons (js_set (i := 1) sc__digits_value.nd rfl (Or.inl rfl) je_int)
  (jb_cons (js_for (L2.passes_of rfl) rfl (je_var 0) (jg_name (i := 2) sc__digits_value.nd rfl (Or.inl rfl)) (jb_cons (js_set (i := 3) sc__digits_value.nd rfl (Or.inl rfl) (je_m1 sl_find ty_find mtd_find (je_kd G.const_DIGITS rfl) (je_var 2)))
  (jb_cons (js_if (jt_cmp opd_lt (je_var 3) je_int rfl) (jb_one (js_ret je_non)) jb_nil)
  (jb_one (js_set (i := 1) sc__digits_value.nd rfl (Or.inl rfl) (je_op opd_add (je_op opd_mul (je_var 1) je_int) (je_var 3)))))))
  (jb_one (js_ret (je_var 1)))))))
theorem d__digits_value (G : Gs P K mg)  (gm : mg ("_digits_value" : Str) = some (.ref (He.fAd K (("_digits_value" : Str), none)))) {fd : FuncData} (F : FunD K ("_digits_value" : Str) ("_digits_value" : Str) (defArgs st__digits_value) (defBody st__digits_value) (defScope st__digits_value) [] [] (He.fAd K (("_digits_value" : Str), none)) fd) : DefOk false P w K mg base ("_digits_value" : Str) [] 1 g__digits_value :=
  ⟨_, gm, F.kp, rn_pos (hot := false) (def_ok F sc__digits_value fun cdv A outer s H E hr => jb__digits_value G  hr) rfl (F.bindsN fun _ _ _ _ _ _ us hl => match us, hl with | [_], _ => rfl)⟩
theorem jb_parse_number (G : Gs P K mg) (d_is_number : DefOk false P w K mg base ("is_number" : Str) [] 2 g_is_number) (d__digits_value : DefOk false P w K mg base ("_digits_value" : Str) [] 1 g__digits_value) {f : Addr} {cdv : Value} {A : Around} {outer : List PySem.Env} {s : Shared} {H : Hp} {E : XK} (hr : Room 2 (A.deeper (envOfC ("parse_number" : Str) (defScope st_parse_number) s.heap.objs.size f cdv))) :
    JB (cxOf (L2N.CX P w) P w K mg base [("text" : Str), ("negative" : Str), ("unsigned" : Str), ("pieces" : Str), ("top" : Str), ("bottom" : Str), ("number" : Str)] ("parse_number" : Str) (defScope st_parse_number) f cdv A outer s H E) (wcE E) (defBody st_parse_number) m_parse_number :=
  (jb_cons (js_set (i := 1) sc_parse_number.nd rfl (Or.inl rfl) (je_m1 sl_startswith ty_startswith mtd_starts (je_var 0) je_str))
  (jb_cons (js_set (i := 2) sc_parse_number.nd rfl (Or.inl rfl) (je_if (jt_tru (je_var 1)) (je_sl sld (je_var 0) (jo_part je_int) jo_no) (je_var 0)))
  (jb_cons (js_set (i := 3) sc_parse_number.nd rfl (Or.inl rfl) (je_m1 sl_split ty_split mtd_split (je_var 2) je_str))
  (jb_cons (js_if (jt_cmp opd_gt (je_callB cad_len rfl G.free_len bt_len (ja_cons (je_var 3) ja_nil)) je_int rfl) (jb_one (js_raise rfl G.exc_BadText fn_BadText hr (L2N.takes_of rfl rfl rfl rfl) (ja_cons (je_var 0) ja_nil) rfl)) jb_nil)
  (jb_cons (js_set (i := 4) sc_parse_number.nd rfl (Or.inl rfl) (je_call d__digits_value (hr.mono (by decide)) (L2N.takes_of rfl rfl rfl rfl) rfl (ja_cons (je_ix ixd (je_var 3) je_int) ja_nil)))
  (jb_cons (js_set (i := 5) sc_parse_number.nd rfl (Or.inl rfl) je_int)
  (jb_cons (js_if (jt_cmp (opd_eq (huR hr)) (je_callB cad_len rfl G.free_len bt_len (ja_cons (je_var 3) ja_nil)) je_int rfl) (jb_one (js_set (i := 5) sc_parse_number.nd rfl (Or.inl rfl) (je_call d__digits_value (hr.mono (by decide)) (L2N.takes_of rfl rfl rfl rfl) rfl (ja_cons (je_ix ixd (je_var 3) je_int) ja_nil)))) jb_nil)
  (jb_cons (js_if (PW.pt (jw_or (jt_cmp opd_is (je_var 4) je_non rfl) (jw_or1 (jt_cmp opd_is (je_var 5) je_non rfl)))) (jb_one (js_raise rfl G.exc_BadText fn_BadText hr (L2N.takes_of rfl rfl rfl rfl) (ja_cons (je_var 0) ja_nil) rfl)) jb_nil)
  (jb_cons (js_if (PW.pt (jw_and (jt_tru (je_var 1)) (jw_and1 (jt_cmp (opd_eq (huR hr)) (je_var 4) je_int rfl)))) (jb_one (js_raise rfl G.exc_BadText fn_BadText hr (L2N.takes_of rfl rfl rfl rfl) (ja_cons (je_var 0) ja_nil) rfl)) jb_nil)
  (jb_cons (js_if (PW.pt (jw_and (jt_cmp (opd_eq (huR hr)) (je_callB cad_len rfl G.free_len bt_len (ja_cons (je_var 3) ja_nil)) je_int rfl) (jw_and1 (jt_cmp (opd_eq (huR hr)) (je_var 5) je_int rfl)))) (jb_one (js_raise rfl G.exc_BadText fn_BadText hr (L2N.takes_of rfl rfl rfl rfl) (ja_cons (je_var 0) ja_nil) rfl)) jb_nil)
  (jb_cons (js_set (i := 6) sc_parse_number.nd rfl (Or.inl rfl) (je_if (jt_tru (je_var 1)) (je_tup (ja_cons (je_un und_neg (je_var 4)) (ja_cons (je_var 5) ja_nil)) (flen_cons (flen_cons flen_nil))) (je_tup (ja_cons (je_var 4) (ja_cons (je_var 5) ja_nil)) (flen_cons (flen_cons flen_nil)))))
  (jb_cons (js_if (jt_not (jt_tru (je_call d_is_number (hr.mono (by decide)) (L2N.takes_of rfl rfl rfl rfl) rfl (ja_cons (je_var 6) ja_nil)))) (jb_one (js_raise rfl G.exc_BadText fn_BadText hr (L2N.takes_of rfl rfl rfl rfl) (ja_cons (je_var 0) ja_nil) rfl)) jb_nil)
  (jb_one (js_ret (je_var 6)))))))))))))))
theorem d_parse_number (G : Gs P K mg) (d_is_number : DefOk false P w K mg base ("is_number" : Str) [] 2 g_is_number) (d__digits_value : DefOk false P w K mg base ("_digits_value" : Str) [] 1 g__digits_value) (gm : mg ("parse_number" : Str) = some (.ref (He.fAd K (("parse_number" : Str), none)))) {fd : FuncData} (F : FunD K ("parse_number" : Str) ("parse_number" : Str) (defArgs st_parse_number) (defBody st_parse_number) (defScope st_parse_number) [] [] (He.fAd K (("parse_number" : Str), none)) fd) : DefOk false P w K mg base ("parse_number" : Str) [] 3 g_parse_number :=
  ⟨_, gm, F.kp, rn_pos (hot := false) (def_ok F sc_parse_number fun cdv A outer s H E hr => jb_parse_number G d_is_number d__digits_value hr) rfl (F.bindsN fun _ _ _ _ _ _ us hl => match us, hl with | [_], _ => rfl)⟩
theorem jb__law_refused_by_base (G : Gs P K mg) (d_parse_number : DefOk false P w K mg base ("parse_number" : Str) [] 3 g_parse_number) {f : Addr} {cdv : Value} {A : Around} {outer : List PySem.Env} {s : Shared} {H : Hp} {E : XK} (hr : Room 3 (A.deeper (envOfC ("_law_refused_by_base" : Str) (defScope st__law_refused_by_base) s.heap.objs.size f cdv))) :
    JB (cxOf (L2N.CX P w) P w K mg base [("word" : Str), ("e" : Str)] ("_law_refused_by_base" : Str) (defScope st__law_refused_by_base) f cdv A outer s H E) (wcE E) (defBody st__law_refused_by_base) m__law_refused_by_base :=
  (jb_cons (js_try_as (i := 1) rfl rfl sc__law_refused_by_base.nd rfl rfl ⟨rfl, by decide, .inl G.glo_FitError⟩ (L2N.takes_of rfl rfl rfl rfl) G.tx_FitError (fun WB pn xe tkT hpT => (jb_one (js_expr (je_call d_parse_number (hr.mono (by decide)) tkT rfl (ja_cons (je_var 0) ja_nil))))) (fun e k a Ca dx oe pn hm hz hd => (jb_one (js_ret (je_and (je_isX ⟨hm, hz, hd, List.mem_cons_self, List.mem_cons_of_mem _ List.mem_cons_self⟩ G.ti_BadText (pe_glob (X := _) (v := .ref _) rfl G.glo_BadText rfl) (fun u h => h) rfl G.free_isinstance (je_var 1)) (je_and (je_isX ⟨hm, hz, hd, List.mem_cons_self, List.mem_cons_of_mem _ List.mem_cons_self⟩ G.ti_ValueError (pe_bltn (X := _) (v := .ty "ValueError") rfl G.free_ValueError bt_ValueError rfl) (fun u h => h) rfl G.free_isinstance (je_var 1)) (je_one (je_cmp (opd_eq (huH (roomMk hr (some (.ref a))))) (je_xf ⟨hm, hz, hd, List.mem_cons_self, List.mem_cons_of_mem _ List.mem_cons_self⟩ G.fld_text (je_var 1)) (je_var 0) rfl))))))))
  (jb_one (js_ret je_bl)))
theorem d__law_refused_by_base (G : Gs P K mg) (d_parse_number : DefOk false P w K mg base ("parse_number" : Str) [] 3 g_parse_number) (gm : mg ("_law_refused_by_base" : Str) = some (.ref (He.fAd K (("_law_refused_by_base" : Str), none)))) {fd : FuncData} (F : FunD K ("_law_refused_by_base" : Str) ("_law_refused_by_base" : Str) (defArgs st__law_refused_by_base) (defBody st__law_refused_by_base) (defScope st__law_refused_by_base) [] [] (He.fAd K (("_law_refused_by_base" : Str), none)) fd) : DefOk false P w K mg base ("_law_refused_by_base" : Str) [] 4 g__law_refused_by_base :=
  ⟨_, gm, F.kp, rn_pos (hot := false) (def_ok F sc__law_refused_by_base fun cdv A outer s H E hr => jb__law_refused_by_base G d_parse_number hr) rfl (F.bindsN fun _ _ _ _ _ _ us hl => match us, hl with | [_], _ => rfl)⟩
theorem jb__law_integer (G : Gs P K mg)  {f : Addr} {cdv : Value} {A : Around} {outer : List PySem.Env} {s : Shared} {H : Hp} {E : XK} (hr : Room 0 (A.deeper (envOfC ("_law_integer" : Str) (defScope st__law_integer) s.heap.objs.size f cdv))) :
    JB (cxOf (L2N.CX P w) P w K mg base [("thing" : Str)] ("_law_integer" : Str) (defScope st__law_integer) f cdv A outer s H E) (wcE E) (defBody st__law_integer) m__law_integer :=
  (jb_one (js_ret (je_and (je_isi rfl G.free_isinstance rfl G.free_int bt_int (by decide) (je_var 0)) (je_one (je_not (je_isi rfl G.free_isinstance rfl G.free_bool bt_bool (by decide) (je_var 0)))))))
theorem d__law_integer (G : Gs P K mg)  (gm : mg ("_law_integer" : Str) = some (.ref (He.fAd K (("_law_integer" : Str), none)))) {fd : FuncData} (F : FunD K ("_law_integer" : Str) ("_law_integer" : Str) (defArgs st__law_integer) (defBody st__law_integer) (defScope st__law_integer) [] [] (He.fAd K (("_law_integer" : Str), none)) fd) : DefOk false P w K mg base ("_law_integer" : Str) [] 1 g__law_integer :=
  ⟨_, gm, F.kp, rn_pos (hot := false) (def_ok F sc__law_integer fun cdv A outer s H E hr => jb__law_integer G  hr) rfl (F.bindsN fun _ _ _ _ _ _ us hl => match us, hl with | [_], _ => rfl)⟩
theorem jb__law_is (G : Gs P K mg) (d__law_integer : DefOk false P w K mg base ("_law_integer" : Str) [] 1 g__law_integer) {f : Addr} {cdv : Value} {A : Around} {outer : List PySem.Env} {s : Shared} {H : Hp} {E : XK} (hr : Room 1 (A.deeper (envOfC ("_law_is" : Str) (defScope st__law_is) s.heap.objs.size f cdv))) :
    JB (cxOf (L2N.CX P w) P w K mg base [("answer" : Str), ("due" : Str)] ("_law_is" : Str) (defScope st__law_is) f cdv A outer s H E) (wcE E) (defBody st__law_is) m__law_is :=
  (jb_cons (js_if (PW.pt (jw_or (jt_not (jt_tru (je_isi rfl G.free_isinstance rfl G.free_tuple bt_tuple (by decide) (je_var 0)))) (jw_or1 (jt_cmp (opd_ne (huR hr)) (je_callB cad_len rfl G.free_len bt_len (ja_cons (je_var 0) ja_nil)) je_int rfl)))) (jb_one (js_ret je_bl)) jb_nil)
  (jb_cons (js_if (PW.pt (jw_or (jt_not (jt_tru (je_call d__law_integer (hr.mono (by decide)) (L2N.takes_of rfl rfl rfl rfl) rfl (ja_cons (je_ix ixd (je_var 0) je_int) ja_nil)))) (jw_or1 (jt_not (jt_tru (je_call d__law_integer (hr.mono (by decide)) (L2N.takes_of rfl rfl rfl rfl) rfl (ja_cons (je_ix ixd (je_var 0) je_int) ja_nil))))))) (jb_one (js_ret je_bl)) jb_nil)
  (jb_one (js_ret (je_and (je_cmp (opd_eq (huR hr)) (je_ix ixd (je_var 0) je_int) (je_ix ixd (je_var 1) je_int) rfl) (je_one (je_cmp (opd_eq (huR hr)) (je_ix ixd (je_var 0) je_int) (je_ix ixd (je_var 1) je_int) rfl)))))))
theorem d__law_is (G : Gs P K mg) (d__law_integer : DefOk false P w K mg base ("_law_integer" : Str) [] 1 g__law_integer) (gm : mg ("_law_is" : Str) = some (.ref (He.fAd K (("_law_is" : Str), none)))) {fd : FuncData} (F : FunD K ("_law_is" : Str) ("_law_is" : Str) (defArgs st__law_is) (defBody st__law_is) (defScope st__law_is) [] [] (He.fAd K (("_law_is" : Str), none)) fd) : DefOk false P w K mg base ("_law_is" : Str) [] 2 g__law_is :=
  ⟨_, gm, F.kp, rn_pos (hot := false) (def_ok F sc__law_is fun cdv A outer s H E hr => jb__law_is G d__law_integer hr) rfl (F.bindsN fun _ _ _ _ _ _ us hl => match us, hl with | [_, _], _ => rfl)⟩
theorem jb__law_digits (G : Gs P K mg)  {f : Addr} {cdv : Value} {A : Around} {outer : List PySem.Env} {s : Shared} {H : Hp} {E : XK} (hr : Room 0 (A.deeper (envOfC ("_law_digits" : Str) (defScope st__law_digits) s.heap.objs.size f cdv))) :
    JB (cxOf (L2N.CX P w) P w K mg base [("word" : Str), ("char" : Str)] ("_law_digits" : Str) (defScope st__law_digits) f cdv A outer s H E) (wcE E) (defBody st__law_digits) m__law_digits :=
  (jb_cons (js_if (PW.pt (jw_or (jt_cmp (opd_eq (huR hr)) (je_var 0) je_str rfl) (jw_or1 (PW.pt (jw_and (jt_cmp opd_gt (je_callB cad_len rfl G.free_len bt_len (ja_cons (je_var 0) ja_nil)) je_int rfl) (jw_and1 (jt_cmp (opd_eq (huR hr)) (je_ix ixd (je_var 0) je_int) je_str rfl))))))) (jb_one (js_ret je_bl)) jb_nil)
  (jb_cons (js_for (L2.passes_of rfl) rfl (je_var 0) (jg_name (i := 1) sc__law_digits.nd rfl (Or.inl rfl)) (jb_one (js_if (jt_cmp opd_notInS (je_var 1) je_str rfl) (jb_one (js_ret je_bl)) jb_nil)))
  (jb_one (js_ret je_bl))))
theorem d__law_digits (G : Gs P K mg)  (gm : mg ("_law_digits" : Str) = some (.ref (He.fAd K (("_law_digits" : Str), none)))) {fd : FuncData} (F : FunD K ("_law_digits" : Str) ("_law_digits" : Str) (defArgs st__law_digits) (defBody st__law_digits) (defScope st__law_digits) [] [] (He.fAd K (("_law_digits" : Str), none)) fd) : DefOk false P w K mg base ("_law_digits" : Str) [] 1 g__law_digits :=
  ⟨_, gm, F.kp, rn_pos (hot := false) (def_ok F sc__law_digits fun cdv A outer s H E hr => jb__law_digits G  hr) rfl (F.bindsN fun _ _ _ _ _ _ us hl => match us, hl with | [_], _ => rfl)⟩
theorem jb__law_read (G : Gs P K mg) (d__law_divisor : DefOk false P w K mg base ("_law_divisor" : Str) [] 1 g__law_divisor) (d__law_digits : DefOk false P w K mg base ("_law_digits" : Str) [] 1 g__law_digits) {f : Addr} {cdv : Value} {A : Around} {outer : List PySem.Env} {s : Shared} {H : Hp} {E : XK} (hr : Room 1 (A.deeper (envOfC ("_law_read" : Str) (defScope st__law_read) s.heap.objs.size f cdv))) :
    JB (cxOf (L2N.CX P w) P w K mg base [("word" : Str), ("rest" : Str), ("parts" : Str), ("above" : Str), ("below" : Str)] ("_law_read" : Str) (defScope st__law_read) f cdv A outer s H E) (wcE E) (defBody st__law_read) m__law_read :=
  (jb_cons (js_set (i := 1) sc__law_read.nd rfl (Or.inl rfl) (je_var 0))
  (jb_cons (js_if (jt_cmp (opd_eq (huR hr)) (je_sl sld (je_var 0) jo_no (jo_part je_int)) je_str rfl) (jb_one (js_set (i := 1) sc__law_read.nd rfl (Or.inl rfl) (je_sl sld (je_var 0) (jo_part je_int) jo_no))) jb_nil)
  (jb_cons (js_set (i := 2) sc__law_read.nd rfl (Or.inl rfl) (je_m1 sl_split ty_split mtd_split (je_var 1) je_str))
  (jb_cons (js_if (PW.pt (jw_or (jt_cmp opd_gt (je_callB cad_len rfl G.free_len bt_len (ja_cons (je_var 2) ja_nil)) je_int rfl) (jw_or1 (jt_not (jt_tru (je_call d__law_digits (hr.mono (by decide)) (L2N.takes_of rfl rfl rfl rfl) rfl (ja_cons (je_ix ixd (je_var 2) je_int) ja_nil))))))) (jb_one (js_ret je_non)) jb_nil)
  (jb_cons (js_set (i := 3) sc__law_read.nd rfl (Or.inl rfl) (je_callTy cad_intS rfl G.free_int bt_int (ja_cons (je_ix ixd (je_var 2) je_int) ja_nil)))
  (jb_cons (js_if (jt_cmp (opd_ne (huR hr)) (je_var 1) (je_var 0) rfl) (jb_cons (js_if (jt_cmp (opd_eq (huR hr)) (je_var 3) je_int rfl) (jb_one (js_ret je_non)) jb_nil)
  (jb_one (js_set (i := 3) sc__law_read.nd rfl (Or.inl rfl) (je_un und_neg (je_var 3))))) jb_nil)
  (jb_cons (js_if (jt_cmp (opd_eq (huR hr)) (je_callB cad_len rfl G.free_len bt_len (ja_cons (je_var 2) ja_nil)) je_int rfl) (jb_one (js_ret (je_tup (ja_cons (je_var 3) (ja_cons je_int ja_nil)) (flen_cons (flen_cons flen_nil))))) jb_nil)
  (jb_cons (js_if (jt_not (jt_tru (je_call d__law_digits (hr.mono (by decide)) (L2N.takes_of rfl rfl rfl rfl) rfl (ja_cons (je_ix ixd (je_var 2) je_int) ja_nil)))) (jb_one (js_ret je_non)) jb_nil)
  (jb_cons (js_set (i := 4) sc__law_read.nd rfl (Or.inl rfl) (je_callTy cad_intS rfl G.free_int bt_int (ja_cons (je_ix ixd (je_var 2) je_int) ja_nil)))
  (jb_cons (js_if (PW.pt (jw_or (jt_cmp opd_lt (je_var 4) je_int rfl) (jw_or1 (jt_cmp (opd_ne (huR hr)) (je_call d__law_divisor (hr.mono (by decide)) (L2N.takes_of rfl rfl rfl rfl) rfl (ja_cons (je_callB cad_abs rfl G.free_abs bt_abs (ja_cons (je_var 3) ja_nil)) (ja_cons (je_var 4) ja_nil))) je_int rfl)))) (jb_one (js_ret je_non)) jb_nil)
  (jb_one (js_ret (je_tup (ja_cons (je_var 3) (ja_cons (je_var 4) ja_nil)) (flen_cons (flen_cons flen_nil)))))))))))))))
theorem d__law_read (G : Gs P K mg) (d__law_divisor : DefOk false P w K mg base ("_law_divisor" : Str) [] 1 g__law_divisor) (d__law_digits : DefOk false P w K mg base ("_law_digits" : Str) [] 1 g__law_digits) (gm : mg ("_law_read" : Str) = some (.ref (He.fAd K (("_law_read" : Str), none)))) {fd : FuncData} (F : FunD K ("_law_read" : Str) ("_law_read" : Str) (defArgs st__law_read) (defBody st__law_read) (defScope st__law_read) [] [] (He.fAd K (("_law_read" : Str), none)) fd) : DefOk false P w K mg base ("_law_read" : Str) [] 2 g__law_read :=
  ⟨_, gm, F.kp, rn_pos (hot := false) (def_ok F sc__law_read fun cdv A outer s H E hr => jb__law_read G d__law_divisor d__law_digits hr) rfl (F.bindsN fun _ _ _ _ _ _ us hl => match us, hl with | [_], _ => rfl)⟩
theorem jb__law_refused (G : Gs P K mg) (d_parse_number : DefOk false P w K mg base ("parse_number" : Str) [] 3 g_parse_number) {f : Addr} {cdv : Value} {A : Around} {outer : List PySem.Env} {s : Shared} {H : Hp} {E : XK} (hr : Room 3 (A.deeper (envOfC ("_law_refused" : Str) (defScope st__law_refused) s.heap.objs.size f cdv))) :
    JB (cxOf (L2N.CX P w) P w K mg base [("word" : Str), ("e" : Str)] ("_law_refused" : Str) (defScope st__law_refused) f cdv A outer s H E) (wcE E) (defBody st__law_refused) m__law_refused :=
  (jb_cons (js_try_as (i := 1) rfl rfl sc__law_refused.nd rfl rfl ⟨rfl, by decide, .inl G.glo_BadText⟩ (L2N.takes_of rfl rfl rfl rfl) G.tx_BadText (fun WB pn xe tkT hpT => (jb_one (js_expr (je_call d_parse_number (hr.mono (by decide)) tkT rfl (ja_cons (je_var 0) ja_nil))))) (fun e k a Ca dx oe pn hm hz hd => (jb_cons (js_if (PW.pt (jw_or (jt_tru (je_isX ⟨hm, hz, hd, List.mem_cons_self, List.mem_cons_of_mem _ List.mem_cons_self⟩ G.ti_BadNumber (pe_glob (X := _) (v := .ref _) rfl G.glo_BadNumber rfl) (fun u h => h) rfl G.free_isinstance (je_var 1))) (jw_or1 (jt_tru (je_isX ⟨hm, hz, hd, List.mem_cons_self, List.mem_cons_of_mem _ List.mem_cons_self⟩ G.ti_BadSpan (pe_glob (X := _) (v := .ref _) rfl G.glo_BadSpan rfl) (fun u h => h) rfl G.free_isinstance (je_var 1)))))) (jb_one (js_ret je_bl)) jb_nil)
  (jb_cons (js_if (PW.pt (jw_or (jt_tru (je_isX ⟨hm, hz, hd, List.mem_cons_self, List.mem_cons_of_mem _ List.mem_cons_self⟩ G.ti_BadForm (pe_glob (X := _) (v := .ref _) rfl G.glo_BadForm rfl) (fun u h => h) rfl G.free_isinstance (je_var 1))) (jw_or1 (jt_tru (je_isX ⟨hm, hz, hd, List.mem_cons_self, List.mem_cons_of_mem _ List.mem_cons_self⟩ G.ti_BadPlace (pe_glob (X := _) (v := .ref _) rfl G.glo_BadPlace rfl) (fun u h => h) rfl G.free_isinstance (je_var 1)))))) (jb_one (js_ret je_bl)) jb_nil)
  (jb_cons (js_if (PW.pt (jw_or (jt_not (jt_tru (je_isX ⟨hm, hz, hd, List.mem_cons_self, List.mem_cons_of_mem _ List.mem_cons_self⟩ G.ti_FitError (pe_glob (X := _) (v := .ref _) rfl G.glo_FitError rfl) (fun u h => h) rfl G.free_isinstance (je_var 1)))) (jw_or1 (jt_not (jt_tru (je_isX ⟨hm, hz, hd, List.mem_cons_self, List.mem_cons_of_mem _ List.mem_cons_self⟩ G.ti_ValueError (pe_bltn (X := _) (v := .ty "ValueError") rfl G.free_ValueError bt_ValueError rfl) (fun u h => h) rfl G.free_isinstance (je_var 1))))))) (jb_one (js_ret je_bl)) jb_nil)
  (jb_one (js_ret (je_and (je_isi rfl G.free_isinstance rfl G.free_str bt_str (by decide) (je_xf ⟨hm, hz, hd, List.mem_cons_self, List.mem_cons_of_mem _ List.mem_cons_self⟩ G.fld_text (je_var 1))) (je_one (je_cmp (opd_eq (huH (roomMk hr (some (.ref a))))) (je_xf ⟨hm, hz, hd, List.mem_cons_self, List.mem_cons_of_mem _ List.mem_cons_self⟩ G.fld_text (je_var 1)) (je_var 0) rfl))))))))))
  (jb_one (js_ret je_bl)))
theorem d__law_refused (G : Gs P K mg) (d_parse_number : DefOk false P w K mg base ("parse_number" : Str) [] 3 g_parse_number) (gm : mg ("_law_refused" : Str) = some (.ref (He.fAd K (("_law_refused" : Str), none)))) {fd : FuncData} (F : FunD K ("_law_refused" : Str) ("_law_refused" : Str) (defArgs st__law_refused) (defBody st__law_refused) (defScope st__law_refused) [] [] (He.fAd K (("_law_refused" : Str), none)) fd) : DefOk false P w K mg base ("_law_refused" : Str) [] 4 g__law_refused :=
  ⟨_, gm, F.kp, rn_pos (hot := false) (def_ok F sc__law_refused fun cdv A outer s H E hr => jb__law_refused G d_parse_number hr) rfl (F.bindsN fun _ _ _ _ _ _ us hl => match us, hl with | [_], _ => rfl)⟩
theorem jb__law_text_right (G : Gs P K mg) (d_parse_number : DefOk false P w K mg base ("parse_number" : Str) [] 3 g_parse_number) (d__law_is : DefOk false P w K mg base ("_law_is" : Str) [] 2 g__law_is) (d__law_read : DefOk false P w K mg base ("_law_read" : Str) [] 2 g__law_read) (d__law_refused : DefOk false P w K mg base ("_law_refused" : Str) [] 4 g__law_refused) {f : Addr} {cdv : Value} {A : Around} {outer : List PySem.Env} {s : Shared} {H : Hp} {E : XK} (hr : Room 4 (A.deeper (envOfC ("_law_text_right" : Str) (defScope st__law_text_right) s.heap.objs.size f cdv))) :
    JB (cxOf (L2N.CX P w) P w K mg base [("word" : Str), ("due" : Str)] ("_law_text_right" : Str) (defScope st__law_text_right) f cdv A outer s H E) (wcE E) (defBody st__law_text_right) m__law_text_right :=
  (jb_cons (js_set (i := 1) sc__law_text_right.nd rfl (Or.inl rfl) (je_call d__law_read (hr.mono (by decide)) (L2N.takes_of rfl rfl rfl rfl) rfl (ja_cons (je_var 0) ja_nil)))
  (jb_cons (js_if (jt_cmp opd_is (je_var 1) je_non rfl) (jb_one (js_ret (je_call d__law_refused (hr.mono (by decide)) (L2N.takes_of rfl rfl rfl rfl) rfl (ja_cons (je_var 0) ja_nil)))) jb_nil)
  (jb_one (js_ret (je_call d__law_is (hr.mono (by decide)) (L2N.takes_of rfl rfl rfl rfl) rfl (ja_cons (je_call d_parse_number (hr.mono (by decide)) (L2N.takes_of rfl rfl rfl rfl) rfl (ja_cons (je_var 0) ja_nil)) (ja_cons (je_var 1) ja_nil)))))))
theorem d__law_text_right (G : Gs P K mg) (d_parse_number : DefOk false P w K mg base ("parse_number" : Str) [] 3 g_parse_number) (d__law_is : DefOk false P w K mg base ("_law_is" : Str) [] 2 g__law_is) (d__law_read : DefOk false P w K mg base ("_law_read" : Str) [] 2 g__law_read) (d__law_refused : DefOk false P w K mg base ("_law_refused" : Str) [] 4 g__law_refused) (gm : mg ("_law_text_right" : Str) = some (.ref (He.fAd K (("_law_text_right" : Str), none)))) {fd : FuncData} (F : FunD K ("_law_text_right" : Str) ("_law_text_right" : Str) (defArgs st__law_text_right) (defBody st__law_text_right) (defScope st__law_text_right) [] [] (He.fAd K (("_law_text_right" : Str), none)) fd) : DefOk false P w K mg base ("_law_text_right" : Str) [] 5 g__law_text_right :=
  ⟨_, gm, F.kp, rn_pos (hot := false) (def_ok F sc__law_text_right fun cdv A outer s H E hr => jb__law_text_right G d_parse_number d__law_is d__law_read d__law_refused hr) rfl (F.bindsN fun _ _ _ _ _ _ us hl => match us, hl with | [_], _ => rfl)⟩
theorem jb_format_number (G : Gs P K mg)  {f : Addr} {cdv : Value} {A : Around} {outer : List PySem.Env} {s : Shared} {H : Hp} {E : XK} (hr : Room 0 (A.deeper (envOfC ("format_number" : Str) (defScope st_format_number) s.heap.objs.size f cdv))) :
    JB (cxOf (L2N.CX P w) P w K mg base [("a" : Str), ("top" : Str), ("bottom" : Str)] ("format_number" : Str) (defScope st_format_number) f cdv A outer s H E) (wcE E) (defBody st_format_number) m_format_number :=
  (jb_cons (js_asg (je_var 0) (jg_tup rfl (jgs_cons (jg_name (i := 1) sc_format_number.nd rfl (Or.inl rfl)) (jgs_cons (jg_name (i := 2) sc_format_number.nd rfl (Or.inl rfl)) jgs_nil))))
  (jb_cons (js_if (jt_cmp (opd_eq (huR hr)) (je_var 2) je_int rfl) (jb_one (js_ret (je_callTy cad_str rfl G.free_str bt_str (ja_cons (je_var 1) ja_nil)))) jb_nil)
  (jb_one (js_ret (je_joined (JP.cons (je_fmt (je_var 1)) (JP.cons je_str (JP.cons (je_fmt (je_var 2)) JP.nil))))))))
theorem d_format_number (G : Gs P K mg)  (gm : mg ("format_number" : Str) = some (.ref (He.fAd K (("format_number" : Str), none)))) {fd : FuncData} (F : FunD K ("format_number" : Str) ("format_number" : Str) (defArgs st_format_number) (defBody st_format_number) (defScope st_format_number) [] [] (He.fAd K (("format_number" : Str), none)) fd) : DefOk false P w K mg base ("format_number" : Str) [] 1 g_format_number :=
  ⟨_, gm, F.kp, rn_pos (hot := false) (def_ok F sc_format_number fun cdv A outer s H E hr => jb_format_number G  hr) rfl (F.bindsN fun _ _ _ _ _ _ us hl => match us, hl with | [_], _ => rfl)⟩
theorem jb__law_odd (G : Gs P K mg) (d__law_written : DefOk false P w K mg base ("_law_written" : Str) [] 1 g__law_written) {f : Addr} {cdv : Value} {A : Around} {outer : List PySem.Env} {s : Shared} {H : Hp} {E : XK} (hr : Room 1 (A.deeper (envOfC ("_law_odd" : Str) (defScope st__law_odd) s.heap.objs.size f cdv))) :
    JB (cxOf (L2N.CX P w) P w K mg base [("a" : Str), ("factor" : Str), ("word" : Str), ("above" : Str), ("plain" : Str), ("below" : Str), ("row" : Str)] ("_law_odd" : Str) (defScope st__law_odd) f cdv A outer s H E) (wcE E) (defBody st__law_odd) m__law_odd :=
  (jb_cons (js_set (i := 2) sc__law_odd.nd rfl (Or.inl rfl) (je_call d__law_written (hr.mono (by decide)) (L2N.takes_of rfl rfl rfl rfl) rfl (ja_cons (je_var 0) ja_nil)))
  (jb_cons (js_set (i := 3) sc__law_odd.nd rfl (Or.inl rfl) (je_callTy cad_str rfl G.free_str bt_str (ja_cons (je_ix ixd (je_var 0) je_int) ja_nil)))
  (jb_cons (js_set (i := 4) sc__law_odd.nd rfl (Or.inl rfl) (je_callTy cad_str rfl G.free_str bt_str (ja_cons (je_callB cad_abs rfl G.free_abs bt_abs (ja_cons (je_ix ixd (je_var 0) je_int) ja_nil)) ja_nil)))
  (jb_cons (js_set (i := 5) sc__law_odd.nd rfl (Or.inl rfl) (je_callTy cad_str rfl G.free_str bt_str (ja_cons (je_ix ixd (je_var 0) je_int) ja_nil)))
  (jb_cons (js_set (i := 6) sc__law_odd.nd rfl (Or.inl rfl) (je_lst (ja_cons je_str (ja_cons je_str (ja_cons je_str (ja_cons (je_op opd_add je_str (je_var 2)) (ja_cons (je_op opd_add (je_var 2) je_str) (ja_cons (je_op opd_add (je_var 2) je_str) (ja_cons (je_op opd_add je_str (je_var 2)) (ja_cons (je_op opd_add je_str (je_var 2)) (ja_cons (je_op opd_add je_str (je_var 2)) ja_nil))))))))) (flen_cons (flen_cons (flen_cons (flen_cons (flen_cons (flen_cons (flen_cons (flen_cons (flen_cons flen_nil)))))))))))
  (jb_cons (js_set (i := 6) sc__law_odd.nd rfl (Or.inl rfl) (je_op opd_add (je_var 6) (je_lst (ja_cons (je_op opd_add je_str (je_var 4)) (ja_cons (je_op opd_add je_str (je_var 4)) (ja_cons (je_op opd_add je_str (je_var 4)) (ja_cons je_str (ja_cons je_str (ja_cons (je_op opd_add je_str (je_callTy cad_str rfl G.free_str bt_str (ja_cons (je_op opd_add (je_ix ixd (je_var 0) je_int) je_int) ja_nil))) ja_nil)))))) (flen_cons (flen_cons (flen_cons (flen_cons (flen_cons (flen_cons flen_nil)))))))))
  (jb_cons (js_set (i := 6) sc__law_odd.nd rfl (Or.inl rfl) (je_op opd_add (je_var 6) (je_lst (ja_cons (je_op opd_add (je_var 2) je_str) (ja_cons (je_op opd_add (je_var 2) je_str) (ja_cons (je_op opd_add je_str (je_var 2)) (ja_cons (je_op opd_add (je_var 3) je_str) (ja_cons (je_op opd_add (je_op opd_add (je_var 3) je_str) (je_var 5)) ja_nil))))) (flen_cons (flen_cons (flen_cons (flen_cons (flen_cons flen_nil))))))))
  (jb_cons (js_set (i := 6) sc__law_odd.nd rfl (Or.inl rfl) (je_op opd_add (je_var 6) (je_lst (ja_cons (je_op opd_add (je_op opd_add (je_var 3) je_str) (je_var 5)) (ja_cons (je_op opd_add (je_op opd_add (je_var 3) je_str) (je_var 5)) (ja_cons (je_op opd_add (je_op opd_add (je_var 3) je_str) (je_var 5)) (ja_cons (je_op opd_add (je_op opd_add (je_var 3) je_str) (je_var 5)) ja_nil)))) (flen_cons (flen_cons (flen_cons (flen_cons flen_nil)))))))
  (jb_cons (js_set (i := 6) sc__law_odd.nd rfl (Or.inl rfl) (je_op opd_add (je_var 6) (je_lst (ja_cons (je_op opd_add (je_op opd_add (je_var 3) je_str) (je_var 5)) (ja_cons (je_op opd_add (je_op opd_add (je_callTy cad_str rfl G.free_str bt_str (ja_cons (je_op opd_mul (je_ix ixd (je_var 0) je_int) (je_var 1)) ja_nil)) je_str) (je_callTy cad_str rfl G.free_str bt_str (ja_cons (je_op opd_mul (je_ix ixd (je_var 0) je_int) (je_var 1)) ja_nil))) ja_nil)) (flen_cons (flen_cons flen_nil)))))
  (jb_cons (js_set (i := 6) sc__law_odd.nd rfl (Or.inl rfl) (je_op opd_add (je_var 6) (je_lst (ja_cons (je_op opd_add (je_op opd_add (je_var 3) je_str) (je_var 5)) (ja_cons (je_op opd_add (je_var 3) je_str) ja_nil)) (flen_cons (flen_cons flen_nil)))))
  (jb_one (js_ret (je_op opd_add (je_var 6) (je_lst (ja_cons (je_op opd_add (je_var 2) je_str) (ja_cons (je_op opd_add (je_var 2) je_str) (ja_cons (je_op opd_add (je_var 2) je_str) (ja_cons (je_op opd_add (je_op opd_add je_str (je_var 2)) je_str) (ja_cons (je_op opd_add (je_op opd_add (je_var 2) je_str) (je_var 2)) ja_nil))))) (flen_cons (flen_cons (flen_cons (flen_cons (flen_cons flen_nil)))))))))))))))))))
theorem d__law_odd (G : Gs P K mg) (d__law_written : DefOk false P w K mg base ("_law_written" : Str) [] 1 g__law_written) (gm : mg ("_law_odd" : Str) = some (.ref (He.fAd K (("_law_odd" : Str), none)))) {fd : FuncData} (F : FunD K ("_law_odd" : Str) ("_law_odd" : Str) (defArgs st__law_odd) (defBody st__law_odd) (defScope st__law_odd) [] [] (He.fAd K (("_law_odd" : Str), none)) fd) : DefOk false P w K mg base ("_law_odd" : Str) [] 2 g__law_odd :=
  ⟨_, gm, F.kp, rn_pos (hot := false) (def_ok F sc__law_odd fun cdv A outer s H E hr => jb__law_odd G d__law_written hr) rfl (F.bindsN fun _ _ _ _ _ _ us hl => match us, hl with | [_, _], _ => rfl)⟩
theorem jb__law_number_right (G : Gs P K mg) (d_format_number : DefOk false P w K mg base ("format_number" : Str) [] 1 g_format_number) (d_parse_number : DefOk false P w K mg base ("parse_number" : Str) [] 3 g_parse_number) (d__law_is : DefOk false P w K mg base ("_law_is" : Str) [] 2 g__law_is) (d__law_written : DefOk false P w K mg base ("_law_written" : Str) [] 1 g__law_written) (d__law_odd : DefOk false P w K mg base ("_law_odd" : Str) [] 2 g__law_odd) (d__law_refused_by_base : DefOk false P w K mg base ("_law_refused_by_base" : Str) [] 4 g__law_refused_by_base) (d__law_text_right : DefOk false P w K mg base ("_law_text_right" : Str) [] 5 g__law_text_right) {f : Addr} {cdv : Value} {A : Around} {outer : List PySem.Env} {s : Shared} {H : Hp} {E : XK} (hr : Room 5 (A.deeper (envOfC ("_law_number_right" : Str) (defScope st__law_number_right) s.heap.objs.size f cdv))) :
    JB (cxOf (L2N.CX P w) P w K mg base [("a" : Str), ("factor" : Str), ("answer" : Str), ("word" : Str)] ("_law_number_right" : Str) (defScope st__law_number_right) f cdv A outer s H E) (wcE E) (defBody st__law_number_right) m__law_number_right :=
  (jb_cons (js_set (i := 2) sc__law_number_right.nd rfl (Or.inl rfl) (je_call d_format_number (hr.mono (by decide)) (L2N.takes_of rfl rfl rfl rfl) rfl (ja_cons (je_var 0) ja_nil)))
  (jb_cons (js_if (PW.pt (jw_or (jt_not (jt_tru (je_isi rfl G.free_isinstance rfl G.free_str bt_str (by decide) (je_var 2)))) (jw_or1 (jt_cmp (opd_ne (huR hr)) (je_var 2) (je_call d__law_written (hr.mono (by decide)) (L2N.takes_of rfl rfl rfl rfl) rfl (ja_cons (je_var 0) ja_nil)) rfl)))) (jb_one (js_ret je_bl)) jb_nil)
  (jb_cons (js_if (jt_not (jt_tru (je_call d__law_is (hr.mono (by decide)) (L2N.takes_of rfl rfl rfl rfl) rfl (ja_cons (je_call d_parse_number (hr.mono (by decide)) (L2N.takes_of rfl rfl rfl rfl) rfl (ja_cons (je_call d__law_written (hr.mono (by decide)) (L2N.takes_of rfl rfl rfl rfl) rfl (ja_cons (je_var 0) ja_nil)) ja_nil)) (ja_cons (je_var 0) ja_nil))))) (jb_one (js_ret je_bl)) jb_nil)
  (jb_cons (js_for (L2.passes_of rfl) rfl (je_call d__law_odd (hr.mono (by decide)) (L2N.takes_of rfl rfl rfl rfl) rfl (ja_cons (je_var 0) (ja_cons (je_var 1) ja_nil))) (jg_name (i := 3) sc__law_number_right.nd rfl (Or.inl rfl)) (jb_one (js_if (jt_not (jt_tru (je_call d__law_text_right (hr.mono (by decide)) (L2N.takes_of rfl rfl rfl rfl) rfl (ja_cons (je_var 3) ja_nil)))) (jb_one (js_ret je_bl)) jb_nil)))
  (jb_one (js_ret (je_call d__law_refused_by_base (hr.mono (by decide)) (L2N.takes_of rfl rfl rfl rfl) rfl (ja_cons (je_op opd_add (je_call d__law_written (hr.mono (by decide)) (L2N.takes_of rfl rfl rfl rfl) rfl (ja_cons (je_var 0) ja_nil)) je_str) ja_nil))))))))
theorem d__law_number_right (G : Gs P K mg) (d_format_number : DefOk false P w K mg base ("format_number" : Str) [] 1 g_format_number) (d_parse_number : DefOk false P w K mg base ("parse_number" : Str) [] 3 g_parse_number) (d__law_is : DefOk false P w K mg base ("_law_is" : Str) [] 2 g__law_is) (d__law_written : DefOk false P w K mg base ("_law_written" : Str) [] 1 g__law_written) (d__law_odd : DefOk false P w K mg base ("_law_odd" : Str) [] 2 g__law_odd) (d__law_refused_by_base : DefOk false P w K mg base ("_law_refused_by_base" : Str) [] 4 g__law_refused_by_base) (d__law_text_right : DefOk false P w K mg base ("_law_text_right" : Str) [] 5 g__law_text_right) (gm : mg ("_law_number_right" : Str) = some (.ref (He.fAd K (("_law_number_right" : Str), none)))) {fd : FuncData} (F : FunD K ("_law_number_right" : Str) ("_law_number_right" : Str) (defArgs st__law_number_right) (defBody st__law_number_right) (defScope st__law_number_right) [] [] (He.fAd K (("_law_number_right" : Str), none)) fd) : DefOk false P w K mg base ("_law_number_right" : Str) [] 6 g__law_number_right :=
  ⟨_, gm, F.kp, rn_pos (hot := false) (def_ok F sc__law_number_right fun cdv A outer s H E hr => jb__law_number_right G d_format_number d_parse_number d__law_is d__law_written d__law_odd d__law_refused_by_base d__law_text_right hr) rfl (F.bindsN fun _ _ _ _ _ _ us hl => match us, hl with | [_, _], _ => rfl)⟩
theorem jb_law (G : Gs P K mg) (d__law_bag : DefOk false P w K mg base ("_law_bag" : Str) [] 1 g__law_bag) (d__law_take : DefOk false P w K mg base ("_law_take" : Str) [] 2 g__law_take) (d__law_numbers : DefOk false P w K mg base ("_law_numbers" : Str) [] 5 g__law_numbers) (d__law_written : DefOk false P w K mg base ("_law_written" : Str) [] 1 g__law_written) (d__law_little : DefOk false P w K mg base ("_law_little" : Str) [] 4 g__law_little) (d__law_bent : DefOk false P w K mg base ("_law_bent" : Str) [] 3 g__law_bent) (d__law_drawn : DefOk false P w K mg base ("_law_drawn" : Str) [] 3 g__law_drawn) (d__law_refused_by_base : DefOk false P w K mg base ("_law_refused_by_base" : Str) [] 4 g__law_refused_by_base) (d__law_text_right : DefOk false P w K mg base ("_law_text_right" : Str) [] 5 g__law_text_right) (d__law_number_right : DefOk false P w K mg base ("_law_number_right" : Str) [] 6 g__law_number_right) {f : Addr} {cdv : Value} {A : Around} {outer : List PySem.Env} {s : Shared} {H : Hp} {E : XK} (hr : Room 6 (A.deeper (envOfC ("law" : Str) (defScope st_law) s.heap.objs.size f cdv))) :
    JB (cxOf (L2N.CX P w) P w K mg base [("script" : Str), ("bag" : Str), ("a" : Str), ("k" : Str), ("word" : Str), ("factor" : Str)] ("law" : Str) (defScope st_law) f cdv A outer s H E) (wcE E) (defBody st_law) m_law :=
  (jb_cons (js_set (i := 1) sc_law.nd rfl (Or.inl rfl) (je_call d__law_bag (hr.mono (by decide)) (L2N.takes_of rfl rfl rfl rfl) rfl (ja_cons (je_var 0) ja_nil)))
  (jb_cons (js_for (L2.passes_of rfl) rfl (je_call d__law_numbers (hr.mono (by decide)) (L2N.takes_of rfl rfl rfl rfl) rfl (ja_cons (je_var 1) (ja_cons (je_op opd_add je_int (je_call d__law_take (hr.mono (by decide)) (L2N.takes_of rfl rfl rfl rfl) rfl (ja_cons (je_var 1) (ja_cons je_int ja_nil)))) ja_nil))) (jg_name (i := 2) sc_law.nd rfl (Or.inl rfl)) (jb_cons (js_set (i := 5) sc_law.nd rfl (Or.inl rfl) (je_op opd_add je_int (je_call d__law_take (hr.mono (by decide)) (L2N.takes_of rfl rfl rfl rfl) rfl (ja_cons (je_var 1) (ja_cons je_int ja_nil)))))
  (jb_cons (js_if (jt_cmp (opd_eq (huR hr)) (je_call d__law_take (hr.mono (by decide)) (L2N.takes_of rfl rfl rfl rfl) rfl (ja_cons (je_var 1) (ja_cons je_int ja_nil))) je_int rfl) (jb_one (js_set (i := 5) sc_law.nd rfl (Or.inl rfl) (je_op opd_add je_int (je_call d__law_take (hr.mono (by decide)) (L2N.takes_of rfl rfl rfl rfl) rfl (ja_cons (je_var 1) (ja_cons je_int ja_nil)))))) jb_nil)
  (jb_one (js_if (jt_not (jt_tru (je_call d__law_number_right (hr.mono (by decide)) (L2N.takes_of rfl rfl rfl rfl) rfl (ja_cons (je_var 2) (ja_cons (je_var 5) ja_nil))))) (jb_one (js_ret je_bl)) jb_nil)))))
  (jb_cons (js_forR1 (L2.passes_of rfl) rfl rfl G.free_range (ja_cons (je_op opd_add je_int (je_call d__law_take (hr.mono (by decide)) (L2N.takes_of rfl rfl rfl rfl) rfl (ja_cons (je_var 1) (ja_cons je_int ja_nil)))) ja_nil) (jg_name (i := 3) sc_law.nd rfl (Or.inl rfl)) (jb_cons (js_set (i := 4) sc_law.nd rfl (Or.inl rfl) (je_call d__law_written (hr.mono (by decide)) (L2N.takes_of rfl rfl rfl rfl) rfl (ja_cons (je_call d__law_little (hr.mono (by decide)) (L2N.takes_of rfl rfl rfl rfl) rfl (ja_cons (je_var 1) ja_nil)) ja_nil)))
  (jb_cons (js_if (PW.pt (jw_or (jt_not (jt_tru (je_call d__law_text_right (hr.mono (by decide)) (L2N.takes_of rfl rfl rfl rfl) rfl (ja_cons (je_var 4) ja_nil)))) (jw_or1 (jt_not (jt_tru (je_call d__law_text_right (hr.mono (by decide)) (L2N.takes_of rfl rfl rfl rfl) rfl (ja_cons (je_call d__law_bent (hr.mono (by decide)) (L2N.takes_of rfl rfl rfl rfl) rfl (ja_cons (je_var 1) (ja_cons (je_var 4) ja_nil))) ja_nil))))))) (jb_one (js_ret je_bl)) jb_nil)
  (jb_one (js_if (jt_not (jt_tru (je_call d__law_text_right (hr.mono (by decide)) (L2N.takes_of rfl rfl rfl rfl) rfl (ja_cons (je_call d__law_drawn (hr.mono (by decide)) (L2N.takes_of rfl rfl rfl rfl) rfl (ja_cons (je_var 1) ja_nil)) ja_nil)))) (jb_one (js_ret je_bl)) jb_nil)))))
  (jb_cons (js_for (L2.passes_of rfl) rfl (je_lst (ja_cons je_str (ja_cons je_str (ja_cons je_str (ja_cons je_str (ja_cons je_str (ja_cons je_str (ja_cons je_str (ja_cons je_str (ja_cons je_str (ja_cons je_str (ja_cons je_str (ja_cons je_str ja_nil)))))))))))) (flen_cons (flen_cons (flen_cons (flen_cons (flen_cons (flen_cons (flen_cons (flen_cons (flen_cons (flen_cons (flen_cons (flen_cons flen_nil))))))))))))) (jg_name (i := 4) sc_law.nd rfl (Or.inl rfl)) (jb_one (js_if (jt_not (jt_tru (je_call d__law_text_right (hr.mono (by decide)) (L2N.takes_of rfl rfl rfl rfl) rfl (ja_cons (je_var 4) ja_nil)))) (jb_one (js_ret je_bl)) jb_nil)))
  (jb_one (js_ret (je_call d__law_refused_by_base (hr.mono (by decide)) (L2N.takes_of rfl rfl rfl rfl) rfl (ja_cons je_str ja_nil))))))))
theorem law_ok (G : Gs P K mg) (d__law_bag : DefOk false P w K mg base ("_law_bag" : Str) [] 1 g__law_bag) (d__law_take : DefOk false P w K mg base ("_law_take" : Str) [] 2 g__law_take) (d__law_numbers : DefOk false P w K mg base ("_law_numbers" : Str) [] 5 g__law_numbers) (d__law_written : DefOk false P w K mg base ("_law_written" : Str) [] 1 g__law_written) (d__law_little : DefOk false P w K mg base ("_law_little" : Str) [] 4 g__law_little) (d__law_bent : DefOk false P w K mg base ("_law_bent" : Str) [] 3 g__law_bent) (d__law_drawn : DefOk false P w K mg base ("_law_drawn" : Str) [] 3 g__law_drawn) (d__law_refused_by_base : DefOk false P w K mg base ("_law_refused_by_base" : Str) [] 4 g__law_refused_by_base) (d__law_text_right : DefOk false P w K mg base ("_law_text_right" : Str) [] 5 g__law_text_right) (d__law_number_right : DefOk false P w K mg base ("_law_number_right" : Str) [] 6 g__law_number_right) {f : Addr} {fd : FuncData} (F : FunD K ("law" : Str) ("law" : Str) (defArgs st_law) (defBody st_law) (defScope st_law) [] [] f fd) : FnOk P w K mg base (L2N.CX P w) 7 f fd [("script" : Str)] (spG K mg (arN 1 (den 6 m_law))) :=
  def_ok F sc_law fun cdv A outer s H E hr => jb_law G d__law_bag d__law_take d__law_numbers d__law_written d__law_little d__law_bent d__law_drawn d__law_refused_by_base d__law_text_right d__law_number_right hr
end
end K01

set_option Elab.async false
set_option linter.all false
set_option maxRecDepth 100000
set_option maxHeartbeats 0
namespace K01
open PySem PySem.Spec PyProof.Rows L2 MP
abbrev Rw : PySem.W.OpenRow := PySem.W.OpenLaw.row PySem.Challenge.rw_pagefit_k01_number_texts
def theFile : Str := Rw.prog.main.file
def dd__law_bag : He.DefD := ⟨(("_law_bag" : Str), none), ("_law_bag" : Str), ("_law_bag" : Str), defArgs st__law_bag, defBody st__law_bag, defScope st__law_bag, [], []⟩
def dd__law_mixed : He.DefD := ⟨(("_law_mixed" : Str), none), ("_law_mixed" : Str), ("_law_mixed" : Str), defArgs st__law_mixed, defBody st__law_mixed, defScope st__law_mixed, [], []⟩
def dd__law_take : He.DefD := ⟨(("_law_take" : Str), none), ("_law_take" : Str), ("_law_take" : Str), defArgs st__law_take, defBody st__law_take, defScope st__law_take, [], []⟩
def dd__law_large : He.DefD := ⟨(("_law_large" : Str), none), ("_law_large" : Str), ("_law_large" : Str), defArgs st__law_large, defBody st__law_large, defScope st__law_large, [], []⟩
def dd__law_divisor : He.DefD := ⟨(("_law_divisor" : Str), none), ("_law_divisor" : Str), ("_law_divisor" : Str), defArgs st__law_divisor, defBody st__law_divisor, defScope st__law_divisor, [], []⟩
def dd__law_lowest : He.DefD := ⟨(("_law_lowest" : Str), none), ("_law_lowest" : Str), ("_law_lowest" : Str), defArgs st__law_lowest, defBody st__law_lowest, defScope st__law_lowest, [], []⟩
def dd__law_beside : He.DefD := ⟨(("_law_beside" : Str), none), ("_law_beside" : Str), ("_law_beside" : Str), defArgs st__law_beside, defBody st__law_beside, defScope st__law_beside, [], []⟩
def dd__law_number : He.DefD := ⟨(("_law_number" : Str), none), ("_law_number" : Str), ("_law_number" : Str), defArgs st__law_number, defBody st__law_number, defScope st__law_number, [], []⟩
def dd__law_numbers : He.DefD := ⟨(("_law_numbers" : Str), none), ("_law_numbers" : Str), ("_law_numbers" : Str), defArgs st__law_numbers, defBody st__law_numbers, defScope st__law_numbers, [], []⟩
def dd__law_written : He.DefD := ⟨(("_law_written" : Str), none), ("_law_written" : Str), ("_law_written" : Str), defArgs st__law_written, defBody st__law_written, defScope st__law_written, [], []⟩
def dd__law_little : He.DefD := ⟨(("_law_little" : Str), none), ("_law_little" : Str), ("_law_little" : Str), defArgs st__law_little, defBody st__law_little, defScope st__law_little, [], []⟩
def dd__law_bent : He.DefD := ⟨(("_law_bent" : Str), none), ("_law_bent" : Str), ("_law_bent" : Str), defArgs st__law_bent, defBody st__law_bent, defScope st__law_bent, [], []⟩
def dd__law_drawn : He.DefD := ⟨(("_law_drawn" : Str), none), ("_law_drawn" : Str), ("_law_drawn" : Str), defArgs st__law_drawn, defBody st__law_drawn, defScope st__law_drawn, [], []⟩
def dd__is_integer : He.DefD := ⟨(("_is_integer" : Str), none), ("_is_integer" : Str), ("_is_integer" : Str), defArgs st__is_integer, defBody st__is_integer, defScope st__is_integer, [], []⟩
def dd_is_number : He.DefD := ⟨(("is_number" : Str), none), ("is_number" : Str), ("is_number" : Str), defArgs st_is_number, defBody st_is_number, defScope st_is_number, [], []⟩
def dd__digits_value : He.DefD := ⟨(("_digits_value" : Str), none), ("_digits_value" : Str), ("_digits_value" : Str), defArgs st__digits_value, defBody st__digits_value, defScope st__digits_value, [], []⟩
def dd_parse_number : He.DefD := ⟨(("parse_number" : Str), none), ("parse_number" : Str), ("parse_number" : Str), defArgs st_parse_number, defBody st_parse_number, defScope st_parse_number, [], []⟩
def dd__law_refused_by_base : He.DefD := ⟨(("_law_refused_by_base" : Str), none), ("_law_refused_by_base" : Str), ("_law_refused_by_base" : Str), defArgs st__law_refused_by_base, defBody st__law_refused_by_base, defScope st__law_refused_by_base, [], []⟩
def dd__law_integer : He.DefD := ⟨(("_law_integer" : Str), none), ("_law_integer" : Str), ("_law_integer" : Str), defArgs st__law_integer, defBody st__law_integer, defScope st__law_integer, [], []⟩
def dd__law_is : He.DefD := ⟨(("_law_is" : Str), none), ("_law_is" : Str), ("_law_is" : Str), defArgs st__law_is, defBody st__law_is, defScope st__law_is, [], []⟩
def dd__law_digits : He.DefD := ⟨(("_law_digits" : Str), none), ("_law_digits" : Str), ("_law_digits" : Str), defArgs st__law_digits, defBody st__law_digits, defScope st__law_digits, [], []⟩
def dd__law_read : He.DefD := ⟨(("_law_read" : Str), none), ("_law_read" : Str), ("_law_read" : Str), defArgs st__law_read, defBody st__law_read, defScope st__law_read, [], []⟩
def dd__law_refused : He.DefD := ⟨(("_law_refused" : Str), none), ("_law_refused" : Str), ("_law_refused" : Str), defArgs st__law_refused, defBody st__law_refused, defScope st__law_refused, [], []⟩
def dd__law_text_right : He.DefD := ⟨(("_law_text_right" : Str), none), ("_law_text_right" : Str), ("_law_text_right" : Str), defArgs st__law_text_right, defBody st__law_text_right, defScope st__law_text_right, [], []⟩
def dd_format_number : He.DefD := ⟨(("format_number" : Str), none), ("format_number" : Str), ("format_number" : Str), defArgs st_format_number, defBody st_format_number, defScope st_format_number, [], []⟩
def dd__law_odd : He.DefD := ⟨(("_law_odd" : Str), none), ("_law_odd" : Str), ("_law_odd" : Str), defArgs st__law_odd, defBody st__law_odd, defScope st__law_odd, [], []⟩
def dd__law_number_right : He.DefD := ⟨(("_law_number_right" : Str), none), ("_law_number_right" : Str), ("_law_number_right" : Str), defArgs st__law_number_right, defBody st__law_number_right, defScope st__law_number_right, [], []⟩
def dd_law : He.DefD := ⟨(("law" : Str), none), ("law" : Str), ("law" : Str), defArgs st_law, defBody st_law, defScope st_law, [], []⟩
def fnL : List He.DefD := [dd__law_bag, dd__law_mixed, dd__law_take, dd__law_large, dd__law_divisor, dd__law_lowest, dd__law_beside, dd__law_number, dd__law_numbers, dd__law_written, dd__law_little, dd__law_bent, dd__law_drawn, dd__is_integer, dd_is_number, dd__digits_value, dd_parse_number, dd__law_refused_by_base, dd__law_integer, dd__law_is, dd__law_digits, dd__law_read, dd__law_refused, dd__law_text_right, dd_format_number, dd__law_odd, dd__law_number_right, dd_law]
def fcL : List FrB := ([freeB ("ValueError" : Str), freeB ("abs" : Str), freeB ("bool" : Str), freeB ("int" : Str), freeB ("isinstance" : Str), freeB ("len" : Str), freeB ("range" : Str), freeB ("str" : Str), freeB ("sum" : Str), freeB ("tuple" : Str), bltB ("gcd" : Str) "math.gcd", gloB ("BadForm" : Str), gloB ("BadNumber" : Str), gloB ("BadPlace" : Str), gloB ("BadSpan" : Str), gloB ("BadText" : Str), gloB ("FitError" : Str), strB ("DIGITS" : Str) ("0123456789" : Str), freeB ("super" : Str), excB theFile ("BadText" : Str) [("text" : Str)]] : List FrB) ++ ([exmB1 ("BadText" : Str) (.glo ("FitError" : Str)) true, exmB1 ("BadText" : Str) (.glo ("BadText" : Str)) true, ixcB ("BadText" : Str), kitB1 ("BadText" : Str) (.glo ("BadText" : Str)) true, kitB1 ("BadText" : Str) (.ty "ValueError") true, kitB1 ("BadText" : Str) (.glo ("BadNumber" : Str)) false, kitB1 ("BadText" : Str) (.glo ("BadSpan" : Str)) false, kitB1 ("BadText" : Str) (.glo ("BadForm" : Str)) false, kitB1 ("BadText" : Str) (.glo ("BadPlace" : Str)) false, kitB1 ("BadText" : Str) (.glo ("FitError" : Str)) true, xfcB ("BadText" : Str) ("text" : Str), gloB ("_law_bag" : Str), gloB ("_law_mixed" : Str), gloB ("_law_take" : Str), gloB ("_law_large" : Str), gloB ("_law_divisor" : Str), gloB ("_law_lowest" : Str), gloB ("_law_beside" : Str), gloB ("_law_number" : Str), gloB ("_law_numbers" : Str)] : List FrB) ++ ([gloB ("_law_written" : Str), gloB ("_law_little" : Str), gloB ("_law_bent" : Str), gloB ("_law_drawn" : Str), gloB ("_is_integer" : Str), gloB ("is_number" : Str), gloB ("_digits_value" : Str), gloB ("parse_number" : Str), gloB ("_law_refused_by_base" : Str), gloB ("_law_integer" : Str), gloB ("_law_is" : Str), gloB ("_law_digits" : Str), gloB ("_law_read" : Str), gloB ("_law_refused" : Str), gloB ("_law_text_right" : Str), gloB ("format_number" : Str), gloB ("_law_odd" : Str), gloB ("_law_number_right" : Str), gloB ("law" : Str)] : List FrB)
def loose : List Str := (["FitError", "BadNumber", "BadText", "BadSpan", "BadForm", "BadPlace", "DIGITS", "is_number", "_is_integer", "format_number", "parse_number", "_digits_value", "_law_bag", "_law_mixed", "_law_take", "_law_large", "_law_divisor", "_law_lowest", "_law_beside", "_law_number", "_law_numbers", "_law_integer", "_law_is", "_law_written", "_law_digits", "_law_read", "_law_odd", "_law_little", "_law_bent", "_law_drawn"] : List Str) ++ (["_law_refused", "_law_refused_by_base", "_law_text_right", "_law_number_right"] : List Str)
abbrev hk : PySem.W.Hook := hookM 4 fcL fnL
def ob (s : PySem.W.SharedT) : AlM := obsMG 4 fcL fnL (HandSHeadRun.getT s)
theorem ob_eq (s : PySem.W.SharedT) : ob s = hk.obs s.abs := obsMG_eq (HandSHeadRun.getT_eq s)
theorem run (w : World) : HandSHeadRun.RunEqI Rw (PySem.W.view Rw.prog [0, 38]) hk ob 6000 loose w := by
  unfold HandSHeadRun.RunEqI
  kernel_rfl
theorem fw_of {K : PySem.W.Frag} {h : Heap} {mg : Str → Option Value} (X : K.In h) (Gm : h.Ns mainGlobals mg) (c : SaysM fcL fnL K) : FitW PySem.Challenge.rw_pagefit_k01_number_texts.prog mg theFile := ⟨by kernel_rfl, by kernel_rfl, free_of X Gm (c.fact 18 rfl)⟩
theorem gs_of {K : PySem.W.Frag} {h : Heap} {mg : Str → Option Value} (X : K.In h) (Gm : h.Ns mainGlobals mg) (c : SaysM fcL fnL K) : Gs PySem.Challenge.rw_pagefit_k01_number_texts.prog K mg := by
  have FW := fw_of X Gm c
  exact {
    free_ValueError := free_of X Gm (c.fact 0 rfl),
    free_abs := free_of X Gm (c.fact 1 rfl),
    free_bool := free_of X Gm (c.fact 2 rfl),
    free_int := free_of X Gm (c.fact 3 rfl),
    free_isinstance := free_of X Gm (c.fact 4 rfl),
    free_len := free_of X Gm (c.fact 5 rfl),
    free_range := free_of X Gm (c.fact 6 rfl),
    free_str := free_of X Gm (c.fact 7 rfl),
    free_sum := free_of X Gm (c.fact 8 rfl),
    free_tuple := free_of X Gm (c.fact 9 rfl),
    blt_gcd := blt_of X Gm (c.fact 10 rfl),
    glo_BadForm := glo_of X Gm (c.fact 11 rfl),
    glo_BadNumber := glo_of X Gm (c.fact 12 rfl),
    glo_BadPlace := glo_of X Gm (c.fact 13 rfl),
    glo_BadSpan := glo_of X Gm (c.fact 14 rfl),
    glo_BadText := glo_of X Gm (c.fact 15 rfl),
    glo_FitError := glo_of X Gm (c.fact 16 rfl),
    const_DIGITS := str_of X Gm (c.fact 17 rfl),
    exc_BadText := exc_of X Gm FW (c.fact 19 rfl),
    tx_FitError := (tab_cons (cv := (.glo ("FitError" : Str))) (glo_of X Gm (c.fact 15 rfl)) (c.fact 20 rfl) tab_nil),
    tx_BadText := (tab_cons (cv := (.glo ("BadText" : Str))) (glo_of X Gm (c.fact 15 rfl)) (c.fact 21 rfl) tab_nil),
    ti_BadText := (tabi_cons (cv := (.glo ("BadText" : Str))) (glo_of X Gm (c.fact 15 rfl)) (ixc_of (c.fact 22 rfl)) (c.fact 23 rfl) tabi_nil),
    ti_ValueError := (tabi_cons (cv := (.ty "ValueError")) (glo_of X Gm (c.fact 15 rfl)) (ixc_of (c.fact 22 rfl)) (c.fact 24 rfl) tabi_nil),
    ti_BadNumber := (tabi_cons (cv := (.glo ("BadNumber" : Str))) (glo_of X Gm (c.fact 15 rfl)) (ixc_of (c.fact 22 rfl)) (c.fact 25 rfl) tabi_nil),
    ti_BadSpan := (tabi_cons (cv := (.glo ("BadSpan" : Str))) (glo_of X Gm (c.fact 15 rfl)) (ixc_of (c.fact 22 rfl)) (c.fact 26 rfl) tabi_nil),
    ti_BadForm := (tabi_cons (cv := (.glo ("BadForm" : Str))) (glo_of X Gm (c.fact 15 rfl)) (ixc_of (c.fact 22 rfl)) (c.fact 27 rfl) tabi_nil),
    ti_BadPlace := (tabi_cons (cv := (.glo ("BadPlace" : Str))) (glo_of X Gm (c.fact 15 rfl)) (ixc_of (c.fact 22 rfl)) (c.fact 28 rfl) tabi_nil),
    ti_FitError := (tabi_cons (cv := (.glo ("FitError" : Str))) (glo_of X Gm (c.fact 15 rfl)) (ixc_of (c.fact 22 rfl)) (c.fact 29 rfl) tabi_nil),
    fld_text := (fld_cons (glo_of X Gm (c.fact 15 rfl)) (c.fact 30 rfl) fld_nil) }
theorem law_fn {w : World} {K : PySem.W.Frag} {h : Heap} {mg : Str → Option Value} {fa : Addr} (X : K.In h) (Gm : h.Ns mainGlobals mg) (hmg : mg ("law" : Str) = some (.ref fa)) (c : SaysM fcL fnL K) :
    ∃ fd : FuncData, (∀ (s : Shared) (v : Value), BindsTo s fd ⟨[v], []⟩ [(("script" : Str), v)]) ∧ ∀ base : Heap, K.In base → base.Ns mainGlobals mg → FnOk PySem.Challenge.rw_pagefit_k01_number_texts.prog w K mg base (L2N.CX PySem.Challenge.rw_pagefit_k01_number_texts.prog w) 7 fa fd ["script"] (spG K mg (arN 1 (den 6 m_law))) := by
  have G := gs_of X Gm c
  obtain ⟨fd__law_bag, F__law_bag⟩ := c.def_ 0 (d := dd__law_bag) rfl
  obtain ⟨fd__law_mixed, F__law_mixed⟩ := c.def_ 1 (d := dd__law_mixed) rfl
  obtain ⟨fd__law_take, F__law_take⟩ := c.def_ 2 (d := dd__law_take) rfl
  obtain ⟨fd__law_large, F__law_large⟩ := c.def_ 3 (d := dd__law_large) rfl
  obtain ⟨fd__law_divisor, F__law_divisor⟩ := c.def_ 4 (d := dd__law_divisor) rfl
  obtain ⟨fd__law_lowest, F__law_lowest⟩ := c.def_ 5 (d := dd__law_lowest) rfl
  obtain ⟨fd__law_beside, F__law_beside⟩ := c.def_ 6 (d := dd__law_beside) rfl
  obtain ⟨fd__law_number, F__law_number⟩ := c.def_ 7 (d := dd__law_number) rfl
  obtain ⟨fd__law_numbers, F__law_numbers⟩ := c.def_ 8 (d := dd__law_numbers) rfl
  obtain ⟨fd__law_written, F__law_written⟩ := c.def_ 9 (d := dd__law_written) rfl
  obtain ⟨fd__law_little, F__law_little⟩ := c.def_ 10 (d := dd__law_little) rfl
  obtain ⟨fd__law_bent, F__law_bent⟩ := c.def_ 11 (d := dd__law_bent) rfl
  obtain ⟨fd__law_drawn, F__law_drawn⟩ := c.def_ 12 (d := dd__law_drawn) rfl
  obtain ⟨fd__is_integer, F__is_integer⟩ := c.def_ 13 (d := dd__is_integer) rfl
  obtain ⟨fd_is_number, F_is_number⟩ := c.def_ 14 (d := dd_is_number) rfl
  obtain ⟨fd__digits_value, F__digits_value⟩ := c.def_ 15 (d := dd__digits_value) rfl
  obtain ⟨fd_parse_number, F_parse_number⟩ := c.def_ 16 (d := dd_parse_number) rfl
  obtain ⟨fd__law_refused_by_base, F__law_refused_by_base⟩ := c.def_ 17 (d := dd__law_refused_by_base) rfl
  obtain ⟨fd__law_integer, F__law_integer⟩ := c.def_ 18 (d := dd__law_integer) rfl
  obtain ⟨fd__law_is, F__law_is⟩ := c.def_ 19 (d := dd__law_is) rfl
  obtain ⟨fd__law_digits, F__law_digits⟩ := c.def_ 20 (d := dd__law_digits) rfl
  obtain ⟨fd__law_read, F__law_read⟩ := c.def_ 21 (d := dd__law_read) rfl
  obtain ⟨fd__law_refused, F__law_refused⟩ := c.def_ 22 (d := dd__law_refused) rfl
  obtain ⟨fd__law_text_right, F__law_text_right⟩ := c.def_ 23 (d := dd__law_text_right) rfl
  obtain ⟨fd_format_number, F_format_number⟩ := c.def_ 24 (d := dd_format_number) rfl
  obtain ⟨fd__law_odd, F__law_odd⟩ := c.def_ 25 (d := dd__law_odd) rfl
  obtain ⟨fd__law_number_right, F__law_number_right⟩ := c.def_ 26 (d := dd__law_number_right) rfl
  obtain ⟨fd_law, F_law⟩ := c.def_ 27 (d := dd_law) rfl
  have gm__law_bag := glo_of X Gm (x := ("_law_bag" : Str)) (c.fact 31 rfl)
  have gm__law_mixed := glo_of X Gm (x := ("_law_mixed" : Str)) (c.fact 32 rfl)
  have gm__law_take := glo_of X Gm (x := ("_law_take" : Str)) (c.fact 33 rfl)
  have gm__law_large := glo_of X Gm (x := ("_law_large" : Str)) (c.fact 34 rfl)
  have gm__law_divisor := glo_of X Gm (x := ("_law_divisor" : Str)) (c.fact 35 rfl)
  have gm__law_lowest := glo_of X Gm (x := ("_law_lowest" : Str)) (c.fact 36 rfl)
  have gm__law_beside := glo_of X Gm (x := ("_law_beside" : Str)) (c.fact 37 rfl)
  have gm__law_number := glo_of X Gm (x := ("_law_number" : Str)) (c.fact 38 rfl)
  have gm__law_numbers := glo_of X Gm (x := ("_law_numbers" : Str)) (c.fact 39 rfl)
  have gm__law_written := glo_of X Gm (x := ("_law_written" : Str)) (c.fact 40 rfl)
  have gm__law_little := glo_of X Gm (x := ("_law_little" : Str)) (c.fact 41 rfl)
  have gm__law_bent := glo_of X Gm (x := ("_law_bent" : Str)) (c.fact 42 rfl)
  have gm__law_drawn := glo_of X Gm (x := ("_law_drawn" : Str)) (c.fact 43 rfl)
  have gm__is_integer := glo_of X Gm (x := ("_is_integer" : Str)) (c.fact 44 rfl)
  have gm_is_number := glo_of X Gm (x := ("is_number" : Str)) (c.fact 45 rfl)
  have gm__digits_value := glo_of X Gm (x := ("_digits_value" : Str)) (c.fact 46 rfl)
  have gm_parse_number := glo_of X Gm (x := ("parse_number" : Str)) (c.fact 47 rfl)
  have gm__law_refused_by_base := glo_of X Gm (x := ("_law_refused_by_base" : Str)) (c.fact 48 rfl)
  have gm__law_integer := glo_of X Gm (x := ("_law_integer" : Str)) (c.fact 49 rfl)
  have gm__law_is := glo_of X Gm (x := ("_law_is" : Str)) (c.fact 50 rfl)
  have gm__law_digits := glo_of X Gm (x := ("_law_digits" : Str)) (c.fact 51 rfl)
  have gm__law_read := glo_of X Gm (x := ("_law_read" : Str)) (c.fact 52 rfl)
  have gm__law_refused := glo_of X Gm (x := ("_law_refused" : Str)) (c.fact 53 rfl)
  have gm__law_text_right := glo_of X Gm (x := ("_law_text_right" : Str)) (c.fact 54 rfl)
  have gm_format_number := glo_of X Gm (x := ("format_number" : Str)) (c.fact 55 rfl)
  have gm__law_odd := glo_of X Gm (x := ("_law_odd" : Str)) (c.fact 56 rfl)
  have gm__law_number_right := glo_of X Gm (x := ("_law_number_right" : Str)) (c.fact 57 rfl)
  have gm_law := glo_of X Gm (x := ("law" : Str)) (c.fact 58 rfl)
  have e := hmg.symm.trans gm_law
  cases e
  have b := FunD.bindsA (ps := ["script"]) F_law fun _ _ _ _ _ _ us hl => match us, hl with | [_], _ => rfl
  refine ⟨fd_law, fun s v => b s [v] rfl, fun base _ _ => ?_⟩
  have kd__law_bag : DefOk false PySem.Challenge.rw_pagefit_k01_number_texts.prog w K mg base ("_law_bag" : Str) [] 1 g__law_bag := d__law_bag G  gm__law_bag F__law_bag
  have kd__law_mixed : DefOk false PySem.Challenge.rw_pagefit_k01_number_texts.prog w K mg base ("_law_mixed" : Str) [] 1 g__law_mixed := d__law_mixed G  gm__law_mixed F__law_mixed
  have kd__law_take : DefOk false PySem.Challenge.rw_pagefit_k01_number_texts.prog w K mg base ("_law_take" : Str) [] 2 g__law_take := d__law_take G kd__law_mixed gm__law_take F__law_take
  have kd__law_large : DefOk false PySem.Challenge.rw_pagefit_k01_number_texts.prog w K mg base ("_law_large" : Str) [] 3 g__law_large := d__law_large G kd__law_take gm__law_large F__law_large
  have kd__law_divisor : DefOk false PySem.Challenge.rw_pagefit_k01_number_texts.prog w K mg base ("_law_divisor" : Str) [] 1 g__law_divisor := d__law_divisor G  gm__law_divisor F__law_divisor
  have kd__law_lowest : DefOk false PySem.Challenge.rw_pagefit_k01_number_texts.prog w K mg base ("_law_lowest" : Str) [] 2 g__law_lowest := d__law_lowest G kd__law_divisor gm__law_lowest F__law_lowest
  have kd__law_beside : DefOk false PySem.Challenge.rw_pagefit_k01_number_texts.prog w K mg base ("_law_beside" : Str) [] 3 g__law_beside := d__law_beside G kd__law_take kd__law_lowest gm__law_beside F__law_beside
  have kd__law_number : DefOk false PySem.Challenge.rw_pagefit_k01_number_texts.prog w K mg base ("_law_number" : Str) [] 4 g__law_number := d__law_number G kd__law_take kd__law_large kd__law_lowest kd__law_beside gm__law_number F__law_number
  have kd__law_numbers : DefOk false PySem.Challenge.rw_pagefit_k01_number_texts.prog w K mg base ("_law_numbers" : Str) [] 5 g__law_numbers := d__law_numbers G kd__law_number gm__law_numbers F__law_numbers
  have kd__law_written : DefOk false PySem.Challenge.rw_pagefit_k01_number_texts.prog w K mg base ("_law_written" : Str) [] 1 g__law_written := d__law_written G  gm__law_written F__law_written
  have kd__law_little : DefOk false PySem.Challenge.rw_pagefit_k01_number_texts.prog w K mg base ("_law_little" : Str) [] 4 g__law_little := d__law_little G kd__law_take kd__law_large kd__law_lowest gm__law_little F__law_little
  have kd__law_bent : DefOk false PySem.Challenge.rw_pagefit_k01_number_texts.prog w K mg base ("_law_bent" : Str) [] 3 g__law_bent := d__law_bent G kd__law_take gm__law_bent F__law_bent
  have kd__law_drawn : DefOk false PySem.Challenge.rw_pagefit_k01_number_texts.prog w K mg base ("_law_drawn" : Str) [] 3 g__law_drawn := d__law_drawn G kd__law_take gm__law_drawn F__law_drawn
  have kd__is_integer : DefOk false PySem.Challenge.rw_pagefit_k01_number_texts.prog w K mg base ("_is_integer" : Str) [] 1 g__is_integer := d__is_integer G  gm__is_integer F__is_integer
  have kd_is_number : DefOk false PySem.Challenge.rw_pagefit_k01_number_texts.prog w K mg base ("is_number" : Str) [] 2 g_is_number := d_is_number G kd__is_integer gm_is_number F_is_number
  have kd__digits_value : DefOk false PySem.Challenge.rw_pagefit_k01_number_texts.prog w K mg base ("_digits_value" : Str) [] 1 g__digits_value := d__digits_value G  gm__digits_value F__digits_value
  have kd_parse_number : DefOk false PySem.Challenge.rw_pagefit_k01_number_texts.prog w K mg base ("parse_number" : Str) [] 3 g_parse_number := d_parse_number G kd_is_number kd__digits_value gm_parse_number F_parse_number
  have kd__law_refused_by_base : DefOk false PySem.Challenge.rw_pagefit_k01_number_texts.prog w K mg base ("_law_refused_by_base" : Str) [] 4 g__law_refused_by_base := d__law_refused_by_base G kd_parse_number gm__law_refused_by_base F__law_refused_by_base
  have kd__law_integer : DefOk false PySem.Challenge.rw_pagefit_k01_number_texts.prog w K mg base ("_law_integer" : Str) [] 1 g__law_integer := d__law_integer G  gm__law_integer F__law_integer
  have kd__law_is : DefOk false PySem.Challenge.rw_pagefit_k01_number_texts.prog w K mg base ("_law_is" : Str) [] 2 g__law_is := d__law_is G kd__law_integer gm__law_is F__law_is
  have kd__law_digits : DefOk false PySem.Challenge.rw_pagefit_k01_number_texts.prog w K mg base ("_law_digits" : Str) [] 1 g__law_digits := d__law_digits G  gm__law_digits F__law_digits
  have kd__law_read : DefOk false PySem.Challenge.rw_pagefit_k01_number_texts.prog w K mg base ("_law_read" : Str) [] 2 g__law_read := d__law_read G kd__law_divisor kd__law_digits gm__law_read F__law_read
  have kd__law_refused : DefOk false PySem.Challenge.rw_pagefit_k01_number_texts.prog w K mg base ("_law_refused" : Str) [] 4 g__law_refused := d__law_refused G kd_parse_number gm__law_refused F__law_refused
  have kd__law_text_right : DefOk false PySem.Challenge.rw_pagefit_k01_number_texts.prog w K mg base ("_law_text_right" : Str) [] 5 g__law_text_right := d__law_text_right G kd_parse_number kd__law_is kd__law_read kd__law_refused gm__law_text_right F__law_text_right
  have kd_format_number : DefOk false PySem.Challenge.rw_pagefit_k01_number_texts.prog w K mg base ("format_number" : Str) [] 1 g_format_number := d_format_number G  gm_format_number F_format_number
  have kd__law_odd : DefOk false PySem.Challenge.rw_pagefit_k01_number_texts.prog w K mg base ("_law_odd" : Str) [] 2 g__law_odd := d__law_odd G kd__law_written gm__law_odd F__law_odd
  have kd__law_number_right : DefOk false PySem.Challenge.rw_pagefit_k01_number_texts.prog w K mg base ("_law_number_right" : Str) [] 6 g__law_number_right := d__law_number_right G kd_format_number kd_parse_number kd__law_is kd__law_written kd__law_odd kd__law_refused_by_base kd__law_text_right gm__law_number_right F__law_number_right
  exact law_ok G kd__law_bag kd__law_take kd__law_numbers kd__law_written kd__law_little kd__law_bent kd__law_drawn kd__law_refused_by_base kd__law_text_right kd__law_number_right F_law
end K01

set_option Elab.async false
set_option linter.all false
set_option maxRecDepth 100000
set_option maxHeartbeats 4000000
/-! MPT8: equations for reckoning with texts. -/
namespace MP
open PySem
section
variable (ρ : En) (st : S) (i : Int) (a b : Str)
@[simp] theorem gIntS_int : gIntS [.int i] st = some (.int i, st) := rfl
@[simp] theorem gFind_str : gFind (.str a) (.str b) st = some (.int (Txt.find a b), st) := rfl
@[simp] theorem gStarts_str : gStarts (.str a) (.str b) st = some (.bl (Txt.startswith a b), st) := rfl
@[simp] theorem gEq_str : gEq (.str a) (.str b) st = some (.bl (decide (a = b)), st) := rfl
@[simp] theorem gNe_str : gNe (.str a) (.str b) st = some (.bl (!decide (a = b)), st) := rfl
@[simp] theorem gAdd_str : gAdd (.str a) (.str b) st = if a.length + b.length ≤ sizeLine then some (.str (a ++ b), st) else none := rfl
@[simp] theorem gLen_str : gLen [.str a] st = if a.length ≤ sizeLine then some (.int a.length, st) else none := rfl
@[simp] theorem gIx_str : gIx (.str a) (.int i) st = if a.length ≤ sizeLine then (L2.atI a.cps.toList i).map fun c => (.str ⟨#[c]⟩, st) else none := rfl
@[simp] theorem gIs_non (x : D) (h : x = .non) : gIs x .non st = gIs .non .non st := by rw [h]
@[simp] theorem fM1_ap (g : D → D → S → Option (D × S)) (o f : FE) : fM1 g o f ρ st = (o ρ st).bind fun x st1 => match x with
  | .str _ => (f ρ st1).bind fun y st2 => ofO (g x y st2)
  | _ => .bad := rfl
@[simp] theorem inS_one (n : Bool) (c : Nat) : inS n (.str ⟨#[c]⟩) (.str a) st = some (.bl (if n then !decide (c ∈ a.cps.toList) else decide (c ∈ a.cps.toList)), st) := rfl
end
abbrev DG : Str := ("0123456789" : Str)
def isDg (c : Nat) : Prop := 48 ≤ c ∧ c ≤ 57
instance (c : Nat) : Decidable (isDg c) := inferInstanceAs (Decidable (_ ∧ _))
theorem DG_cps : DG.cps.toList = [48, 49, 50, 51, 52, 53, 54, 55, 56, 57] := by decide +kernel
theorem mem_DG (c : Nat) : c ∈ DG.cps.toList ↔ isDg c := by
  rw [DG_cps]
  unfold isDg
  simp only [List.mem_cons, List.not_mem_nil, or_false]
  omega
theorem find_DG_none {c : Nat} (h : ¬ isDg c) : Txt.find DG ⟨#[c]⟩ = -1 := by
  have e := StrLaws.found_one DG c
  rw [decide_eq_false (fun m => h ((mem_DG c).mp m))] at e
  unfold Txt.find
  cases ho : Builtin.Str.occurrences DG ⟨#[c]⟩ 0 DG.length 1 with
  | nil => rfl
  | cons x r => rw [ho] at e; simp at e
theorem find_DG {c : Nat} (h : isDg c) : Txt.find DG ⟨#[c]⟩ = ((c - 48 : Nat) : Int) := by
  obtain ⟨h1, h2⟩ := h
  obtain ⟨k, rfl⟩ : ∃ k, c = 48 + k := ⟨c - 48, by omega⟩
  have hk : k < 10 := by omega
  match k, hk with
  | 0, _ => decide +kernel
  | 1, _ => decide +kernel
  | 2, _ => decide +kernel
  | 3, _ => decide +kernel
  | 4, _ => decide +kernel
  | 5, _ => decide +kernel
  | 6, _ => decide +kernel
  | 7, _ => decide +kernel
  | 8, _ => decide +kernel
  | 9, _ => decide +kernel
  | k + 10, h => omega
end MP

set_option Elab.async false
set_option linter.all false
set_option maxRecDepth 100000
set_option maxHeartbeats 4000000
/-! MPT9: more equations for reckoning with texts, suites. -/
namespace MP
open PySem
section
variable (ρ : En) (st : S) (i : Int) (a b : Str)
@[simp] theorem gSl_str (lo hi : Option Int) : gSl (.str a) lo hi st = if a.length ≤ sizeLine then some (.str (L2.cutS a lo hi), st) else none := rfl
@[simp] theorem gSplit_str : gSplit (.str a) (.str b) st = if (b.length == 0) = false ∧ a.length + 2 ≤ sizeLine then some (.loc st.length, st ++ [.lst ((Txt.split a b).map D.str)]) else none := rfl
@[simp] theorem fPart_ap (e : FE) : fPart e ρ st = (e ρ st).bind fun x st1 => match x with
  | .int i => .ok (some i) st1
  | _ => .bad := rfl
@[simp] theorem gIs_int_non : gIs (.int i) .non st = some (.bl false, st) := by
  show some (D.bl (decide (D.int i = .non)), st) = _
  rw [decide_eq_false (by simp)]
@[simp] theorem gIs_tup_non (ds : List D) : gIs (.tup ds) .non st = some (.bl false, st) := by
  show some (D.bl (decide (D.tup ds = .non)), st) = _
  rw [decide_eq_false (by simp)]
@[simp] theorem gIs_str_non : gIs (.str a) .non st = some (.bl false, st) := by
  show some (D.bl (decide (D.str a = .non)), st) = _
  rw [decide_eq_false (by simp)]
@[simp] theorem gIs_loc_non (n : Nat) : gIs (.loc n) .non st = some (.bl false, st) := by
  show some (D.bl (decide (D.loc n = .non)), st) = _
  rw [decide_eq_false (by simp)]
@[simp] theorem gIs_non_non : gIs .non .non st = some (.bl true, st) := by
  show some (D.bl (decide (D.non = .non)), st) = _
  rw [decide_eq_true rfl]
@[simp] theorem gStr_str : gStr [.str a] st = some (.str a, st) := rfl
@[simp] theorem fFmt_ap (e : FE) : fFmt e ρ st = (e ρ st).bind fun x st1 => match x with
  | .str y => if y.length ≤ sizeLine then .ok (.str y) st1 else .bad
  | .int i => if i.natAbs.log2 < 1920 then .ok (.str (toString i)) st1 else .bad
  | _ => .bad := rfl
@[simp] theorem fJs_nil (acc : Str) : fJs [] acc ρ st = .ok (.str acc) st := rfl
@[simp] theorem fJs_cons (f : FE) (r : List FE) (acc : Str) : fJs (f :: r) acc ρ st = (f ρ st).bind fun x st1 => match x with
    | .str y => if (acc ++ y).length ≤ sizeLine then fJs r (acc ++ y) ρ st1 else .bad
    | _ => .bad := rfl
@[simp] theorem leave_rt (i : Nat) (d : D) (st : S) : sLeave i (.rt d st) = .rt d st := rfl
end
theorem sTryAs_ex {i : Nat} {tb : List (Str × Bool)} {fb : FS} {fh : Ex → Nat → FS} {ρ ρ1 : En} {st st1 : S} {e : Ex} (h : fb ρ st = .ex e ρ1 st1) (hl : tb.lookup e.cls = some true) :
    sTryAs i tb fb fh ρ st = sLeave i (fh e st1.length (ρ1.set i (some (.loc st1.length))) (st1 ++ [.nu])) := by
  unfold sTryAs
  rw [h]
  simp only [hl]
theorem kIsX_ok {k a : Nat} {c : Str} {tb : List (Str × Bool)} {st : S} {fs : List (Str × D)} {b : Bool} (h : st[a]? = some (.xd fs)) (hl : tb.lookup c = some b) : kIsX k ⟨c, a⟩ tb (.loc k) st = .ok (.bl b) st := by
  unfold kIsX
  rw [if_pos rfl]
  simp only [h, hl]
theorem kXf_ok {k a : Nat} {c f : Str} {cs : List Str} {st : S} {fs : List (Str × D)} {d : D} (h : st[a]? = some (.xd fs)) (hc : c ∈ cs) (hl : fs.lookup f = some d) : kXf k ⟨c, a⟩ cs f (.loc k) st = .ok d st := by
  unfold kXf
  rw [if_pos ⟨rfl, hc⟩]
  simp only [h, hl]
theorem gAdd_loc {st : S} {m n : Nat} {xs ys : List D} (h : st[m]? = some (.lst xs)) (g : st[n]? = some (.lst ys)) (hs : xs.length + ys.length ≤ sizeLine) : gAdd (.loc m) (.loc n) st = some (.loc st.length, st ++ [.lst (xs ++ ys)]) := by
  unfold gAdd
  simp only [h, g, if_pos hs]
end MP

set_option Elab.async false
set_option linter.all false
set_option maxRecDepth 100000
set_option maxHeartbeats 4000000
namespace K01
open PySem MP
/-! ### fractions -/
abbrev fr (p q : Int) : D := .tup [.int p, .int q]
def gi (p q : Int) : Int := ((Nat.gcd p.natAbs q.natAbs : Nat) : Int)
/-- in lowest terms, q positive -/
def low (p q : Int) : D := fr (p / gi p q) (q / gi p q)
/-- not too large -/
def Sm (x : Int) : Prop := x.natAbs < 2 ^ 8000
theorem gi_pos {p q : Int} (hq : 0 < q) : 0 < gi p q := by
  unfold gi
  have : 0 < Nat.gcd p.natAbs q.natAbs := Nat.gcd_pos_of_pos_right _ (by omega)
  omega
theorem gi_le {p q : Int} (hq : 0 < q) : gi p q ≤ q := by
  unfold gi
  have := Nat.gcd_le_right p.natAbs (n := q.natAbs) (by omega)
  omega
theorem gi_dvd_l (p q : Int) : gi p q ∣ p := by
  unfold gi
  exact Int.ofNat_dvd_left.mpr (Nat.gcd_dvd_left _ _)
theorem gi_dvd_r (p q : Int) : gi p q ∣ q := by
  unfold gi
  exact Int.ofNat_dvd_left.mpr (Nat.gcd_dvd_right _ _)
theorem divok_gi {p q : Int} (hq : 0 < q) (h : Sm q) : DivOk (gi p q) := by
  refine divok_small (gi_pos hq) ?_
  have := gi_le (p := p) hq
  have := gi_pos (p := p) hq
  unfold Sm at h
  omega
theorem gi_neg (p q : Int) : gi (-p) (-q) = gi p q := by unfold gi; simp
theorem mm {x y : Int} (hx : Sm x) (hy : Sm y) : MulOk x y := mulok_small (by unfold Sm at hx; exact Nat.lt_trans hx (Nat.pow_lt_pow_right (by decide) (by decide))) (by unfold Sm at hy; exact Nat.lt_trans hy (Nat.pow_lt_pow_right (by decide) (by decide)))
/-! ### looking -/
theorem is_ok {p q r s : Int} (st : S) : g__law_is [fr p q, fr r s] st = .ok (.bl (decide (p = r) && decide (q = s))) st := by
  by_cases c1 : p = r <;> simp [g__law_is, arN, den_ap, m__law_is, g__law_integer, m__law_integer, c1]
theorem is_number_ok {p q : Int} (st : S) : g_is_number [fr p q] st = .ok (.bl (decide (1 ≤ q) && decide (gi p q = 1))) st := by
  by_cases c1 : 1 ≤ q
  · simp [g_is_number, arN, den_ap, m_is_number, g__is_integer, m__is_integer, tgTup, tgAll, c1, gi]
    try congr
  · simp [g_is_number, arN, den_ap, m_is_number, g__is_integer, m__is_integer, tgTup, tgAll, c1]
end K01

set_option Elab.async false
set_option linter.all false
set_option maxRecDepth 100000
set_option maxHeartbeats 4000000
namespace K01
open PySem MP
def fib : Nat → Nat
  | 0 => 0
  | 1 => 1
  | n + 2 => fib n + fib (n + 1)
def fibp : Nat → Nat × Nat
  | 0 => (0, 1)
  | n + 1 => ((fibp n).2, (fibp n).1 + (fibp n).2)
theorem fibp_eq : ∀ n, fibp n = (fib n, fib (n + 1))
  | 0 => rfl
  | n + 1 => by
    unfold fibp
    rw [fibp_eq n]
    rfl
def fibq : Nat → Nat → Nat → Nat
  | 0, a, _ => a
  | n + 1, a, b => fibq n b (a + b)
theorem fibq_eq : ∀ n k, fibq n (fib k) (fib (k + 1)) = fib (n + k)
  | 0, k => by rw [Nat.zero_add]; rfl
  | n + 1, k => by
    have h : fib k + fib (k + 1) = fib (k + 2) := rfl
    unfold fibq
    rw [h, fibq_eq n (k + 1)]
    congr 1
    omega
abbrev T40 : Nat := 10 ^ 40
theorem fib_big : (10 ^ 40) ^ 7 < fib 1490 := by
  have h := fibq_eq 1490 0
  rw [Nat.add_zero] at h
  rw [← h]
  decide +kernel
/-- the loop's body -/
abbrev db : FS := sSeq (sIf (fIsB (fBin gEq (fVar 1) (fC (.int 0)))) (sBreak) (sSkip))
  (sPar 0 1 (fCons (fVar 1) (fCons (fBin gMod (fArgs gIntS (fCons (fVar 0) (fNil))) (fVar 1)) (fNil))))
theorem div_loop (st : S) : ∀ (ds : List D) (a b : Nat) (x : Option D), b < a → (b < fib (ds.length + 1) ∨ a < fib (ds.length + 2)) →
    ∃ y, sLoop (fun _ => true) (tgN 2) db ds [some (.int a), some (.int b), x] st = .nx [some (.int (Nat.gcd a b : Nat)), some (.int 0), y] st
  | [], a, b, x, h, hf => by
    have hb : b = 0 := by
      rcases hf with hf | hf
      · have : b < 1 := hf
        omega
      · have : a < 1 := hf
        omega
    subst hb
    exact ⟨x, by simp [sLoop]⟩
  | d :: ds, a, b, x, h, hf => by
    by_cases hb : b = 0
    · subst hb
      exact ⟨some d, by simp [sLoop]⟩
    · have hr : a % b < b := Nat.mod_lt _ (by omega)
      have hab : b + a % b ≤ a := by
        have h1 := Nat.div_add_mod a b
        have h2 : 1 ≤ a / b := Nat.div_pos (by omega) (by omega)
        have h3 : b * 1 ≤ b * (a / b) := Nat.mul_le_mul_left b h2
        omega
      have hf2 : a % b < fib (ds.length + 1) ∨ b < fib (ds.length + 2) := by
        rcases hf with hf | hf
        · exact .inr hf
        · have hf : a < fib (ds.length + 1) + fib (ds.length + 2) := hf
          by_cases c : b < fib (ds.length + 2)
          · exact .inr c
          · exact .inl (by omega)
      obtain ⟨y, hy⟩ := div_loop st ds b (a % b) (some d) hr hf2
      refine ⟨y, ?_⟩
      have e : ((a : Int) % (b : Int)) = ((a % b : Nat) : Int) := by omega
      have hbp : 0 < b := by omega
      rw [show Nat.gcd a b = Nat.gcd b (a % b) from by rw [Nat.gcd_comm a b, Nat.gcd_rec b a, Nat.gcd_comm]]
      rw [← e] at hy
      rw [← hy]
      conv => lhs; unfold sLoop
      simp [hb, hbp]
theorem divisor_ok {a b : Nat} (hb : 0 < b) (hs : b < (10 ^ 40) ^ 7) (st : S) : g__law_divisor [.int a, .int b] st = .ok (.int (Nat.gcd a b : Nat)) st := by
  have h0 : (rangeD 0 1500) = .int 0 :: (List.range 1499).map (fun i => D.int (1 + (i : Nat))) := by
    unfold rangeD
    have : ((1500 : Int) - 0).toNat = 1499 + 1 := by decide
    rw [this, List.range_succ_eq_map, List.map_cons, List.map_map]
    refine congrArg (List.cons _) (List.map_congr_left fun i _ => ?_)
    show D.int (0 + ((i + 1 : Nat) : Int)) = D.int (1 + (i : Int))
    refine congrArg D.int ?_
    omega
  have hr : a % b < b := Nat.mod_lt _ hb
  have e : ((a : Int) % (b : Int)) = ((a % b : Nat) : Int) := by omega
  have hbi : b ≠ 0 := by omega
  have hbp : 0 < b := by omega
  obtain ⟨y, hy⟩ := div_loop st ((List.range 1499).map (fun i => D.int (1 + (i : Nat)))) b (a % b) (some (.int 0)) hr (.inr (by
    rw [List.length_map, List.length_range]
    have h1 := fib_big
    have h2 : fib 1490 ≤ fib 1501 := by
      have m : ∀ n, fib n ≤ fib (n + 1) := fun n => by
        cases n with
        | zero => exact Nat.zero_le _
        | succ n => exact Nat.le_add_left _ _
      have m2 : ∀ k n, fib n ≤ fib (n + k) := fun k n => by
        induction k with
        | zero => exact Nat.le_refl _
        | succ k ih => exact Nat.le_trans ih (m _)
      exact m2 11 1490
    exact Nat.lt_of_lt_of_le (Nat.lt_trans hs h1) h2))
  have hsm : Small62 1500 := by decide
  have hl : sLoop (fun _ => true) (tgN 2) db (rangeD 0 1500) [some (.int a), some (.int b), none] st = .nx [some (.int (Nat.gcd a b : Nat)), some (.int 0), y] st := by
    rw [h0, show Nat.gcd a b = Nat.gcd b (a % b) from by rw [Nat.gcd_comm a b, Nat.gcd_rec b a, Nat.gcd_comm]]
    rw [← e] at hy
    rw [← hy]
    conv => lhs; unfold sLoop
    simp [hbi, hbp]
  unfold g__law_divisor arN
  rw [if_pos (show [D.int a, D.int b].length = 2 from rfl), den_ap]
  simp only [m__law_divisor, sSeq_ap, sForR1, List.map_cons, List.map_nil, fCons_ap, fNil_ap, fC_ap, Out.bind_ok, Out.so_ok, if_pos hsm]
  show ((sLoop (fun _ => true) (tgN 2) db (rangeD 0 1500) [some (.int a), some (.int b), none] st).then_ _).out = _
  rw [hl]
  simp
theorem lowest_ok {p q : Int} (hq : 0 < q) (hs : q < (10 ^ 40) ^ 7) (st : S) : g__law_lowest [.int p, .int q] st = .ok (low p q) st := by
  have eq : q = ((q.natAbs : Nat) : Int) := by omega
  have hsm : Sm q := by
    unfold Sm
    have : q.natAbs < (10 ^ 40) ^ 7 := by omega
    exact Nat.lt_trans this (by decide +kernel)
  have hd := divok_gi (p := p) hq hsm
  have h := divisor_ok (a := p.natAbs) (b := q.natAbs) (by omega) (by omega) st
  rw [← eq] at h
  unfold gi at hd
  simp [g__law_lowest, absI, arN, den_ap, m__law_lowest, h, hd, low, gi]
end K01

set_option Elab.async false
set_option linter.all false
set_option maxRecDepth 100000
set_option maxHeartbeats 4000000
namespace K01
open PySem MP
def Bag (st : S) (b : Nat) : Prop := ∃ (x y : Int) (r : List Int), st[b]? = some (.lst (.int x :: .int y :: r.map D.int))
structure Ext (b : Nat) (st st' : S) : Prop where
  bag : Bag st' b
  len : st.length ≤ st'.length
  keep : ∀ k o, k ≠ b → st[k]? = some o → st'[k]? = some o
theorem Ext.refl {b : Nat} {st : S} (h : Bag st b) : Ext b st st := ⟨h, Nat.le_refl _, fun _ _ _ e => e⟩
theorem Ext.trans {b : Nat} {s1 s2 s3 : S} (h : Ext b s1 s2) (g : Ext b s2 s3) : Ext b s1 s3 := ⟨g.bag, Nat.le_trans h.len g.len, fun k o n e => g.keep k o n (h.keep k o n e)⟩
theorem Ext.app {b : Nat} {s1 s2 : S} (h : Ext b s1 s2) (o : Ob) : Ext b s1 (s2 ++ [o]) := by
  obtain ⟨x, y, r, e⟩ := h.bag
  exact ⟨⟨x, y, r, app_old e⟩, by rw [List.length_append]; exact Nat.le_trans h.len (Nat.le_add_right _ _), fun k o n e => app_old (h.keep k o n e)⟩
theorem Ext.set {b : Nat} {s1 : S} {x y : Int} {r : List Int} {o : Ob} (h : s1[b]? = some o) : Ext b s1 (s1.set b (.lst (.int x :: .int y :: r.map D.int))) :=
  ⟨⟨x, y, r, set_at (lt_of_at h)⟩, by simp, fun k o n e => by rw [set_ne n]; exact e⟩
theorem Ext.at_ {b k : Nat} {s1 s2 : S} {o : Ob} (h : Ext b s1 s2) (n : k ≠ b) (e : s1[k]? = some o) : s2[k]? = some o := h.keep k o n e
theorem mixed_ok (c t : Int) (st : S) : ∃ v, g__law_mixed [.int c, .int t] st = .ok (.int v) st := by
  have h1 : MulOk c 48271 := mulok_r (by decide) (by decide)
  have h2 : MulOk t 69621 := mulok_r (by decide) (by decide)
  have h3 : MulOk t 7919 := mulok_r (by decide) (by decide)
  have e : ∀ f : Int, 0 ≤ f → f < 2147483647 → MulOk f f := fun f h1 h2 => mulok_r (by omega) (by omega)
  have f0 : 0 ≤ (c * 48271 + t * 69621 + 12345) % 2147483647 := Int.emod_nonneg _ (by decide)
  have f1 : (c * 48271 + t * 69621 + 12345) % 2147483647 < 2147483647 := Int.emod_lt_of_pos _ (by decide)
  have h4 := e _ f0 f1
  have h5 : ∀ f : Int, MP.MulOk f 16807 := fun f => mulok_r (by decide) (by decide)
  have h6 : ∀ f : Int, MP.MulOk f 39373 := fun f => mulok_r (by decide) (by decide)
  have d7 : DivOk 7 := by decide
  have d16 : DivOk 16 := by decide
  simp [g__law_mixed, arN, den_ap, m__law_mixed, h1, h2, h3, h4, h5, h6, d7, d16]
theorem take_ok {st : S} {b : Nat} {m : Int} (hb : Bag st b) (hm : 0 < m) (hd : DivOk m) : ∃ r st', g__law_take [.loc b, .int m] st = .ok (.int r) st' ∧ 0 ≤ r ∧ r < m ∧ Ext b st st' := by
  obtain ⟨x, y, r, e⟩ := hb
  have hl := lstAt_lst e
  have lb := lt_of_at e
  have s1 : gStore (.loc b) (.int 0) (.int (x + 1)) st = some (st.set b (.lst (.int (x + 1) :: .int y :: r.map D.int))) := gStore_loc (k := 0) (j := 0) e (by simp)
  have e1 : (st.set b (.lst (.int (x + 1) :: .int y :: r.map D.int)))[b]? = some (.lst (.int (x + 1) :: .int y :: r.map D.int)) := set_at lb
  have l1 := lstAt_lst e1
  have md : ∀ v : Int, 0 ≤ v % m ∧ v % m < m := fun v => ⟨Int.emod_nonneg _ (by omega), Int.emod_lt_of_pos _ hm⟩
  cases r with
  | nil =>
    obtain ⟨v, hv⟩ := mixed_ok y (x + 1) (st.set b (.lst [.int (x + 1), .int y]))
    simp only [List.map_nil] at s1 e1 l1
    refine ⟨v % m, st.set b (.lst [.int (x + 1), .int y]), ?_, (md v).1, (md v).2, Ext.set (r := []) e⟩
    simp [g__law_take, arN, den_ap, m__law_take, gIx_loc _ _ hl, s1, gLen_loc _ l1, gIx_loc _ _ l1, hv, hm]
  | cons c r =>
    have nl : ¬ ((((r.length : Nat) : Int) + 1 + 1 + 1) < 3) := by omega
    simp only [List.map_cons] at s1 e1 l1
    by_cases hc : c < 0
    · have p2 : gPop (.loc b) [.int 2] (st.set b (.lst (.int (x + 1) :: .int y :: .int c :: r.map D.int))) = some (.int c, (st.set b (.lst (.int (x + 1) :: .int y :: .int c :: r.map D.int))).set b (.lst (.int (x + 1) :: .int y :: r.map D.int))) :=
        gPop_at (j := 2) e1 (by decide) (by unfold seqIndex?; simp; omega) (by simp)
      rw [List.set_set] at p2
      have e2 : (st.set b (.lst (.int (x + 1) :: .int y :: r.map D.int)))[b]? = some (.lst (.int (x + 1) :: .int y :: r.map D.int)) := set_at lb
      have l2 := lstAt_lst e2
      obtain ⟨v, hv⟩ := mixed_ok (-1 - c) (x + 1) (st.set b (.lst (.int (x + 1) :: .int y :: r.map D.int)))
      refine ⟨v % m, st.set b (.lst (.int (x + 1) :: .int y :: r.map D.int)), ?_, (md v).1, (md v).2, Ext.set e⟩
      simp [g__law_take, arN, den_ap, m__law_take, gIx_loc _ _ hl, s1, gLen_loc _ l1, gIx_loc _ _ l1, nl, hc, l1, p2, gIx_loc _ _ l2, hv, hm]
    · have s2 : gStore (.loc b) (.int 2) (.int (c / m)) (st.set b (.lst (.int (x + 1) :: .int y :: .int c :: r.map D.int))) = some ((st.set b (.lst (.int (x + 1) :: .int y :: .int c :: r.map D.int))).set b (.lst (.int (x + 1) :: .int y :: .int (c / m) :: r.map D.int))) :=
        gStore_loc (k := 2) (j := 2) e1 (by simp)
      rw [List.set_set] at s2
      have e2 : (st.set b (.lst (.int (x + 1) :: .int y :: .int (c / m) :: r.map D.int)))[b]? = some (.lst (.int (x + 1) :: .int y :: .int (c / m) :: r.map D.int)) := set_at lb
      have l2 := lstAt_lst e2
      by_cases hz : c / m = 0
      · have p2 : gPop (.loc b) [.int 2] (st.set b (.lst (.int (x + 1) :: .int y :: .int (c / m) :: r.map D.int))) = some (.int (c / m), (st.set b (.lst (.int (x + 1) :: .int y :: .int (c / m) :: r.map D.int))).set b (.lst (.int (x + 1) :: .int y :: r.map D.int))) :=
          gPop_at (j := 2) e2 (by decide) (by unfold seqIndex?; simp; omega) (by simp)
        rw [List.set_set] at p2
        refine ⟨c % m, st.set b (.lst (.int (x + 1) :: .int y :: r.map D.int)), ?_, (md c).1, (md c).2, Ext.set e⟩
        rw [hz] at s2 l2 p2
        simp [g__law_take, arN, den_ap, m__law_take, gIx_loc _ _ hl, s1, gLen_loc _ l1, gIx_loc _ _ l1, nl, hc, hd, hz, s2, gIx_loc _ _ l2, l2, p2, hm]
      · refine ⟨c % m, st.set b (.lst (.int (x + 1) :: .int y :: .int (c / m) :: r.map D.int)), ?_, (md c).1, (md c).2, Ext.set (r := c / m :: r) e⟩
        simp [g__law_take, arN, den_ap, m__law_take, gIx_loc _ _ hl, s1, gLen_loc _ l1, gIx_loc _ _ l1, nl, hc, hd, hz, s2, gIx_loc _ _ l2, l2, hm]
end K01

set_option Elab.async false
set_option linter.all false
set_option maxRecDepth 100000
set_option maxHeartbeats 4000000
namespace K01
open PySem MP
/-- a number of the row -/
structure Nu (p q : Int) : Prop where
  pos : 0 < q
  red : gi p q = 1
  top : -(10 ^ 40) < p ∧ p < 10 ^ 40
  bot : q < 10 ^ 40
def Nm (d : D) : Prop := ∃ p q : Int, d = fr p q ∧ Nu p q
theorem gi_mul {g p q : Int} (hg : 0 < g) : gi (g * p) (g * q) = g * gi p q := by
  unfold gi
  rw [Int.natAbs_mul, Int.natAbs_mul, Nat.gcd_mul_left, Int.natCast_mul]
  congr 1
  omega
theorem low_spec {p q : Int} (hq : 0 < q) : ∃ g p' q', 0 < g ∧ p = g * p' ∧ q = g * q' ∧ 0 < q' ∧ gi p' q' = 1 ∧ low p q = fr p' q' := by
  have hg := gi_pos (p := p) hq
  obtain ⟨p', hp⟩ := gi_dvd_l p q
  obtain ⟨q', hq'⟩ := gi_dvd_r p q
  have hq0 : 0 < q' := by
    rcases Int.lt_trichotomy q' 0 with h | h | h
    · have := Int.mul_neg_of_pos_of_neg hg h
      omega
    · subst h
      rw [Int.mul_zero] at hq'
      omega
    · exact h
  refine ⟨gi p q, p', q', hg, hp, hq', hq0, ?_, ?_⟩
  · have e := gi_mul (p := p') (q := q') hg
    rw [← hp, ← hq'] at e
    have : gi p q * 1 = gi p q * gi p' q' := by rw [Int.mul_one]; exact e
    exact (Int.eq_of_mul_eq_mul_left (by omega) this).symm
  · show fr (p / gi p q) (q / gi p q) = fr p' q'
    have h1 : p / gi p q = p' := by
      conv => lhs; arg 1; rw [hp]
      exact Int.mul_ediv_cancel_left _ (by omega)
    have h2 : q / gi p q = q' := by
      conv => lhs; arg 1; rw [hq']
      exact Int.mul_ediv_cancel_left _ (by omega)
    rw [h1, h2]
theorem low_id {p q : Int} (h : gi p q = 1) : low p q = fr p q := by unfold low; rw [h, Int.ediv_one, Int.ediv_one]
theorem low_scale {g p q : Int} (hg : 0 < g) : low (g * p) (g * q) = low p q := by
  unfold low
  rw [gi_mul hg, Int.mul_ediv_mul_of_pos _ _ hg, Int.mul_ediv_mul_of_pos _ _ hg]
theorem low_nm {p q : Int} (hq : 0 < q) (h1 : -(10 ^ 40) < p) (h2 : p < 10 ^ 40) (h3 : q < 10 ^ 40) : Nm (low p q) := by
  obtain ⟨g, p', q', hg, ep, eq, hq', hr, e⟩ := low_spec (p := p) hq
  refine ⟨p', q', e, hq', hr, ?_, ?_⟩
  · have a : p'.natAbs ≤ p.natAbs := by
      rw [ep, Int.natAbs_mul]
      exact Nat.le_mul_of_pos_left _ (by omega)
    omega
  · have a : q'.natAbs ≤ q.natAbs := by
      rw [eq, Int.natAbs_mul]
      exact Nat.le_mul_of_pos_left _ (by omega)
    omega
theorem nm_one {p : Int} (h1 : -(10 ^ 40) < p) (h2 : p < 10 ^ 40) : Nm (fr p 1) := ⟨p, 1, rfl, by decide, by unfold gi; simp, ⟨h1, h2⟩, by decide⟩
theorem low_ok {p q : Int} (hq : 0 < q) (h1 : q < 10 ^ 40) (st : S) : g__law_lowest [.int p, .int q] st = .ok (low p q) st := lowest_ok hq (Int.lt_trans h1 (by decide +kernel)) st
theorem large_ok {st : S} {b : Nat} (hb : Bag st b) : ∃ v st', g__law_large [.loc b] st = .ok (.int v) st' ∧ 0 ≤ v ∧ v < 10 ^ 40 ∧ Ext b st st' := by
  have dk : DivOk 100000000 := by decide
  have hsm : Small62 5 := by decide
  obtain ⟨ρ', st', h1, v, x, h2, h3, h4, h5⟩ := loop_inv (chk := fun _ => true) (t := tgN 2)
    (body := sSet 1 (fBin gAdd (fBin gMul (fVar 1) (fC (.int 100000000))) (fCall g__law_take (fCons (fVar 0) (fCons (fC (.int 100000000)) (fNil))))))
    (I := fun don ds ρ s => ∃ (v : Int) (x : Option D), ρ = [some (.loc b), some (.int v), x] ∧ 0 ≤ v ∧ v < 100000000 ^ don.length ∧ Ext b st s)
    (fun don d ds ρ s ⟨v, x, e, h0, h1, hx⟩ => by
      subst e
      obtain ⟨r, s', hr, r0, r1, xr⟩ := take_ok hx.bag (by decide) dk
      have mk : MP.MulOk v 100000000 := mulok_r (by decide) (by decide)
      refine ⟨rfl, _, rfl, [some (.loc b), some (.int (v * 100000000 + r)), some d], s', .inl ?_, v * 100000000 + r, some d, rfl, by omega, ?_, hx.trans xr⟩
      · simp [mk, hr]
      · rw [List.length_append, List.length_singleton, Int.pow_succ]
        generalize (100000000 : Int) ^ don.length = z at h1
        omega)
    (fun _ _ _ _ => rfl) (rangeD 0 5) [] [some (.loc b), some (.int 0), none] st ⟨0, none, rfl, by decide, by decide, Ext.refl hb⟩
  refine ⟨v, st', ?_, h3, ?_, h5⟩
  · subst h2
    unfold g__law_large arN
    rw [if_pos (show [D.loc b].length = 1 from rfl), den_ap]
    simp only [m__law_large, sSeq_ap, sSet_ap, fC_ap, Out.so_ok, then_nx, sForR1, fCons_ap, fNil_ap, Out.bind_ok, if_pos hsm]
    show ((sLoop _ _ _ (rangeD 0 5) [some (.loc b), some (.int 0), none] st).then_ _).out = _
    rw [h1]
    simp
  · have e : ([] ++ rangeD 0 5 : List D).length = 5 := rfl
    rw [e] at h4
    exact Int.lt_of_lt_of_le h4 (by decide)
end K01

set_option Elab.async false
set_option linter.all false
set_option maxRecDepth 100000
set_option maxHeartbeats 4000000
namespace K01
open PySem MP
noncomputable def besT : FS :=
  sSeq (sIf (fIsB (fBin gEq (fVar 2) (fC (.int 8)))) (sRet (fVar 4)) (sSkip))
  (sSeq (sIf (fIsB (fBin gEq (fVar 2) (fC (.int 9)))) (sRet (fTup (fCons (fUn gNeg (fBin gIx (fVar 4) (fC (.int 0)))) (fCons (fBin gIx (fVar 4) (fC (.int 1))) (fNil))))) (sSkip))
  (sSeq (sIf (fAnd (fIsB (fBin gEq (fVar 2) (fC (.int 10)))) (fIsB (fBin gGt (fBin gIx (fVar 4) (fC (.int 0))) (fC (.int 0))))) (sRet (fTup (fCons (fBin gIx (fVar 4) (fC (.int 1))) (fCons (fBin gIx (fVar 4) (fC (.int 0))) (fNil))))) (sSkip))
  (sSeq (sIf (fAnd (fIsB (fBin gEq (fVar 2) (fC (.int 10)))) (fIsB (fBin gLt (fBin gIx (fVar 4) (fC (.int 0))) (fC (.int 0))))) (sRet (fTup (fCons (fUn gNeg (fBin gIx (fVar 4) (fC (.int 1)))) (fCons (fUn gNeg (fBin gIx (fVar 4) (fC (.int 0)))) (fNil))))) (sSkip))
  (sSeq (sIf (fAnd (fIsB (fBin gLt (fArgs gAbs (fCons (fBin gIx (fVar 4) (fC (.int 0))) (fNil))) (fBin gPow (fC (.int 10)) (fC (.int 19))))) (fIsB (fBin gLt (fBin gIx (fVar 4) (fC (.int 1))) (fBin gPow (fC (.int 10)) (fC (.int 19)))))) (sSeq (sSet 5 (fBin gAdd (fC (.int 1)) (fCall g__law_take (fCons (fVar 0) (fCons (fC (.int 100000000)) (fNil))))))
  (sRet (fCall g__law_lowest (fCons (fBin gAdd (fBin gMul (fBin gIx (fVar 4) (fC (.int 0))) (fVar 5)) (fVar 3)) (fCons (fBin gMul (fBin gIx (fVar 4) (fC (.int 1))) (fVar 5)) (fNil)))))) (sSkip))
  (sSeq (sIf (fIsB (fBin gGt (fBin gIx (fVar 4) (fC (.int 0))) (fC (.int 0)))) (sRet (fCall g__law_lowest (fCons (fBin gSub (fBin gIx (fVar 4) (fC (.int 0))) (fC (.int 1))) (fCons (fBin gIx (fVar 4) (fC (.int 1))) (fNil))))) (sSkip))
  (sRet (fCall g__law_lowest (fCons (fBin gAdd (fBin gIx (fVar 4) (fC (.int 0))) (fC (.int 1))) (fCons (fBin gIx (fVar 4) (fC (.int 1))) (fNil))))))))))
theorem besT_ok {s1 : S} {b : Nat} {w sd p q : Int} {x : D} (hb : Bag s1 b) (N : Nu p q) (hsd : sd = 1 ∨ sd = -1) : ∃ d s2, besT [some (.loc b), some x, some (.int w), some (.int sd), some (fr p q), none] s1 = .rt d s2 ∧ Nm d ∧ Ext b s1 s2 := by
  obtain ⟨hq, hr, ⟨t1, t2⟩, hq2⟩ := N
  by_cases c8 : w = 8
  · exact ⟨fr p q, s1, by simp [besT, c8], ⟨p, q, rfl, hq, hr, ⟨t1, t2⟩, hq2⟩, Ext.refl hb⟩
  by_cases c9 : w = 9
  · refine ⟨fr (-p) q, s1, by simp [besT, c9], ⟨-p, q, rfl, hq, ?_, ⟨by omega, by omega⟩, hq2⟩, Ext.refl hb⟩
    unfold gi at hr ⊢
    rw [Int.natAbs_neg]
    exact hr
  by_cases c10 : w = 10 ∧ 0 < p
  · refine ⟨fr q p, s1, by simp [besT, c10], ⟨q, p, rfl, c10.2, ?_, ⟨by omega, by omega⟩, by omega⟩, Ext.refl hb⟩
    unfold gi at hr ⊢
    rw [Nat.gcd_comm]
    exact hr
  by_cases c11 : w = 10 ∧ p < 0
  · have np : ¬ 0 < p := by omega
    refine ⟨fr (-q) (-p), s1, by simp [besT, c11, np], ⟨-q, -p, rfl, by omega, ?_, ⟨by omega, by omega⟩, by omega⟩, Ext.refl hb⟩
    rw [gi_neg]
    unfold gi at hr ⊢
    rw [Nat.gcd_comm]
    exact hr
  have k10 : (if w = 10 then (if 0 < p then true else false) else false) = false := by
    by_cases c : w = 10
    · have : ¬ 0 < p := fun h => c10 ⟨c, h⟩
      simp [c, this]
    · simp [c]
  by_cases cs : ((p.natAbs : Nat) : Int) < 10000000000000000000 ∧ q < 10000000000000000000
  · obtain ⟨r, s2, er, r0, r1, x2⟩ := take_ok hb (m := 100000000) (by decide) (by decide)
    have m1 : ∀ z : Int, MP.MulOk z (1 + r) := fun z => mulok_r (by omega) (by omega)
    have b1 : -(10 ^ 28) < p * (1 + r) ∧ p * (1 + r) < 10 ^ 28 := by
      have hp : -(10000000000000000000) < p ∧ p < 10000000000000000000 := by omega
      have h1 : p * (1 + r) ≤ 10000000000000000000 * (1 + r) := Int.mul_le_mul_of_nonneg_right (by omega) (by omega)
      have h2 : -(10000000000000000000) * (1 + r) ≤ p * (1 + r) := Int.mul_le_mul_of_nonneg_right (by omega) (by omega)
      omega
    have b2 : 0 < q * (1 + r) := Int.mul_pos hq (by omega)
    have b3 : q * (1 + r) < 10 ^ 28 := by
      have h1 : q * (1 + r) ≤ 10000000000000000000 * (1 + r) := Int.mul_le_mul_of_nonneg_right (by omega) (by omega)
      omega
    have el := low_ok (p := p * (1 + r) + sd) b2 (by omega) s2
    refine ⟨_, s2, ?_, low_nm (p := p * (1 + r) + sd) b2 (by omega) (by omega) (by omega), x2⟩
    have cs1 := cs.1
    have cs2 := cs.2
    by_cases c : w = 10
    · have n1 : ¬ 0 < p := fun h => c10 ⟨c, h⟩
      have n2 : ¬ p < 0 := fun h => c11 ⟨c, h⟩
      have n3 : p = 0 := by omega
      subst n3
      simp [besT, absI, c, cs2, er, m1, el] at el ⊢
      simp [el]
    · simp [besT, absI, c8, c9, c, cs1, cs2, er, m1, el]
  · by_cases c : 0 < p
    · have el := low_ok (p := p - 1) hq hq2 s1
      refine ⟨_, s1, ?_, low_nm (p := p - 1) hq (by omega) (by omega) hq2, Ext.refl hb⟩
      have n10 : ¬ w = 10 := fun h => c10 ⟨h, c⟩
      by_cases cs1 : ((p.natAbs : Nat) : Int) < 10000000000000000000
      · have cs2 : ¬ q < 10000000000000000000 := fun h => cs ⟨cs1, h⟩
        simp [besT, absI, c8, c9, n10, cs1, cs2, c, el]
      · simp [besT, absI, c8, c9, n10, cs1, c, el]
    · have el := low_ok (p := p + 1) hq hq2 s1
      refine ⟨_, s1, ?_, low_nm (p := p + 1) hq (by omega) (by omega) hq2, Ext.refl hb⟩
      by_cases c0 : w = 10
      · have n2 : ¬ p < 0 := fun h => c11 ⟨c0, h⟩
        have n3 : p = 0 := by omega
        subst n3
        have cs2 : ¬ q < 10000000000000000000 := fun h => cs ⟨by decide, h⟩
        simp [besT, absI, c0, cs2] at el ⊢
        simp [el]
      · by_cases cs1 : ((p.natAbs : Nat) : Int) < 10000000000000000000
        · have cs2 : ¬ q < 10000000000000000000 := fun h => cs ⟨cs1, h⟩
          simp [besT, absI, c8, c9, c0, cs1, cs2, c, el]
        · simp [besT, absI, c8, c9, c0, cs1, c, el]
end K01

set_option Elab.async false
set_option linter.all false
set_option maxRecDepth 100000
set_option maxHeartbeats 4000000
namespace K01
open PySem MP
/-- a row of numbers at rw -/
structure Row (st : S) (rw : Nat) (ds : List D) : Prop where
  at_ : st[rw]? = some (.lst ds)
  nm : ∀ d ∈ ds, Nm d
theorem divok_len {n : Nat} (h0 : 0 < n) (h : n < 1000) : DivOk (n : Int) := divok_small (by omega) (by
  have h1 : (1000 : Nat) ≤ 2 ^ 8000 := Nat.le_trans (show 1000 ≤ 2 ^ 10 by decide) (Nat.pow_le_pow_right (by decide) (by decide))
  omega)
theorem nu_one : Nu 1 1 := ⟨by decide, by unfold gi; simp, ⟨by decide, by decide⟩, by decide⟩
theorem m_bes : m__law_beside = sSeq (sSet 4 (fTup (fCons (fC (.int 1)) (fCons (fC (.int 1)) (fNil)))))
  (sSeq (sIf (fIsB (fBin gGt (fArgs gLen (fCons (fVar 1) (fNil))) (fC (.int 0)))) (sSet 4 (fBin gIx (fVar 1) (fCall g__law_take (fCons (fVar 0) (fCons (fArgs gLen (fCons (fVar 1) (fNil))) (fNil)))))) (sSkip)) besT) := rfl
theorem beside_ok {st : S} {b rw : Nat} {ds : List D} {w sd : Int} (hb : Bag st b) (hr : Row st rw ds) (hn : rw ≠ b) (hl : ds.length < 1000) (hsd : sd = 1 ∨ sd = -1) :
    ∃ d s2, g__law_beside [.loc b, .loc rw, .int w, .int sd] st = .ok d s2 ∧ Nm d ∧ Ext b st s2 := by
  have l0 := lstAt_lst hr.at_
  by_cases h0 : ds.length = 0
  · obtain ⟨d, s2, e, n, x⟩ := besT_ok (w := w) (x := .loc rw) hb nu_one hsd
    refine ⟨d, s2, ?_, n, x⟩
    simp [g__law_beside, arN, den_ap, m_bes, gLen_loc _ l0, h0, e]
  · obtain ⟨r, s1, er, r0, r1, x1⟩ := take_ok hb (m := (ds.length : Int)) (by omega) (divok_len (by omega) hl)
    have hlt : r.toNat < ds.length := by omega
    have hd : ds[r.toNat]? = some ds[r.toNat] := List.getElem?_eq_getElem hlt
    obtain ⟨p, q, ed, N⟩ := hr.nm _ (List.getElem_mem hlt)
    have l1 := lstAt_lst (x1.at_ hn hr.at_)
    have ha : L2.atI ds r = some (fr p q) := by
      have z := atI_nat hd
      rw [ed] at z
      rw [← z]
      congr 1
      omega
    obtain ⟨d, s2, e, n, x⟩ := besT_ok (w := w) (x := .loc rw) x1.bag N hsd
    refine ⟨d, s2, ?_, n, x1.trans x⟩
    have hp : (0 : Int) < ds.length := by omega
    have hp' : 0 < ds.length := by omega
    simp [g__law_beside, arN, den_ap, m_bes, gLen_loc _ l0, hp, hp', er, gIx_loc _ _ l1, ha, e]
theorem number_ok {st : S} {b rw : Nat} {ds : List D} (hb : Bag st b) (hr : Row st rw ds) (hn : rw ≠ b) (hl : ds.length < 1000) :
    ∃ d s2, g__law_number [.loc b, .loc rw] st = .ok d s2 ∧ Nm d ∧ Ext b st s2 := by
  obtain ⟨w, s1, ew, w0, w1, x1⟩ := take_ok hb (m := 12) (by decide) (by decide)
  obtain ⟨t, s2, et, t0, t1, x2⟩ := take_ok x1.bag (m := 2) (by decide) (by decide)
  have x12 := x1.trans x2
  have m2 : MP.MulOk 2 t := mulok_l (by decide) (by decide)
  have hsd : 1 - 2 * t = 1 ∨ 1 - 2 * t = -1 := by omega
  have ms : ∀ z, MP.MulOk (1 - 2 * t) z := fun z => mulok_l (by omega) (by omega)
  have sg : ∀ z : Int, (1 - 2 * t) * z = z ∨ (1 - 2 * t) * z = -z := fun z => by
    rcases hsd with h | h <;> rw [h] <;> omega
  by_cases c0 : w = 0
  · subst c0
    exact ⟨fr 0 1, s2, by simp [g__law_number, arN, den_ap, m__law_number, ew, et, m2], nm_one (by decide) (by decide), x12⟩
  by_cases c1 : w = 1
  · subst c1
    obtain ⟨r, s3, er, r0, r1, x3⟩ := take_ok x2.bag (m := 13) (by decide) (by decide)
    refine ⟨fr ((1 - 2 * t) * r) 1, s3, by simp [g__law_number, arN, den_ap, m__law_number, ew, et, m2, er, ms], ?_, x12.trans x3⟩
    have := sg r
    exact nm_one (by omega) (by omega)
  by_cases c5 : w < 5
  · obtain ⟨r, s3, er, r0, r1, x3⟩ := take_ok x2.bag (m := 31) (by decide) (by decide)
    obtain ⟨q, s4, eq, q0, q1, x4⟩ := take_ok x3.bag (m := 12) (by decide) (by decide)
    have := sg r
    have el := low_ok (p := (1 - 2 * t) * r) (q := 1 + q) (by omega) (by omega) s4
    exact ⟨_, s4, by simp [g__law_number, arN, den_ap, m__law_number, ew, et, m2, er, ms, c0, c1, c5, eq, el], low_nm (p := (1 - 2 * t) * r) (q := 1 + q) (by omega) (by omega) (by omega) (by omega), (x12.trans x3).trans x4⟩
  by_cases c5' : w = 5
  · subst c5'
    obtain ⟨v, s3, ev, v0, v1, x3⟩ := large_ok x2.bag
    have := sg v
    exact ⟨fr ((1 - 2 * t) * v) 1, s3, by simp [g__law_number, arN, den_ap, m__law_number, ew, et, m2, ms, ev], nm_one (by omega) (by omega), x12.trans x3⟩
  by_cases c6 : w = 6
  · subst c6
    obtain ⟨v, s3, ev, v0, v1, x3⟩ := large_ok x2.bag
    obtain ⟨u, s4, eu, u0, u1, x4⟩ := large_ok x3.bag
    have := sg v
    have g1 : 0 ≤ u % (10 ^ 40 - 1) := Int.emod_nonneg _ (by decide)
    have g2 : u % (10 ^ 40 - 1) < 10 ^ 40 - 1 := Int.emod_lt_of_pos _ (by decide)
    have el := low_ok (p := (1 - 2 * t) * v) (q := 1 + u % (10 ^ 40 - 1)) (by omega) (by omega) s4
    refine ⟨_, s4, ?_, low_nm (p := (1 - 2 * t) * v) (q := 1 + u % (10 ^ 40 - 1)) (by omega) (by omega) (by omega) (by omega), (x12.trans x3).trans x4⟩
    simp at el
    simp [g__law_number, arN, den_ap, m__law_number, ew, et, m2, ms, ev, eu, el]
  by_cases c7 : w = 7
  · subst c7
    obtain ⟨r, s3, er, r0, r1, x3⟩ := take_ok x2.bag (m := 30) (by decide) (by decide)
    obtain ⟨u, s4, eu, u0, u1, x4⟩ := take_ok x3.bag (m := 30) (by decide) (by decide)
    have := sg (10 ^ 40 - 1 - r)
    have el := low_ok (p := (1 - 2 * t) * (10 ^ 40 - 1 - r)) (q := 10 ^ 40 - 1 - u) (by omega) (by omega) s4
    refine ⟨_, s4, ?_, low_nm (p := (1 - 2 * t) * (10 ^ 40 - 1 - r)) (q := 10 ^ 40 - 1 - u) (by omega) (by omega) (by omega) (by omega), (x12.trans x3).trans x4⟩
    simp at el
    simp [g__law_number, arN, den_ap, m__law_number, ew, et, m2, ms, er, eu, el]
  · obtain ⟨d, s3, e, n, x3⟩ := beside_ok (w := w) (sd := 1 - 2 * t) x2.bag ⟨x12.at_ hn hr.at_, hr.nm⟩ hn hl hsd
    refine ⟨d, s3, ?_, n, x12.trans x3⟩
    simp [g__law_number, arN, den_ap, m__law_number, ew, et, m2, c0, c1, c5, c5', c6, c7, e]
theorem small_len {n : Nat} (h : n < 1000) : n < sizeLine := by
  have : sizeLine = 16777216 := sizeLine_eq
  omega
theorem numbers_ok {st : S} {b : Nat} {n : Nat} (hb : Bag st b) (hbl : b < st.length) (hn : n < 1000) :
    ∃ rw ds s2, g__law_numbers [.loc b, .int n] st = .ok (.loc rw) s2 ∧ Row s2 rw ds ∧ rw ≠ b ∧ ds.length = n ∧ Ext b st s2 := by
  have hsm : Small62 (n : Int) := by unfold Small62; omega
  have nb : st.length ≠ b := by omega
  obtain ⟨ρ', st', h1, x, rs, h2, h3, h4, h5⟩ := loop_inv (chk := fun _ => true) (t := tgN 3)
    (body := sExpr (fLM gAppend (fVar 2) (fCons (fCall g__law_number (fCons (fVar 0) (fCons (fVar 2) (fNil)))) (fNil))))
    (I := fun don ds ρ s => ∃ (x : Option D) (rs : List D), ρ = [some (.loc b), some (.int n), some (.loc st.length), x] ∧ rs.length = don.length ∧ don.length + ds.length = n ∧ Row s st.length rs ∧ Ext b st s)
    (fun don d ds ρ s ⟨x, rs, e, hl, ht, hr, hx⟩ => by
      subst e
      rw [List.length_cons] at ht
      obtain ⟨d', s', ed, nm, xr⟩ := number_ok hx.bag hr nb (by omega)
      have a1 := xr.at_ nb hr.at_
      have ap := gAppend_loc (d := d') a1 (small_len (by omega))
      refine ⟨rfl, _, rfl, [some (.loc b), some (.int n), some (.loc st.length), some d], s'.set st.length (.lst (rs ++ [d'])), .inl ?_, some d, rs ++ [d'], rfl, by simp [hl], by simp; omega, ⟨set_at (lt_of_at a1), fun y hy => ?_⟩, ?_⟩
      · simp [lstAt_lst hr.at_, ed, ap]
      · rcases List.mem_append.mp hy with hy | hy
        · exact hr.nm y hy
        · rw [List.mem_singleton.mp hy]; exact nm
      · obtain ⟨x0, y0, r0, e0⟩ := xr.bag
        refine ⟨⟨x0, y0, r0, by rw [set_ne (Ne.symm nb)]; exact e0⟩, by rw [List.length_set]; exact Nat.le_trans hx.len xr.len, fun k o hk he => ?_⟩
        have kl := lt_of_at he
        rw [set_ne (by omega)]
        exact xr.keep k o hk (hx.keep k o hk he))
    (fun _ _ _ _ => rfl) (rangeD 0 n) [] [some (.loc b), some (.int n), some (.loc st.length), none] (st ++ [.lst []])
    ⟨none, [], rfl, rfl, by rw [rangeD_len]; simp, ⟨app_new, fun _ h => nomatch h⟩, (Ext.refl hb).app _⟩
  refine ⟨st.length, rs, st', ?_, h5.1, nb, ?_, h5.2⟩
  · unfold g__law_numbers arN
    rw [if_pos (show [D.loc b, D.int n].length = 2 from rfl), den_ap]
    have e : sForR1 (fCons (fVar 1) (fNil)) (tgN 3) (sExpr (fLM gAppend (fVar 2) (fCons (fCall g__law_number (fCons (fVar 0) (fCons (fVar 2) (fNil)))) (fNil)))) [some (.loc b), some (.int n), some (.loc st.length), none] (st ++ [.lst []]) = .nx [some (.loc b), some (.int n), some (.loc st.length), x] st' := by
      subst h2
      rw [sForR1_ok (j := (n : Int)) (st1 := st ++ [.lst []]) rfl hsm]
      exact h1
    have e2 : sSet 2 (fLst (fNil)) [some (.loc b), some (.int n), none, none] st = .nx [some (.loc b), some (.int n), some (.loc st.length), none] (st ++ [.lst []]) := rfl
    show ((sSeq (sSet 2 (fLst (fNil))) (sSeq _ (sRet (fVar 2)))) [some (.loc b), some (.int n), none, none] st).out = _
    rw [sSeq_ap, e2, then_nx, sSeq_ap, e, then_nx]
    rfl
  · rw [h3]
    simp [rangeD_len]
end K01

set_option Elab.async false
set_option linter.all false
set_option maxRecDepth 100000
set_option maxHeartbeats 4000000
namespace K01
open PySem MP
/-- a word of digits, no leading naught -/
def Dw (w : Str) : Prop := w.cps.toList ≠ [] ∧ ¬ (w.cps.toList.head? = some 48 ∧ 1 < w.length) ∧ ∀ c ∈ w.cps.toList, isDg c
noncomputable instance (w : Str) : Decidable (Dw w) := Classical.propDecidable _
noncomputable abbrev dvB : FS := sSeq (sSet 3 (fM1 gFind (fC c_DIGITS) (fVar 2)))
  (sSeq (sIf (fIsB (fBin gLt (fVar 3) (fC (.int 0)))) (sRet (fC .non)) (sSkip))
  (sSet 1 (fBin gAdd (fBin gMul (fVar 1) (fC (.int 10))) (fVar 3))))
abbrev sg (c : Nat) : D := .str ⟨#[c]⟩
theorem dv_loop (st : S) (w : D) : ∀ (cs : List Nat) (v : Nat) (x y : Option D), 
    (∃ d st' , (∃ c ∈ cs, ¬ isDg c) ∧ d = D.non ∧ st' = st ∧ sLoop (fun _ => true) (tgN 2) dvB (cs.map sg) [some w, some (.int v), x, y] st = .rt d st') ∨
    ((∀ c ∈ cs, isDg c) ∧ ∃ x' y', sLoop (fun _ => true) (tgN 2) dvB (cs.map sg) [some w, some (.int v), x, y] st = .nx [some w, some (.int ((cs.foldl (fun acc c => acc * 10 + (c - 48)) v : Nat) : Int)), x', y'] st)
  | [], v, x, y => .inr ⟨fun _ h => (nomatch h), x, y, by simp [sLoop_nil]⟩
  | c :: cs, v, x, y => by
    by_cases h : isDg c
    · have m10 : MP.MulOk (v : Int) 10 := mulok_r (by decide) (by decide)
      have e : ((v : Int) * 10 + ((c - 48 : Nat) : Int)) = ((v * 10 + (c - 48) : Nat) : Int) := by omega
      have nl : ¬ (((c - 48 : Nat) : Int) < 0) := by omega
      have st1 : dvB [some w, some (.int v), some (sg c), y] st = .nx [some w, some (.int ((v * 10 + (c - 48) : Nat) : Int)), some (sg c), some (.int ((c - 48 : Nat) : Int))] st := by
        rw [← e]
        simp only [dvB, sSeq_ap, sSet_ap, fM1_ap, fC_ap, fVar_ap, Out.bind_ok, gFind_str, find_DG h, ofO, Out.so_ok, then_nx, sIf_ap, fIsB_ap, fBin_ap, gLt_int, decide_eq_false nl, List.getElem?_cons_succ, List.getElem?_cons_zero, List.set_cons_succ, List.set_cons_zero, gMul_int, if_pos m10, gAdd_int, sSkip_ap, sRet_ap]
        simp [m10]
      have un : sLoop (fun _ => true) (tgN 2) dvB ((c :: cs).map sg) [some w, some (.int v), x, y] st = sLoop (fun _ => true) (tgN 2) dvB (cs.map sg) [some w, some (.int ((v * 10 + (c - 48) : Nat) : Int)), some (sg c), some (.int ((c - 48 : Nat) : Int))] st := by
        rw [List.map_cons]
        conv => lhs; unfold sLoop
        rw [if_pos rfl]
        show (match dvB [some w, some (.int v), some (sg c), y] st with
          | .nx ρ2 st2 => sLoop (fun _ => true) (tgN 2) dvB (cs.map sg) ρ2 st2
          | .ct ρ2 st2 => sLoop (fun _ => true) (tgN 2) dvB (cs.map sg) ρ2 st2
          | .bk ρ2 st2 => .nx ρ2 st2
          | .rt d st2 => .rt d st2
          | .ex e ρ2 st2 => .ex e ρ2 st2
          | .bad => .bad) = _
        rw [st1]
      rw [un]
      rcases dv_loop st w cs (v * 10 + (c - 48)) (some (sg c)) (some (.int ((c - 48 : Nat) : Int))) with ⟨d, s', ⟨c', hc, hn⟩, rest⟩ | ⟨hall, x', y', hx⟩
      · exact .inl ⟨d, s', ⟨c', List.mem_cons_of_mem _ hc, hn⟩, rest⟩
      · exact .inr ⟨fun c' hc' => (List.mem_cons.mp hc').elim (fun e => e ▸ h) (hall c'), x', y', hx⟩
    · refine .inl ⟨.non, st, ⟨c, List.mem_cons_self .., h⟩, rfl, rfl, ?_⟩
      rw [List.map_cons]
      conv => lhs; unfold sLoop
      simp [find_DG_none h, c_DIGITS]
end K01

set_option Elab.async false
set_option linter.all false
set_option maxRecDepth 100000
set_option maxHeartbeats 4000000
namespace K01
open PySem MP
theorem e_empty : ("" : Str) = ⟨⟨[]⟩⟩ := by decide +kernel
theorem e_zero : ("0" : Str) = ⟨⟨[48]⟩⟩ := by decide +kernel
abbrev tx (l : List Nat) : Str := ⟨⟨l⟩⟩
def Dl (l : List Nat) : Prop := l ≠ [] ∧ ¬ (l.head? = some 48 ∧ 1 < l.length) ∧ ∀ c ∈ l, isDg c
noncomputable instance (l : List Nat) : Decidable (Dl l) := Classical.propDecidable _
theorem tx_inj {a b : List Nat} : tx a = tx b ↔ a = b := ⟨fun h => by injection h with h; injection h, fun h => by rw [h]⟩
theorem tx_len (l : List Nat) : (tx l).length = l.length := by simp [Str.length]
theorem sl_k : sizeLine = 16777216 := sizeLine_eq
theorem digits_value_ok (l : List Nat) (hl : l.length ≤ 1000) (st : S) : g__digits_value [.str (tx l)] st = .ok (if Dl l then .int ((NumText.digitsVal l : Nat) : Int) else .non) st := by
  have hsz : (tx l).length ≤ sizeLine := by rw [tx_len, sl_k]; omega
  cases l with
  | nil =>
    have nd : ¬ Dl [] := fun h => h.1 rfl
    rw [if_neg nd]
    simp [g__digits_value, arN, den_ap, m__digits_value, e_empty, tx_inj]
  | cons c cs =>
    have at0 : L2.atI (c :: cs) 0 = some c := by unfold L2.atI L2.ixN; simp
    have ne : (tx (c :: cs) = ("" : Str)) = False := by rw [e_empty, tx_inj]; simp
    have z1 : ((⟨#[c]⟩ : Str) = ("0" : Str)) = (c = 48) := by
      rw [e_zero]
      show (tx [c] = tx [48]) = _
      rw [tx_inj]
      simp
    have ln : (tx (c :: cs)).length = cs.length + 1 := tx_len _
    by_cases hz : c = 48 ∧ 0 < cs.length
    · have nd : ¬ Dl (c :: cs) := fun h => h.2.1 ⟨by rw [hz.1]; rfl, by simpa using hz.2⟩
      rw [if_neg nd]
      obtain ⟨hc, hp⟩ := hz
      subst hc
      have z2 : ((⟨#[48]⟩ : Str) = ("0" : Str)) = True := by rw [z1]; simp
      rw [ln] at hsz
      have hp1 : (1 : Int) < (cs.length : Int) + 1 := by omega
      simp [g__digits_value, arN, den_ap, m__digits_value, ne, ln, hsz, at0, z2, hp1]
    · have f1 : ∀ k : FS, m__digits_value = sSeq (sIf (fIsB (fBin gEq (fVar 0) (fC (.str ("" : Str))))) (sRet (fC .non)) (sSkip)) (sSeq (sIf (fAnd (fIsB (fBin gEq (fBin gIx (fVar 0) (fC (.int 0))) (fC (.str ("0" : Str))))) (fIsB (fBin gGt (fArgs gLen (fCons (fVar 0) (fNil))) (fC (.int 1))))) (sRet (fC .non)) (sSkip)) (sSeq (sSet 1 (fC (.int 0))) (sSeq (sFor (fVar 0) (tgN 2) dvB) (sRet (fVar 1))))) := fun _ => rfl
      have e1 : sIf (fIsB (fBin gEq (fVar 0) (fC (.str ("" : Str))))) (sRet (fC .non)) (sSkip) [some (.str (tx (c :: cs))), none, none, none] st = .nx [some (.str (tx (c :: cs))), none, none, none] st := by simp [ne]
      have e2 : sIf (fAnd (fIsB (fBin gEq (fBin gIx (fVar 0) (fC (.int 0))) (fC (.str ("0" : Str))))) (fIsB (fBin gGt (fArgs gLen (fCons (fVar 0) (fNil))) (fC (.int 1))))) (sRet (fC .non)) (sSkip) [some (.str (tx (c :: cs))), none, none, none] st = .nx [some (.str (tx (c :: cs))), none, none, none] st := by
        rw [ln] at hsz
        by_cases hc : c = 48
        · have h0 : cs.length = 0 := by omega
          subst hc
          have z2 : ((⟨#[48]⟩ : Str) = ("0" : Str)) = True := by rw [z1]; simp
          have hp : ¬ 0 < cs.length := by omega
          simp [ln, hsz, at0, z2]
          omega
        · simp [ln, hsz, at0, z1, hc]
      unfold g__digits_value arN
      rw [if_pos (show [D.str (tx (c :: cs))].length = 1 from rfl), den_ap]
      show (m__digits_value [some (.str (tx (c :: cs))), none, none, none] st).out = _
      rw [f1 sSkip, sSeq_ap, e1, then_nx, sSeq_ap, e2, then_nx, sSeq_ap]
      show ((sSeq (sFor (fVar 0) (tgN 2) dvB) (sRet (fVar 1))) [some (.str (tx (c :: cs))), some (.int 0), none, none] st).out = _
      rw [sSeq_ap]
      show ((sLoop (fun _ => true) (tgN 2) dvB ((c :: cs).map sg) [some (.str (tx (c :: cs))), some (.int ((0 : Nat) : Int)), none, none] st).then_ (sRet (fVar 1))).out = _
      rcases dv_loop st (.str (tx (c :: cs))) (c :: cs) 0 none none with ⟨d, s', ⟨c', hc', hn⟩, rfl, rfl, e⟩ | ⟨hall, x', y', e⟩
      · rw [e, if_neg (fun h => hn (h.2.2 c' hc'))]
        rfl
      · rw [e, if_pos ⟨by simp, fun h => hz ⟨by simpa using h.1, by simpa using h.2⟩, hall⟩]
        rfl
end K01

set_option Elab.async false
set_option linter.all false
set_option maxRecDepth 100000
set_option maxHeartbeats 4000000
namespace K01
open PySem MP
noncomputable abbrev ldB : FS := sIf (fIsB (fBin (inS true) (fVar 1) (fC (.str ("0123456789" : Str))))) (sRet (fC (.bl false))) (sSkip)
theorem ld_loop (st : S) (w : D) : ∀ (cs : List Nat) (x : Option D),
    ((∃ c ∈ cs, ¬ isDg c) ∧ sLoop (fun _ => true) (tgN 1) ldB (cs.map sg) [some w, x] st = .rt (.bl false) st) ∨
    ((∀ c ∈ cs, isDg c) ∧ ∃ x', sLoop (fun _ => true) (tgN 1) ldB (cs.map sg) [some w, x] st = .nx [some w, x'] st)
  | [], x => .inr ⟨fun _ h => (nomatch h), x, by simp [sLoop_nil]⟩
  | c :: cs, x => by
    have hm := mem_DG c
    by_cases h : isDg c
    · have st1 : ldB [some w, some (sg c)] st = .nx [some w, some (sg c)] st := by
        simp [ldB, hm.mpr h]
      have un : sLoop (fun _ => true) (tgN 1) ldB ((c :: cs).map sg) [some w, x] st = sLoop (fun _ => true) (tgN 1) ldB (cs.map sg) [some w, some (sg c)] st := by
        rw [List.map_cons]
        conv => lhs; unfold sLoop
        rw [if_pos rfl]
        show (match ldB [some w, some (sg c)] st with
          | .nx ρ2 st2 => sLoop (fun _ => true) (tgN 1) ldB (cs.map sg) ρ2 st2
          | .ct ρ2 st2 => sLoop (fun _ => true) (tgN 1) ldB (cs.map sg) ρ2 st2
          | .bk ρ2 st2 => .nx ρ2 st2
          | .rt d st2 => .rt d st2
          | .ex e ρ2 st2 => .ex e ρ2 st2
          | .bad => .bad) = _
        rw [st1]
      rw [un]
      rcases ld_loop st w cs (some (sg c)) with ⟨⟨c', hc, hn⟩, rest⟩ | ⟨hall, x', hx⟩
      · exact .inl ⟨⟨c', List.mem_cons_of_mem _ hc, hn⟩, rest⟩
      · exact .inr ⟨fun c' hc' => (List.mem_cons.mp hc').elim (fun e => e ▸ h) (hall c'), x', hx⟩
    · refine .inl ⟨⟨c, List.mem_cons_self .., h⟩, ?_⟩
      have st1 : ldB [some w, some (sg c)] st = .rt (.bl false) st := by
        have := mt hm.mp h
        simp [ldB, this]
      rw [List.map_cons]
      conv => lhs; unfold sLoop
      rw [if_pos rfl]
      show (match ldB [some w, some (sg c)] st with
          | .nx ρ2 st2 => sLoop (fun _ => true) (tgN 1) ldB (cs.map sg) ρ2 st2
          | .ct ρ2 st2 => sLoop (fun _ => true) (tgN 1) ldB (cs.map sg) ρ2 st2
          | .bk ρ2 st2 => .nx ρ2 st2
          | .rt d st2 => .rt d st2
          | .ex e ρ2 st2 => .ex e ρ2 st2
          | .bad => .bad) = _
      rw [st1]
end K01

set_option Elab.async false
set_option linter.all false
set_option maxRecDepth 100000
set_option maxHeartbeats 4000000
namespace K01
open PySem MP
theorem law_digits_ok (l : List Nat) (hl : l.length ≤ 1000) (st : S) : g__law_digits [.str (tx l)] st = .ok (.bl (decide (Dl l))) st := by
  have hsz : (tx l).length ≤ sizeLine := by rw [tx_len, sl_k]; omega
  have f1 : m__law_digits = sSeq (sIf (fOr (fIsB (fBin gEq (fVar 0) (fC (.str ("" : Str))))) (fAnd (fIsB (fBin gGt (fArgs gLen (fCons (fVar 0) (fNil))) (fC (.int 1)))) (fIsB (fBin gEq (fBin gIx (fVar 0) (fC (.int 0))) (fC (.str ("0" : Str))))))) (sRet (fC (.bl false))) (sSkip)) (sSeq (sFor (fVar 0) (tgN 1) ldB) (sRet (fC (.bl true)))) := rfl
  cases l with
  | nil =>
    have nd : ¬ Dl [] := fun h => h.1 rfl
    rw [decide_eq_false nd]
    simp [g__law_digits, arN, den_ap, m__law_digits, e_empty, tx_inj]
  | cons c cs =>
    have at0 : L2.atI (c :: cs) 0 = some c := by unfold L2.atI L2.ixN; simp
    have ne : (tx (c :: cs) = ("" : Str)) = False := by rw [e_empty, tx_inj]; simp
    have z1 : ((⟨#[c]⟩ : Str) = ("0" : Str)) = (c = 48) := by
      rw [e_zero]
      show (tx [c] = tx [48]) = _
      rw [tx_inj]
      simp
    have ln : (tx (c :: cs)).length = cs.length + 1 := tx_len _
    rw [ln] at hsz
    by_cases hz : c = 48 ∧ 0 < cs.length
    · obtain ⟨hc, hp⟩ := hz
      have hp1 : (1 : Int) < (cs.length : Int) + 1 := by omega
      have nd : ¬ Dl (c :: cs) := fun h => h.2.1 ⟨by rw [hc]; rfl, by simpa using hp⟩
      rw [decide_eq_false nd]
      subst hc
      have z2 : ((⟨#[48]⟩ : Str) = ("0" : Str)) = True := by rw [z1]; simp
      simp [g__law_digits, arN, den_ap, m__law_digits, ne, ln, hsz, at0, z2, hp1]
    · have e2 : sIf (fOr (fIsB (fBin gEq (fVar 0) (fC (.str ("" : Str))))) (fAnd (fIsB (fBin gGt (fArgs gLen (fCons (fVar 0) (fNil))) (fC (.int 1)))) (fIsB (fBin gEq (fBin gIx (fVar 0) (fC (.int 0))) (fC (.str ("0" : Str))))))) (sRet (fC (.bl false))) (sSkip) [some (.str (tx (c :: cs))), none] st = .nx [some (.str (tx (c :: cs))), none] st := by
        by_cases hp : 0 < cs.length
        · have hp1 : (1 : Int) < (cs.length : Int) + 1 := by omega
          have hc : ¬ c = 48 := fun h => hz ⟨h, hp⟩
          simp [ne, ln, hsz, at0, z1, hp1, hc]
        · have hp1 : ¬ (1 : Int) < (cs.length : Int) + 1 := by omega
          simp [ne, ln, hsz, at0, z1, hp1]
      unfold g__law_digits arN
      rw [if_pos (show [D.str (tx (c :: cs))].length = 1 from rfl), den_ap]
      show (m__law_digits [some (.str (tx (c :: cs))), none] st).out = _
      rw [f1, sSeq_ap, e2, then_nx, sSeq_ap]
      show ((sLoop (fun _ => true) (tgN 1) ldB ((c :: cs).map sg) [some (.str (tx (c :: cs))), none] st).then_ (sRet (fC (.bl true)))).out = _
      rcases ld_loop st (.str (tx (c :: cs))) (c :: cs) none with ⟨⟨c', hc', hn⟩, e⟩ | ⟨hall, x', e⟩
      · rw [e, decide_eq_false (fun h => hn (h.2.2 c' hc'))]
        rfl
      · rw [e, decide_eq_true (show Dl (c :: cs) from ⟨by simp, fun h => hz ⟨by simpa using h.1, by simpa using h.2⟩, hall⟩)]
        rfl
end K01

set_option Elab.async false
set_option linter.all false
set_option maxRecDepth 100000
set_option maxHeartbeats 4000000
namespace K01
open PySem MP
theorem int_word (l : List Nat) (h : Dl l) (hl : l.length ≤ 640) (st : S) : gIntS [.str (tx l)] st = some (.int ((NumText.digitsVal l : Nat) : Int), st) := by
  have e : PySem.intText? (tx l) = some ((NumText.digitsVal l : Nat) : Int) := intText_digits (x := tx l) h.2.2 h.1 (by rw [tx_len]; omega)
  unfold gIntS
  simp only [e]
  rw [if_pos (by rw [tx_len]; exact hl)]
theorem join_piece (y : Str) : ∀ (L : List Str) (p : Str), p ∈ L → p.length ≤ (Str.join y L).length
  | [], p, h => nomatch h
  | [x], p, h => by
    rw [List.mem_singleton.mp h]
    exact Nat.le_refl _
  | x :: z :: r, p, h => by
    show p.length ≤ (x ++ y ++ Str.join y (z :: r)).length
    rw [Str.length_append, Str.length_append]
    rcases List.mem_cons.mp h with e | e
    · rw [e]; omega
    · have := join_piece y (z :: r) p e
      omega
theorem split_piece (x y : Str) {p : Str} (h : p ∈ Txt.split x y) : p.length ≤ x.length := by
  have := join_piece y _ p h
  rw [StrLaws.join_split] at this
  exact this
theorem split_ne (x y : Str) : Txt.split x y ≠ [] := by
  unfold Txt.split
  split
  · simp
  · split
    · simp
    · rw [StrLaws.partsBetween_eq]
      obtain ⟨p, q, e⟩ := StrLaws.partsFrom_ne x y.length 0 (Builtin.Str.occurrences x y 0 x.length (x.length + 1))
      rw [e]
      simp
end K01

set_option Elab.async false
set_option linter.all false
set_option maxRecDepth 100000
set_option maxHeartbeats 4000000
namespace K01
open PySem MP
theorem e_minus : ("-" : Str) = tx [45] := by decide +kernel
theorem starts_nil : Txt.startswith (tx []) ("-" : Str) = false := by rw [e_minus]; rfl
theorem starts_cons (c : Nat) (cs : List Nat) : Txt.startswith (tx (c :: cs)) ("-" : Str) = decide (c = 45) := by
  rw [e_minus]
  unfold Txt.startswith Builtin.Str.subAt
  simp [Str.length]
  rw [Bool.eq_iff_iff]
  simp
theorem cut_tail (c : Nat) (cs : List Nat) : L2.cutS (tx (c :: cs)) (some 1) none = tx cs := by
  unfold L2.cutS
  simp [Str.length, HT.sIx]
theorem cut_head (c : Nat) (cs : List Nat) : L2.cutS (tx (c :: cs)) none (some 1) = tx [c] := by
  unfold L2.cutS
  simp [Str.length, HT.sIx]
end K01

set_option Elab.async false
set_option linter.all false
set_option maxRecDepth 100000
set_option maxHeartbeats 4000000
namespace K01
open PySem MP

noncomputable def pTail : FS := sSeq (sIf (fIsB (fBin gGt (fArgs gLen (fCons (fVar 3) (fNil))) (fC (.int 2)))) (sRaise ("BadText" : Str) [("text" : Str)] (fCons (fVar 0) (fNil))) (sSkip))
  (sSeq (sSet 4 (fCall g__digits_value (fCons (fBin gIx (fVar 3) (fC (.int 0))) (fNil))))
  (sSeq (sSet 5 (fC (.int 1)))
  (sSeq (sIf (fIsB (fBin gEq (fArgs gLen (fCons (fVar 3) (fNil))) (fC (.int 2)))) (sSet 5 (fCall g__digits_value (fCons (fBin gIx (fVar 3) (fC (.int 1))) (fNil)))) (sSkip))
  (sSeq (sIf (fOr (fIsB (fBin gIs (fVar 4) (fC .non))) (fIsB (fBin gIs (fVar 5) (fC .non)))) (sRaise ("BadText" : Str) [("text" : Str)] (fCons (fVar 0) (fNil))) (sSkip))
  (sSeq (sIf (fAnd (fTru (fVar 1)) (fIsB (fBin gEq (fVar 4) (fC (.int 0))))) (sRaise ("BadText" : Str) [("text" : Str)] (fCons (fVar 0) (fNil))) (sSkip))
  (sSeq (sIf (fAnd (fIsB (fBin gEq (fArgs gLen (fCons (fVar 3) (fNil))) (fC (.int 2)))) (fIsB (fBin gEq (fVar 5) (fC (.int 1))))) (sRaise ("BadText" : Str) [("text" : Str)] (fCons (fVar 0) (fNil))) (sSkip))
  (sSeq (sSet 6 (fIf (fTru (fVar 1)) (fTup (fCons (fUn gNeg (fVar 4)) (fCons (fVar 5) (fNil)))) (fTup (fCons (fVar 4) (fCons (fVar 5) (fNil))))))
  (sSeq (sIf (fNot (fTru (fCall g_is_number (fCons (fVar 6) (fNil))))) (sRaise ("BadText" : Str) [("text" : Str)] (fCons (fVar 0) (fNil))) (sSkip))
  (sRet (fVar 6))))))))))
noncomputable def rTail : FS := sSeq (sIf (fOr (fIsB (fBin gGt (fArgs gLen (fCons (fVar 2) (fNil))) (fC (.int 2)))) (fNot (fTru (fCall g__law_digits (fCons (fBin gIx (fVar 2) (fC (.int 0))) (fNil)))))) (sRet (fC .non)) (sSkip))
  (sSeq (sSet 3 (fArgs gIntS (fCons (fBin gIx (fVar 2) (fC (.int 0))) (fNil))))
  (sSeq (sIf (fIsB (fBin gNe (fVar 1) (fVar 0))) (sSeq (sIf (fIsB (fBin gEq (fVar 3) (fC (.int 0)))) (sRet (fC .non)) (sSkip))
  (sSet 3 (fUn gNeg (fVar 3)))) (sSkip))
  (sSeq (sIf (fIsB (fBin gEq (fArgs gLen (fCons (fVar 2) (fNil))) (fC (.int 1)))) (sRet (fTup (fCons (fVar 3) (fCons (fC (.int 1)) (fNil))))) (sSkip))
  (sSeq (sIf (fNot (fTru (fCall g__law_digits (fCons (fBin gIx (fVar 2) (fC (.int 1))) (fNil))))) (sRet (fC .non)) (sSkip))
  (sSeq (sSet 4 (fArgs gIntS (fCons (fBin gIx (fVar 2) (fC (.int 1))) (fNil))))
  (sSeq (sIf (fOr (fIsB (fBin gLt (fVar 4) (fC (.int 2)))) (fIsB (fBin gNe (fCall g__law_divisor (fCons (fArgs gAbs (fCons (fVar 3) (fNil))) (fCons (fVar 4) (fNil)))) (fC (.int 1))))) (sRet (fC .non)) (sSkip))
  (sRet (fTup (fCons (fVar 3) (fCons (fVar 4) (fNil)))))))))))
abbrev dv (l : List Nat) : Nat := NumText.digitsVal l
def sgn (ng : Bool) (v : Nat) : Int := if ng = true then -(v : Int) else v
/-- what the text of a number says: the pieces of the split, the sign ahead -/
noncomputable def rdv (ng : Bool) : List (List Nat) → Option (Int × Int)
  | [a] => if Dl a ∧ ¬ (ng = true ∧ dv a = 0) then some (sgn ng (dv a), 1) else none
  | [a, b] => if (Dl a ∧ ¬ (ng = true ∧ dv a = 0)) ∧ Dl b ∧ 2 ≤ dv b ∧ Nat.gcd (dv a) (dv b) = 1 then some (sgn ng (dv a), (dv b : Int)) else none
  | _ => none
abbrev BT : Str := "BadText"
def pAns (w : Str) (st : S) : Option (Int × Int) → Out D
  | some (p, q) => .ok (fr p q) st
  | none => .exc ⟨BT, st.length⟩ (st ++ [.xd [(("text" : Str), .str w)]])
def rAns (st : S) : Option (Int × Int) → Out D
  | some (p, q) => .ok (fr p q) st
  | none => .ok .non st
abbrev sd (l : List Nat) : D := .str (tx l)
theorem gi_sgn (ng : Bool) (v : Nat) (b : Int) : gi (sgn ng v) b = ((Nat.gcd v b.natAbs : Nat) : Int) := by
  unfold gi sgn
  cases ng <;> simp
theorem pTail_1 {w : Str} {ng : Bool} {u : D} {k : Nat} {st : S} {a : List Nat} (hk : lstAt st k = some [sd a]) (ha : a.length ≤ 1000) :
    (pTail [some (.str w), some (.bl ng), some u, some (.loc k), none, none, none] st).out = pAns w st (rdv ng [a]) := by
  have e1 := digits_value_ok a ha st
  by_cases ca : Dl a
  · rw [if_pos ca] at e1
    cases ng with
    | false =>
      have r : rdv false [a] = some (((dv a : Nat) : Int), 1) := if_pos ⟨ca, fun h => by cases h.1⟩
      have z := is_number_ok (p := ((dv a : Nat) : Int)) (q := 1) st
      rw [show gi ((dv a : Nat) : Int) 1 = 1 from by unfold gi; simp] at z
      rw [r]
      simp at z
      simp [pTail, gLen_loc _ hk, gIx_loc _ _ hk, e1, z, pAns]
    | true =>
      by_cases c0 : dv a = 0
      · have r : rdv true [a] = none := if_neg fun h => h.2 ⟨rfl, c0⟩
        rw [r]
        simp [pTail, gLen_loc _ hk, gIx_loc _ _ hk, e1, c0, pAns]
      · have r : rdv true [a] = some (-((dv a : Nat) : Int), 1) := if_pos ⟨ca, fun h => c0 h.2⟩
        have z := is_number_ok (p := -((dv a : Nat) : Int)) (q := 1) st
        rw [show gi (-((dv a : Nat) : Int)) 1 = 1 from by unfold gi; simp] at z
        rw [r]
        simp at z
        simp [pTail, gLen_loc _ hk, gIx_loc _ _ hk, e1, c0, z, pAns]
  · rw [if_neg ca] at e1
    have r : rdv ng [a] = none := if_neg fun h => ca h.1
    rw [r]
    simp [pTail, gLen_loc _ hk, gIx_loc _ _ hk, e1, pAns]
theorem pTail_2 {w : Str} {ng : Bool} {u : D} {k : Nat} {st : S} {a b : List Nat} (hk : lstAt st k = some [sd a, sd b]) (ha : a.length ≤ 1000) (hb : b.length ≤ 1000) :
    (pTail [some (.str w), some (.bl ng), some u, some (.loc k), none, none, none] st).out = pAns w st (rdv ng [a, b]) := by
  have e1 := digits_value_ok a ha st
  have e2 := digits_value_ok b hb st
  by_cases ca : Dl a
  · rw [if_pos ca] at e1
    by_cases cb : Dl b
    · rw [if_pos cb] at e2
      by_cases c0 : ng = true ∧ dv a = 0
      · obtain ⟨rfl, c0⟩ := c0
        have r : rdv true [a, b] = none := if_neg fun h => h.1.2 ⟨rfl, c0⟩
        rw [r]
        simp [pTail, gLen_loc _ hk, gIx_loc _ _ hk, e1, e2, c0, pAns]
      · by_cases c1 : dv b = 1
        · have r : rdv ng [a, b] = none := if_neg fun h => by have := h.2.2.1; omega
          rw [r]
          cases ng with
          | false => simp [pTail, gLen_loc _ hk, gIx_loc _ _ hk, e1, e2, c1, pAns]
          | true =>
            have c0' : ¬ dv a = 0 := fun h => c0 ⟨rfl, h⟩
            simp [pTail, gLen_loc _ hk, gIx_loc _ _ hk, e1, e2, c1, c0', pAns]
        · have c1' : ¬ ((dv b : Nat) : Int) = 1 := by omega
          have z := is_number_ok (p := sgn ng (dv a)) (q := ((dv b : Nat) : Int)) st
          rw [gi_sgn] at z
          have r : rdv ng [a, b] = if decide (1 ≤ ((dv b : Nat) : Int)) && decide (((Nat.gcd (dv a) ((dv b : Nat) : Int).natAbs : Nat) : Int) = 1) then some (sgn ng (dv a), (dv b : Int)) else none := by
            show (if (Dl a ∧ ¬ (ng = true ∧ dv a = 0)) ∧ Dl b ∧ 2 ≤ dv b ∧ Nat.gcd (dv a) (dv b) = 1 then _ else _) = _
            have : ((Dl a ∧ ¬ (ng = true ∧ dv a = 0)) ∧ Dl b ∧ 2 ≤ dv b ∧ Nat.gcd (dv a) (dv b) = 1) ↔ (decide (1 ≤ ((dv b : Nat) : Int)) && decide (((Nat.gcd (dv a) ((dv b : Nat) : Int).natAbs : Nat) : Int) = 1)) = true := by
              rw [Bool.and_eq_true, decide_eq_true_iff, decide_eq_true_iff, Int.natAbs_natCast]
              constructor
              · intro h
                have := h.2.2.1
                have := h.2.2.2
                omega
              · intro h
                refine ⟨⟨ca, c0⟩, cb, ?_, ?_⟩ <;> omega
            simp only [this]
          rw [r]
          generalize (decide (1 ≤ ((dv b : Nat) : Int)) && decide (((Nat.gcd (dv a) ((dv b : Nat) : Int).natAbs : Nat) : Int) = 1)) = B at z ⊢
          cases ng with
          | false =>
            simp only [sgn, Bool.false_eq_true, if_false] at z ⊢
            cases B <;> simp [pTail, gLen_loc _ hk, gIx_loc _ _ hk, e1, e2, c1, c1', z, pAns]
          | true =>
            have c0' : ¬ dv a = 0 := fun h => c0 ⟨rfl, h⟩
            simp only [sgn, if_true] at z ⊢
            cases B <;> simp [pTail, gLen_loc _ hk, gIx_loc _ _ hk, e1, e2, c1, c1', c0', z, pAns]
    · rw [if_neg cb] at e2
      have r : rdv ng [a, b] = none := if_neg fun h => cb h.2.1
      rw [r]
      simp [pTail, gLen_loc _ hk, gIx_loc _ _ hk, e1, e2, pAns]
  · rw [if_neg ca] at e1
    have r : rdv ng [a, b] = none := if_neg fun h => ca h.1.1
    rw [r]
    by_cases cb : Dl b
    · rw [if_pos cb] at e2
      simp [pTail, gLen_loc _ hk, gIx_loc _ _ hk, e1, e2, pAns]
    · rw [if_neg cb] at e2
      simp [pTail, gLen_loc _ hk, gIx_loc _ _ hk, e1, e2, pAns]
theorem pTail_3 {w : Str} {ng : Bool} {u : D} {k : Nat} {st : S} {a b c : List Nat} {r : List (List Nat)} (hk : lstAt st k = some (sd a :: sd b :: sd c :: r.map sd)) :
    (pTail [some (.str w), some (.bl ng), some u, some (.loc k), none, none, none] st).out = pAns w st (rdv ng (a :: b :: c :: r)) := by
  have h : (2 : Int) < (r.length : Int) + 1 + 1 + 1 := by omega
  have e : rdv ng (a :: b :: c :: r) = none := rfl
  rw [e]
  simp [pTail, gLen_loc _ hk, h, pAns]
end K01

set_option Elab.async false
set_option linter.all false
set_option maxRecDepth 100000
set_option maxHeartbeats 4000000
namespace K01
open PySem MP
theorem dv_lt' : ∀ (l : List Nat) (v : Nat), (∀ c ∈ l, isDg c) → l.foldl (fun acc c => acc * 10 + (c - 48)) v + 1 ≤ (v + 1) * 10 ^ l.length
  | [], v, _ => by simp
  | c :: cs, v, h => by
    have h1 := h c (List.mem_cons_self ..)
    have z := dv_lt' cs (v * 10 + (c - 48)) (fun c' hc' => h c' (List.mem_cons_of_mem _ hc'))
    unfold isDg at h1
    rw [List.foldl_cons, List.length_cons, Nat.pow_succ]
    have e : (v + 1) * (10 ^ cs.length * 10) = ((v + 1) * 10) * 10 ^ cs.length := by rw [Nat.mul_comm (10 ^ cs.length) 10, ← Nat.mul_assoc]
    rw [e]
    exact Nat.le_trans z (Nat.mul_le_mul_right _ (by omega))
theorem dv_lt {l : List Nat} (h : ∀ c ∈ l, isDg c) : dv l < 10 ^ l.length := by
  have z := dv_lt' l 0 h
  rw [Nat.zero_add, Nat.one_mul] at z
  exact z
theorem dv_280 {l : List Nat} (h : ∀ c ∈ l, isDg c) (hl : l.length ≤ 250) : dv l < (10 ^ 40) ^ 7 := by
  refine Nat.lt_of_lt_of_le (dv_lt h) ?_
  rw [← Nat.pow_mul]
  exact Nat.pow_le_pow_right (by decide) (by omega)
theorem abs_sgn (ng : Bool) (v : Nat) : absI (sgn ng v) = (v : Int) := by
  unfold absI sgn
  cases ng <;> simp
theorem rTail_1 {w u : Str} {ng : Bool} {k : Nat} {st : S} {a : List Nat} (hu : decide (u = w) = !ng) (hk : lstAt st k = some [sd a]) (ha : a.length ≤ 250) :
    (rTail [some (.str w), some (.str u), some (.loc k), none, none] st).out = rAns st (rdv ng [a]) := by
  have e1 := law_digits_ok a (by omega) st
  by_cases ca : Dl a
  · rw [decide_eq_true ca] at e1
    have e3 := int_word a ca (by omega) st
    cases ng with
    | false =>
      have r : rdv false [a] = some (((dv a : Nat) : Int), 1) := if_pos ⟨ca, fun h => by cases h.1⟩
      rw [r]
      simp at hu
      simp [rTail, gLen_loc _ hk, gIx_loc _ _ hk, e1, e3, hu, rAns]
    | true =>
      simp at hu
      by_cases c0 : dv a = 0
      · have r : rdv true [a] = none := if_neg fun h => h.2 ⟨rfl, c0⟩
        rw [r]
        simp [rTail, gLen_loc _ hk, gIx_loc _ _ hk, e1, e3, hu, c0, rAns]
      · have r : rdv true [a] = some (-((dv a : Nat) : Int), 1) := if_pos ⟨ca, fun h => c0 h.2⟩
        rw [r]
        simp [rTail, gLen_loc _ hk, gIx_loc _ _ hk, e1, e3, hu, c0, rAns]
  · rw [decide_eq_false ca] at e1
    have r : rdv ng [a] = none := if_neg fun h => ca h.1
    rw [r]
    simp [rTail, gLen_loc _ hk, gIx_loc _ _ hk, e1, rAns]
theorem rTail_2 {w u : Str} {ng : Bool} {k : Nat} {st : S} {a b : List Nat} (hu : decide (u = w) = !ng) (hk : lstAt st k = some [sd a, sd b]) (ha : a.length ≤ 250) (hb : b.length ≤ 250) :
    (rTail [some (.str w), some (.str u), some (.loc k), none, none] st).out = rAns st (rdv ng [a, b]) := by
  have e1 := law_digits_ok a (by omega) st
  have e2 := law_digits_ok b (by omega) st
  by_cases ca : Dl a
  · rw [decide_eq_true ca] at e1
    have e3 := int_word a ca (by omega) st
    by_cases c0 : ng = true ∧ dv a = 0
    · obtain ⟨rfl, c0⟩ := c0
      simp at hu
      have r : rdv true [a, b] = none := if_neg fun h => h.1.2 ⟨rfl, c0⟩
      rw [r]
      simp [rTail, gLen_loc _ hk, gIx_loc _ _ hk, e1, e2, e3, hu, c0, rAns]
    · by_cases cb : Dl b
      · rw [decide_eq_true cb] at e2
        have e4 := int_word b cb (by omega) st
        by_cases c2 : dv b < 2
        · have r : rdv ng [a, b] = none := if_neg fun h => by have := h.2.2.1; omega
          have c2' : ((dv b : Nat) : Int) < 2 := by omega
          rw [r]
          cases ng with
          | false =>
            simp at hu
            simp [rTail, gLen_loc _ hk, gIx_loc _ _ hk, e1, e2, e3, e4, hu, c2', rAns]
          | true =>
            simp at hu
            have c0' : ¬ dv a = 0 := fun h => c0 ⟨rfl, h⟩
            simp [rTail, gLen_loc _ hk, gIx_loc _ _ hk, e1, e2, e3, e4, hu, c2', c0', rAns]
        · have c2' : ¬ ((dv b : Nat) : Int) < 2 := by omega
          have z := divisor_ok (a := dv a) (b := dv b) (by omega) (dv_280 cb.2.2 hb) st
          have ab := abs_sgn ng (dv a)
          by_cases cg : Nat.gcd (dv a) (dv b) = 1
          · have r : rdv ng [a, b] = some (sgn ng (dv a), (dv b : Int)) := if_pos ⟨⟨ca, c0⟩, cb, by omega, cg⟩
            rw [r]
            cases ng with
            | false =>
              simp at hu
              simp only [sgn, Bool.false_eq_true, if_false] at ab ⊢
              simp [rTail, gLen_loc _ hk, gIx_loc _ _ hk, e1, e2, e3, e4, hu, c2', ab, z, cg, rAns]
            | true =>
              simp at hu
              have c0' : ¬ dv a = 0 := fun h => c0 ⟨rfl, h⟩
              simp only [sgn, if_true] at ab ⊢
              simp [rTail, gLen_loc _ hk, gIx_loc _ _ hk, e1, e2, e3, e4, hu, c2', c0', ab, z, cg, rAns]
          · have r : rdv ng [a, b] = none := if_neg fun h => cg h.2.2.2
            rw [r]
            have cg' : ¬ ((Nat.gcd (dv a) (dv b) : Nat) : Int) = 1 := by omega
            cases ng with
            | false =>
              simp at hu
              simp only [sgn, Bool.false_eq_true, if_false] at ab
              simp [rTail, gLen_loc _ hk, gIx_loc _ _ hk, e1, e2, e3, e4, hu, c2', ab, z, cg, cg', rAns]
            | true =>
              simp at hu
              have c0' : ¬ dv a = 0 := fun h => c0 ⟨rfl, h⟩
              simp only [sgn, if_true] at ab
              simp [rTail, gLen_loc _ hk, gIx_loc _ _ hk, e1, e2, e3, e4, hu, c2', c0', ab, z, cg, cg', rAns]
      · rw [decide_eq_false cb] at e2
        have r : rdv ng [a, b] = none := if_neg fun h => cb h.2.1
        rw [r]
        cases ng with
        | false =>
          simp at hu
          simp [rTail, gLen_loc _ hk, gIx_loc _ _ hk, e1, e2, e3, hu, rAns]
        | true =>
          simp at hu
          have c0' : ¬ dv a = 0 := fun h => c0 ⟨rfl, h⟩
          simp [rTail, gLen_loc _ hk, gIx_loc _ _ hk, e1, e2, e3, hu, c0', rAns]
  · rw [decide_eq_false ca] at e1
    have r : rdv ng [a, b] = none := if_neg fun h => ca h.1.1
    rw [r]
    simp [rTail, gLen_loc _ hk, gIx_loc _ _ hk, e1, rAns]
theorem rTail_3 {w u : Str} {ng : Bool} {k : Nat} {st : S} {a b c : List Nat} {r : List (List Nat)} (hk : lstAt st k = some (sd a :: sd b :: sd c :: r.map sd)) :
    (rTail [some (.str w), some (.str u), some (.loc k), none, none] st).out = rAns st (rdv ng (a :: b :: c :: r)) := by
  have h : (2 : Int) < (r.length : Int) + 1 + 1 + 1 := by omega
  have e : rdv ng (a :: b :: c :: r) = none := rfl
  rw [e]
  simp [rTail, gLen_loc _ hk, h, rAns]
end K01

set_option Elab.async false
set_option linter.all false
set_option maxRecDepth 100000
set_option maxHeartbeats 4000000
namespace K01
open PySem MP
def ngl : List Nat → Bool
  | [] => false
  | c :: _ => decide (c = 45)
def rst : List Nat → List Nat
  | [] => []
  | c :: cs => if c = 45 then cs else c :: cs
abbrev SL : Str := "/"
/-- the pieces as lists of codes -/
def pcs (l : List Nat) : List (List Nat) := (Txt.split (tx (rst l)) SL).map fun x => x.cps.toList
theorem tx_cps (x : Str) : tx x.cps.toList = x := rfl
theorem pcs_map (l : List Nat) : (pcs l).map sd = (Txt.split (tx (rst l)) SL).map D.str := by
  unfold pcs
  rw [List.map_map]
  rfl
theorem rst_cons (c : Nat) (cs : List Nat) : rst (c :: cs) = if c = 45 then cs else c :: cs := rfl
theorem rst_len (l : List Nat) : (rst l).length ≤ l.length := by
  cases l with
  | nil => exact Nat.le_refl _
  | cons c cs =>
    rw [rst_cons]
    split <;> simp
theorem pcs_len {l p : List Nat} (h : p ∈ pcs l) : p.length ≤ l.length := by
  unfold pcs at h
  obtain ⟨x, hx, rfl⟩ := List.mem_map.mp h
  have z := split_piece _ _ hx
  rw [tx_len] at z
  have e : x.cps.toList.length = x.length := by simp [Str.length]
  have := rst_len l
  rw [e]
  exact Nat.le_trans z this
theorem pcs_ne (l : List Nat) : pcs l ≠ [] := by
  unfold pcs
  intro h
  exact split_ne _ _ (List.map_eq_nil_iff.mp h)
noncomputable def rdl (l : List Nat) : Option (Int × Int) := rdv (ngl l) (pcs l)
theorem starts_ok (l : List Nat) : Txt.startswith (tx l) ("-" : Str) = ngl l := by
  cases l with
  | nil => exact starts_nil
  | cons c cs => exact starts_cons c cs
theorem sl_len : ((SL.length == 0) = false) := by decide +kernel
theorem m_parse : m_parse_number = sSeq (sSet 1 (fM1 gStarts (fVar 0) (fC (.str ("-" : Str)))))
  (sSeq (sSet 2 (fIf (fTru (fVar 1)) (fSl gSl (fVar 0) (fPart (fC (.int 1))) (fNo)) (fVar 0)))
  (sSeq (sSet 3 (fM1 gSplit (fVar 2) (fC (.str ("/" : Str))))) pTail)) := rfl
theorem m_read : m__law_read = sSeq (sSet 1 (fVar 0))
  (sSeq (sIf (fIsB (fBin gEq (fSl gSl (fVar 0) (fNo) (fPart (fC (.int 1)))) (fC (.str ("-" : Str))))) (sSet 1 (fSl gSl (fVar 0) (fPart (fC (.int 1))) (fNo))) (sSkip))
  (sSeq (sSet 2 (fM1 gSplit (fVar 1) (fC (.str ("/" : Str))))) rTail)) := rfl
theorem cut_all (l : List Nat) (h : ngl l = true) : L2.cutS (tx l) (some 1) none = tx (rst l) := by
  cases l with
  | nil => cases h
  | cons c cs =>
    have hc : c = 45 := of_decide_eq_true h
    rw [cut_tail]
    rw [rst_cons, if_pos hc]
theorem rst_pos (l : List Nat) (h : ngl l = false) : rst l = l := by
  cases l with
  | nil => rfl
  | cons c cs =>
    have hc : ¬ c = 45 := of_decide_eq_false h
    rw [rst_cons, if_neg hc]
theorem rst_ne (l : List Nat) : decide (tx (rst l) = tx l) = !ngl l := by
  cases h : ngl l with
  | false => rw [rst_pos l h]; simp
  | true =>
    cases l with
    | nil => cases h
    | cons c cs =>
      have hc : c = 45 := of_decide_eq_true h
      rw [rst_cons, if_pos hc]
      refine decide_eq_false fun e => ?_
      have := congrArg List.length (tx_inj.mp e)
      simp at this
theorem cut_first (l : List Nat) : decide (L2.cutS (tx l) none (some 1) = ("-" : Str)) = ngl l := by
  cases l with
  | nil => rw [e_minus]; decide +kernel
  | cons c cs =>
    rw [cut_head, e_minus]
    unfold ngl
    rw [decide_eq_decide, tx_inj]
    simp
abbrev spl (l : List Nat) : Ob := .lst ((Txt.split (tx (rst l)) SL).map D.str)
theorem split_ap (l : List Nat) (hl : l.length ≤ 250) (st : S) : gSplit (.str (tx (rst l))) (.str SL) st = some (.loc st.length, st ++ [spl l]) := by
  rw [gSplit_str, if_pos ⟨sl_len, by
    rw [tx_len, sl_k]
    have := rst_len l
    omega⟩]
theorem lst_spl (l : List Nat) (st : S) : lstAt (st ++ [spl l]) st.length = some ((pcs l).map sd) := by
  rw [pcs_map]
  exact lstAt_lst app_new
theorem parse_ok (l : List Nat) (hl : l.length ≤ 250) (st : S) : g_parse_number [sd l] st = pAns (tx l) (st ++ [spl l]) (rdl l) := by
  have hz : (tx l).length ≤ sizeLine := by rw [tx_len, sl_k]; omega
  have e1 := split_ap l hl st
  have hk := lst_spl l st
  have st' := starts_ok l
  unfold g_parse_number arN
  rw [if_pos (show [sd l].length = 1 from rfl), den_ap, m_parse]
  show (sSeq _ _ [some (sd l), none, none, none, none, none, none] st).out = _
  have big : (pTail [some (sd l), some (.bl (ngl l)), some (sd (rst l)), some (.loc st.length), none, none, none] (st ++ [spl l])).out = pAns (tx l) (st ++ [spl l]) (rdl l) := by
    have hp : ∀ p ∈ pcs l, p.length ≤ 250 := fun p h => Nat.le_trans (pcs_len h) hl
    unfold rdl
    match hq : pcs l, pcs_ne l with
    | [a], _ =>
      rw [hq] at hk hp
      exact pTail_1 hk (Nat.le_trans (hp a (by simp)) (by decide))
    | [a, b], _ =>
      rw [hq] at hk hp
      exact pTail_2 hk (Nat.le_trans (hp a (by simp)) (by decide)) (Nat.le_trans (hp b (by simp)) (by decide))
    | a :: b :: c :: r, _ =>
      rw [hq] at hk
      exact pTail_3 hk
  rw [← big]
  cases hn : ngl l with
  | false =>
    have er := rst_pos l hn
    rw [er] at e1 ⊢
    simp [st', hn, e1]
  | true =>
    have ec := cut_all l hn
    simp [st', hn, e1, hz, ec]
theorem read_ok (l : List Nat) (hl : l.length ≤ 250) (st : S) : g__law_read [sd l] st = rAns (st ++ [spl l]) (rdl l) := by
  have hz : (tx l).length ≤ sizeLine := by rw [tx_len, sl_k]; omega
  have e1 := split_ap l hl st
  have hk := lst_spl l st
  have cf := cut_first l
  unfold g__law_read arN
  rw [if_pos (show [sd l].length = 1 from rfl), den_ap, m_read]
  show (sSeq _ _ [some (sd l), none, none, none, none] st).out = _
  have big : (rTail [some (sd l), some (sd (rst l)), some (.loc st.length), none, none] (st ++ [spl l])).out = rAns (st ++ [spl l]) (rdl l) := by
    have hp : ∀ p ∈ pcs l, p.length ≤ 250 := fun p h => Nat.le_trans (pcs_len h) hl
    unfold rdl
    match hq : pcs l, pcs_ne l with
    | [a], _ =>
      rw [hq] at hk hp
      exact rTail_1 (rst_ne l) hk (hp a (by simp))
    | [a, b], _ =>
      rw [hq] at hk hp
      exact rTail_2 (rst_ne l) hk (hp a (by simp)) (hp b (by simp))
    | a :: b :: c :: r, _ =>
      rw [hq] at hk
      exact rTail_3 hk
  rw [← big]
  cases hn : ngl l with
  | false =>
    have er := rst_pos l hn
    rw [hn] at cf
    rw [er] at e1 ⊢
    simp at cf
    simp [cf, e1, hz]
  | true =>
    have ec := cut_all l hn
    rw [hn] at cf
    simp at cf
    simp [cf, e1, hz, ec]
end K01

set_option Elab.async false
set_option linter.all false
set_option maxRecDepth 100000
set_option maxHeartbeats 4000000
namespace K01
open PySem MP
theorem l1 : tx_BadText.lookup BT = some true := by decide +kernel
theorem l2 : tx_FitError.lookup BT = some true := by decide +kernel
theorem l3 : ti_BadText.lookup BT = some true := by decide +kernel
theorem l4 : ti_BadSpan.lookup BT = some false := by decide +kernel
theorem l5 : ti_BadForm.lookup BT = some false := by decide +kernel
theorem l6 : ti_BadPlace.lookup BT = some false := by decide +kernel
theorem l7 : ti_BadNumber.lookup BT = some false := by decide +kernel
theorem l8 : ti_ValueError.lookup BT = some true := by decide +kernel
theorem l9 : ti_FitError.lookup BT = some true := by decide +kernel
theorem l10 : BT ∈ cs_text := by decide +kernel
theorem l11 (d : D) : [(("text" : Str), d)].lookup ("text" : Str) = some d := by simp
theorem refused_ok (l : List Nat) (hl : l.length ≤ 250) (hn : rdl l = none) (st : S) : ∃ os, g__law_refused [sd l] st = .ok (.bl true) (st ++ os) := by
  have z := parse_ok l hl st
  rw [hn] at z
  generalize hs : st ++ [spl l] = s1 at z
  have e : (sExpr (fCall g_parse_number (fCons (fVar 0) (fNil)))) [some (sd l), none] st = .ex ⟨BT, s1.length⟩ [some (sd l), none] (s1 ++ [.xd [(("text" : Str), sd l)]]) := by
    simp [z, pAns]
  have hx : (s1 ++ [Ob.xd [(("text" : Str), sd l)]] ++ [Ob.nu])[s1.length]? = some (.xd [(("text" : Str), sd l)]) := app_old app_new
  have x1 := kIsX_ok (k := (s1 ++ [Ob.xd [(("text" : Str), sd l)]]).length) hx l7
  have x2 := kIsX_ok (k := (s1 ++ [Ob.xd [(("text" : Str), sd l)]]).length) hx l4
  have x3 := kIsX_ok (k := (s1 ++ [Ob.xd [(("text" : Str), sd l)]]).length) hx l5
  have x4 := kIsX_ok (k := (s1 ++ [Ob.xd [(("text" : Str), sd l)]]).length) hx l6
  have x5 := kIsX_ok (k := (s1 ++ [Ob.xd [(("text" : Str), sd l)]]).length) hx l9
  have x6 := kIsX_ok (k := (s1 ++ [Ob.xd [(("text" : Str), sd l)]]).length) hx l8
  have x7 := kXf_ok (k := (s1 ++ [Ob.xd [(("text" : Str), sd l)]]).length) hx l10 (l11 _)
  refine ⟨[spl l] ++ [Ob.xd [(("text" : Str), sd l)]] ++ [Ob.nu], ?_⟩
  rw [← List.append_assoc, ← List.append_assoc, hs]
  unfold g__law_refused arN
  rw [if_pos (show [sd l].length = 1 from rfl), den_ap]
  show ((sSeq _ _ [some (sd l), none] st).out) = _
  rw [sSeq_ap, sTryAs_ex e l1]
  generalize (s1 ++ [Ob.xd [(("text" : Str), sd l)]]).length = k at x1 x2 x3 x4 x5 x6 x7 ⊢
  generalize s1 ++ [Ob.xd [(("text" : Str), sd l)]] ++ [Ob.nu] = s2 at x1 x2 x3 x4 x5 x6 x7 ⊢
  simp [x1, x2, x3, x4, x5, x6, x7, gIsi, isiT, tyD]
theorem refused_by_base_ok (l : List Nat) (hl : l.length ≤ 250) (hn : rdl l = none) (st : S) : ∃ os, g__law_refused_by_base [sd l] st = .ok (.bl true) (st ++ os) := by
  have z := parse_ok l hl st
  rw [hn] at z
  generalize hs : st ++ [spl l] = s1 at z
  have e : (sExpr (fCall g_parse_number (fCons (fVar 0) (fNil)))) [some (sd l), none] st = .ex ⟨BT, s1.length⟩ [some (sd l), none] (s1 ++ [.xd [(("text" : Str), sd l)]]) := by
    simp [z, pAns]
  have hx : (s1 ++ [Ob.xd [(("text" : Str), sd l)]] ++ [Ob.nu])[s1.length]? = some (.xd [(("text" : Str), sd l)]) := app_old app_new
  have x5 := kIsX_ok (k := (s1 ++ [Ob.xd [(("text" : Str), sd l)]]).length) hx l3
  have x6 := kIsX_ok (k := (s1 ++ [Ob.xd [(("text" : Str), sd l)]]).length) hx l8
  have x7 := kXf_ok (k := (s1 ++ [Ob.xd [(("text" : Str), sd l)]]).length) hx l10 (l11 _)
  refine ⟨[spl l] ++ [Ob.xd [(("text" : Str), sd l)]] ++ [Ob.nu], ?_⟩
  rw [← List.append_assoc, ← List.append_assoc, hs]
  unfold g__law_refused_by_base arN
  rw [if_pos (show [sd l].length = 1 from rfl), den_ap]
  show ((sSeq _ _ [some (sd l), none] st).out) = _
  rw [sSeq_ap, sTryAs_ex e l2]
  generalize (s1 ++ [Ob.xd [(("text" : Str), sd l)]]).length = k at x5 x6 x7 ⊢
  generalize s1 ++ [Ob.xd [(("text" : Str), sd l)]] ++ [Ob.nu] = s2 at x5 x6 x7 ⊢
  simp [x5, x6, x7]
theorem text_right_ok (l : List Nat) (hl : l.length ≤ 250) (st : S) : ∃ os, g__law_text_right [sd l] st = .ok (.bl true) (st ++ os) := by
  have z := read_ok l hl st
  cases h : rdl l with
  | none =>
    rw [h] at z
    obtain ⟨os, e⟩ := refused_ok l hl h (st ++ [spl l])
    refine ⟨[spl l] ++ os, ?_⟩
    rw [← List.append_assoc]
    simp [g__law_text_right, arN, den_ap, m__law_text_right, z, rAns] at e ⊢
    simp [e]
  | some x =>
    obtain ⟨p, q⟩ := x
    rw [h] at z
    have z2 := parse_ok l hl (st ++ [spl l])
    rw [h] at z2
    have i := is_ok (p := p) (q := q) (r := p) (s := q) (st ++ [spl l] ++ [spl l])
    refine ⟨[spl l] ++ [spl l], ?_⟩
    rw [← List.append_assoc]
    simp [g__law_text_right, arN, den_ap, m__law_text_right, z, z2, i, rAns, pAns] at z z2 i ⊢
    simp [z, z2, i, rAns, pAns]
end K01

set_option Elab.async false
set_option linter.all false
set_option maxRecDepth 100000
set_option maxHeartbeats 4000000
namespace K01
open PySem MP
/-- the signs of an integer's text -/
def ist (i : Int) : List Nat := if i < 0 then 45 :: TL.numL i.natAbs else TL.numL i.natAbs
theorem tS_eq (i : Int) : Str.ofString (toString i) = tx (ist i) := by
  refine TL.ext_tl ?_
  show (Str.ofString (toString i)).cps.toList = ist i
  unfold ist
  by_cases h : i < 0
  · rw [if_pos h, PyProof.Rows.toString_neg h, PyProof.Rows.signs_ofString, String.toList_append, List.map_append]
    have e : (0 - i) = ((i.natAbs : Nat) : Int) := by omega
    rw [e]
    have z := TL.tl_num i.natAbs
    have z2 : (Str.ofString (toString ((i.natAbs : Nat) : Int))).cps.toList = TL.numL i.natAbs := z
    rw [PyProof.Rows.signs_ofString] at z2
    rw [z2]
    rfl
  · rw [if_neg h]
    have e : i = ((i.natAbs : Nat) : Int) := by omega
    have z := TL.tl_num i.natAbs
    rw [← e] at z
    exact z
theorem tR_eq (i : Int) : Str.ofString i.repr = tx (ist i) := tS_eq i
theorem ist_len {i : Int} {k : Nat} (hk : 0 < k) (h : i.natAbs < 10 ^ k) : (ist i).length ≤ k + 1 := by
  have z := TL.numL_len hk h
  unfold ist
  split
  · rw [List.length_cons]; omega
  · omega
theorem numL_head : ∀ n : Nat, 0 < n → (TL.numL n).head? ≠ some 48 := by
  intro n
  induction n using Nat.strongRecOn with
  | _ n ih =>
    intro h0
    by_cases h : n < 10
    · rw [TL.numL_lt h]
      simp
      omega
    · have z := ih (n / 10) (by omega) (by omega)
      rw [TL.numL_step (by omega)]
      have ne := TL.numL_ne (n / 10)
      cases e : TL.numL (n / 10) with
      | nil => exact absurd e ne
      | cons c cs =>
        rw [e] at z
        exact z
theorem Dl_num (n : Nat) : Dl (TL.numL n) := by
  refine ⟨TL.numL_ne n, fun h => ?_, TL.numL_digits n⟩
  by_cases h0 : n = 0
  · subst h0
    rw [TL.numL_lt (by decide)] at h
    simp at h
  · exact numL_head n (by omega) h.1
theorem dv_num (n : Nat) : dv (TL.numL n) = n := TL.numL_val n
def wl (p q : Int) : List Nat := if q = 1 then ist p else ist p ++ 47 :: TL.numL q.natAbs
theorem e_slash : ("/" : Str) = tx [47] := by decide +kernel
theorem tx_app (a b : List Nat) : tx a ++ tx b = tx (a ++ b) := TL.ext_tl (TL.tl_append (tx a) (tx b))
theorem split_1 {a : List Nat} (h : 47 ∉ a) : Txt.split (tx a) SL = [tx a] := by
  have z := TL.split_join (y := SL) (s := 47) (S := []) (by decide +kernel) (by decide +kernel) (parts := [tx a]) (by simp) (fun p hp => by rw [List.mem_singleton.mp hp]; exact h)
  exact z
theorem split_2 {a b : List Nat} (h : 47 ∉ a) (g : 47 ∉ b) : Txt.split (tx (a ++ 47 :: b)) SL = [tx a, tx b] := by
  have z := TL.split_join (y := SL) (s := 47) (S := []) (by decide +kernel) (by decide +kernel) (parts := [tx a, tx b]) (by simp) (fun p hp => by
    rcases List.mem_cons.mp hp with e | e
    · rw [e]; exact h
    · rw [List.mem_singleton.mp e]; exact g)
  have e : Txt.join SL [tx a, tx b] = tx (a ++ 47 :: b) := by
    rw [TL.join_eq]
    show tx a ++ SL ++ tx b = _
    rw [show SL = tx [47] from e_slash, tx_app, tx_app]
    simp
  rw [e] at z
  exact z
theorem split_3 {a b c : List Nat} (h : 47 ∉ a) (g : 47 ∉ b) (k : 47 ∉ c) : Txt.split (tx (a ++ 47 :: (b ++ 47 :: c))) SL = [tx a, tx b, tx c] := by
  have z := TL.split_join (y := SL) (s := 47) (S := []) (by decide +kernel) (by decide +kernel) (parts := [tx a, tx b, tx c]) (by simp) (fun p hp => by
    simp only [List.mem_cons, List.not_mem_nil, or_false] at hp
    rcases hp with e | e | e <;> rw [e] <;> assumption)
  have e : Txt.join SL [tx a, tx b, tx c] = tx (a ++ 47 :: (b ++ 47 :: c)) := by
    rw [TL.join_eq]
    show tx a ++ SL ++ (tx b ++ SL ++ tx c) = _
    rw [show SL = tx [47] from e_slash, tx_app a, tx_app b, tx_app (b ++ [47]) c, tx_app (a ++ [47])]
    simp
  rw [e] at z
  exact z
theorem nf (n : Nat) : 47 ∉ TL.numL n := TL.numL_free (by decide)
theorem numL_cons (n : Nat) : ∃ c cs, TL.numL n = c :: cs ∧ c ≠ 45 := by
  cases e : TL.numL n with
  | nil => exact absurd e (TL.numL_ne n)
  | cons c cs =>
    refine ⟨c, cs, rfl, fun h => ?_⟩
    have := TL.numL_digits n c (by rw [e]; exact List.mem_cons_self ..)
    omega
theorem ngl_ist (p : Int) (r : List Nat) : ngl (ist p ++ r) = decide (p < 0) ∧ rst (ist p ++ r) = TL.numL p.natAbs ++ r := by
  unfold ist
  by_cases h : p < 0
  · rw [if_pos h, decide_eq_true h]
    exact ⟨rfl, rfl⟩
  · rw [if_neg h, decide_eq_false h]
    obtain ⟨c, cs, e, hc⟩ := numL_cons p.natAbs
    rw [e]
    exact ⟨decide_eq_false hc, if_neg hc⟩
theorem sgn_abs (p : Int) : sgn (decide (p < 0)) p.natAbs = p := by
  unfold sgn
  by_cases h : p < 0
  · rw [decide_eq_true h, if_pos rfl]; omega
  · rw [decide_eq_false h, if_neg (by decide)]; omega
theorem sgn_ok (p : Int) : ¬ (decide (p < 0) = true ∧ dv (TL.numL p.natAbs) = 0) := by
  rw [dv_num, decide_eq_true_iff]
  omega
theorem rdv_1 (ng : Bool) (a : List Nat) : rdv ng [a] = if Dl a ∧ ¬ (ng = true ∧ dv a = 0) then some (sgn ng (dv a), 1) else none := rfl
theorem rdv_2 (ng : Bool) (a b : List Nat) : rdv ng [a, b] = if (Dl a ∧ ¬ (ng = true ∧ dv a = 0)) ∧ Dl b ∧ 2 ≤ dv b ∧ Nat.gcd (dv a) (dv b) = 1 then some (sgn ng (dv a), (dv b : Int)) else none := rfl
theorem rdl_wl {p q : Int} (hq : 0 < q) (hr : gi p q = 1) : rdl (wl p q) = some (p, q) := by
  unfold rdl wl pcs
  by_cases h1 : q = 1
  · rw [if_pos h1]
    obtain ⟨z1, z2⟩ := ngl_ist p []
    rw [List.append_nil] at z1 z2
    rw [List.append_nil] at z2
    rw [z1, z2, split_1 (nf _), h1]
    show rdv (decide (p < 0)) [TL.numL p.natAbs] = _
    rw [rdv_1, if_pos ⟨Dl_num _, sgn_ok p⟩, dv_num, sgn_abs]
  · rw [if_neg h1]
    obtain ⟨z1, z2⟩ := ngl_ist p (47 :: TL.numL q.natAbs)
    rw [z1, z2, split_2 (nf _) (nf _)]
    show rdv (decide (p < 0)) [TL.numL p.natAbs, TL.numL q.natAbs] = _
    unfold gi at hr
    rw [rdv_2, if_pos ⟨⟨Dl_num _, sgn_ok p⟩, Dl_num _, by rw [dv_num]; omega, by rw [dv_num, dv_num]; omega⟩, dv_num, dv_num, sgn_abs]
    have e : ((q.natAbs : Nat) : Int) = q := by omega
    rw [e]
theorem rdl_one (p q : Int) : rdl (wl p q ++ [47, 49]) = none := by
  unfold rdl wl pcs
  by_cases h1 : q = 1
  · rw [if_pos h1]
    obtain ⟨z1, z2⟩ := ngl_ist p [47, 49]
    rw [z1, z2, split_2 (nf _) (by decide)]
    show rdv (decide (p < 0)) [TL.numL p.natAbs, [49]] = _
    unfold rdv
    exact if_neg fun h => by
      have := h.2.2.1
      have e : dv [49] = 1 := by decide
      omega
  · rw [if_neg h1, List.append_assoc, List.cons_append]
    obtain ⟨z1, z2⟩ := ngl_ist p (47 :: (TL.numL q.natAbs ++ [47, 49]))
    rw [z1, z2, split_3 (nf _) (nf _) (by decide)]
    rfl
theorem rdl_nil : rdl [] = none := by
  have e : pcs [] = [[]] := by
    unfold pcs
    show (Txt.split (tx []) SL).map _ = _
    rw [split_1 (by simp)]
    rfl
  unfold rdl
  rw [e]
  exact if_neg fun h => h.1.1 rfl
theorem lg {i : Int} {k : Nat} (h : i.natAbs < 10 ^ k) (hk : k ≤ 480) : i.natAbs.log2 < 1920 := by
  by_cases h0 : i.natAbs = 0
  · rw [h0]; decide
  · rw [Nat.log2_lt h0]
    refine Nat.lt_of_lt_of_le h ?_
    calc 10 ^ k ≤ (2 ^ 4) ^ k := Nat.pow_le_pow_left (by decide) _
      _ = 2 ^ (4 * k) := by rw [← Nat.pow_mul]
      _ ≤ 2 ^ 1920 := by
        refine Nat.pow_le_pow_right (by decide) ?_
        omega
theorem wl_len {p q : Int} (hp : p.natAbs < 10 ^ 40) (hq : q.natAbs < 10 ^ 40) : (wl p q).length ≤ 82 := by
  have h1 := ist_len (by decide) hp
  have h2 := TL.numL_len (by decide) hq
  unfold wl
  split
  · omega
  · rw [List.length_append, List.length_cons]; omega
theorem ist_pos {q : Int} (h : 0 < q) : ist q = TL.numL q.natAbs := if_neg (by omega)
theorem written_ok {p q : Int} (hp : p.natAbs < 10 ^ 40) (hq : q.natAbs < 10 ^ 40) (h0 : 0 < q) (st : S) : g__law_written [fr p q] st = .ok (sd (wl p q)) st := by
  have lp := lg hp (by decide)
  have lq := lg hq (by decide)
  have n1 := ist_len (by decide) hp
  have n2 := ist_len (by decide) hq
  unfold wl
  by_cases h1 : q = 1
  · rw [if_pos h1]
    simp [g__law_written, arN, den_ap, m__law_written, h1, lp, tR_eq]
  · rw [if_neg h1]
    have b1 : (ist p).length + 1 ≤ sizeLine := by rw [sl_k]; omega
    have b2 : (ist p).length + 1 + (ist q).length ≤ sizeLine := by rw [sl_k]; omega
    simp [g__law_written, arN, den_ap, m__law_written, h1, lp, lq, tR_eq, e_slash, tx_app, tx_len, b1, b2]
    rw [← ist_pos h0]
theorem format_ok {p q : Int} (hp : p.natAbs < 10 ^ 40) (hq : q.natAbs < 10 ^ 40) (h0 : 0 < q) (st : S) : g_format_number [fr p q] st = .ok (sd (wl p q)) st := by
  have lp := lg hp (by decide)
  have lq := lg hq (by decide)
  have n1 := ist_len (by decide) hp
  have n2 := ist_len (by decide) hq
  unfold wl
  by_cases h1 : q = 1
  · rw [if_pos h1]
    simp [g_format_number, arN, den_ap, m_format_number, tgTup, tgAll, h1, lp, tR_eq]
  · rw [if_neg h1]
    have b0 : (ist p).length ≤ sizeLine := by rw [sl_k]; omega
    have b1 : (ist p).length + 1 ≤ sizeLine := by rw [sl_k]; omega
    have b2 : (ist p).length + 1 + (ist q).length ≤ sizeLine := by rw [sl_k]; omega
    have b3 : (ist p).length + ((ist q).length + 1) ≤ sizeLine := by rw [sl_k]; omega
    have e0 : Str.empty = tx [] := rfl
    simp [g_format_number, arN, den_ap, m_format_number, tgTup, tgAll, h1, lp, lq, tR_eq, e_slash, e0, tx_app, tx_len, b0, b1, b2, b3]
    rw [← ist_pos h0]
end K01

set_option Elab.async false
set_option linter.all false
set_option maxRecDepth 100000
set_option maxHeartbeats 4000000
namespace K01
open PySem MP
/-- a text that is not long -/
def Wd (d : D) : Prop := ∃ z : Str, d = .str z ∧ z.length ≤ 250
theorem tx_of (z : Str) : ∃ l, z = tx l ∧ l.length = z.length := ⟨z.cps.toList, rfl, by simp [Str.length]⟩
theorem Wd.right {d : D} (h : Wd d) (st : S) : ∃ os, g__law_text_right [d] st = .ok (.bl true) (st ++ os) := by
  obtain ⟨z, rfl, hz⟩ := h
  obtain ⟨l, rfl, hl⟩ := tx_of z
  exact text_right_ok l (by omega) st
def EvW (f : FE) (ρ : En) (st : S) (n : Nat) : Prop := ∃ z : Str, f ρ st = .ok (.str z) st ∧ z.length ≤ n
def EvA (f : FA) (ρ : En) (st : S) (k : Nat) : Prop := ∃ ds, f ρ st = .ok ds st ∧ (∀ d ∈ ds, Wd d) ∧ ds.length = k
section
variable {ρ : En} {st : S} {f g : FE} {fs : FA} {m n : Nat}
theorem ev_c {z : Str} (h : z.length ≤ 5) : EvW (fC (.str z)) ρ st 5 := ⟨z, rfl, h⟩
theorem ev_v {i : Nat} {z : Str} (h : ρ[i]? = some (some (.str z))) (hz : z.length ≤ n) : EvW (fVar i) ρ st n := ⟨z, by simp [h], hz⟩
theorem ev_add (h1 : EvW f ρ st n) (h2 : EvW g ρ st m) (h : n + m ≤ 1000) : EvW (fBin gAdd f g) ρ st (n + m) := by
  obtain ⟨a, e1, l1⟩ := h1
  obtain ⟨b, e2, l2⟩ := h2
  refine ⟨a ++ b, ?_, by rw [Str.length_append]; omega⟩
  have : a.length + b.length ≤ sizeLine := by rw [sl_k]; omega
  simp [e1, e2, this]
theorem ev_str {i : Int} (h : f ρ st = .ok (.int i) st) (hi : i.natAbs < 10 ^ 60) : EvW (fArgs gStr (fCons f fNil)) ρ st 61 := by
  refine ⟨tx (ist i), ?_, by rw [tx_len]; exact ist_len (by decide) hi⟩
  simp [h, lg hi (by decide), tR_eq]
theorem ea_nil : EvA fNil ρ st 0 := ⟨[], rfl, fun _ h => (nomatch h), rfl⟩
theorem ea_cons (h1 : EvW f ρ st n) (hn : n ≤ 250) (h2 : EvA fs ρ st m) : EvA (fCons f fs) ρ st (m + 1) := by
  obtain ⟨z, e1, l1⟩ := h1
  obtain ⟨ds, e2, h2, l2⟩ := h2
  refine ⟨.str z :: ds, by simp [e1, e2], fun d hd => ?_, by rw [List.length_cons, l2]⟩
  rcases List.mem_cons.mp hd with e | e
  · exact ⟨z, e, by omega⟩
  · exact h2 d e
end
structure OddS (s0 s : S) (k n : Nat) : Prop where
  at_ : ∃ xs, s[k]? = some (.lst xs) ∧ (∀ d ∈ xs, Wd d) ∧ xs.length = n
  app : ∃ os, s = s0 ++ os
theorem odd_first {ρ : En} {st : S} {A : FA} {c : Nat} (hA : EvA A ρ st c) : ∃ s' k', sSet 6 (fLst A) ρ st = .nx (ρ.set 6 (some (.loc k'))) s' ∧ OddS st s' k' c := by
  obtain ⟨ds, e, h, l⟩ := hA
  exact ⟨st ++ [.lst ds], st.length, by simp [e], ⟨ds, app_new, h, l⟩, _, rfl⟩
theorem odd_add {s0 : S} {ρ : En} {st : S} {A : FA} {k c n : Nat} (h : OddS s0 st k n) (v : ρ[6]? = some (some (.loc k))) (hA : EvA A ρ st c) (hn : n + c ≤ 1000) :
    ∃ d s', (fBin gAdd (fVar 6) (fLst A)) ρ st = .ok (.loc d) s' ∧ OddS s0 s' d (n + c) := by
  obtain ⟨ds, e, h1, l⟩ := hA
  obtain ⟨⟨xs, hx, hw, hl⟩, os, ho⟩ := h
  have hs : xs.length + ds.length ≤ sizeLine := by rw [sl_k]; omega
  have g := gAdd_loc (st := st ++ [.lst ds]) (m := k) (n := st.length) (xs := xs) (ys := ds) (app_old hx) app_new hs
  refine ⟨(st ++ [Ob.lst ds]).length, st ++ [.lst ds] ++ [.lst (xs ++ ds)], ?_, ⟨xs ++ ds, app_new, ?_, by rw [List.length_append]; omega⟩, ?_⟩
  · simp only [fBin_ap, fVar_ap, v, Out.bind_ok, fLst_ap, e, g, ofO]
  · intro d hd
    rcases List.mem_append.mp hd with z | z
    · exact hw d z
    · exact h1 d z
  · subst ho
    exact ⟨os ++ ([.lst ds] ++ [.lst (xs ++ ds)]), by simp⟩
theorem odd_next {s0 : S} {ρ : En} {st : S} {A : FA} {k c n : Nat} (h : OddS s0 st k n) (v : ρ[6]? = some (some (.loc k))) (hA : EvA A ρ st c) (hn : n + c ≤ 1000) :
    ∃ s' k', sSet 6 (fBin gAdd (fVar 6) (fLst A)) ρ st = .nx (ρ.set 6 (some (.loc k'))) s' ∧ OddS s0 s' k' (n + c) := by
  obtain ⟨d, s', e, h2⟩ := odd_add h v hA hn
  refine ⟨s', d, ?_, h2⟩
  rw [sSet_ap, e]
  rfl
end K01

set_option Elab.async false
set_option linter.all false
set_option maxRecDepth 100000
set_option maxHeartbeats 4000000
namespace K01
open PySem MP
theorem odd_ok {p q f : Int} (hp : p.natAbs < 10 ^ 40) (hq : q.natAbs < 10 ^ 40) (h0 : 0 < q) (f0 : 0 < f) (f1 : f ≤ 100000002) (st : S) :
    ∃ k s', g__law_odd [fr p q, .int f] st = .ok (.loc k) s' ∧ OddS st s' k 33 := by
  have ew := written_ok hp hq h0
  have lw := wl_len hp hq
  have la := ist_len (by decide) hp
  have lb := ist_len (by decide) hq
  have lp : (ist (absI p)).length ≤ 41 := ist_len (by decide) (by unfold absI; omega)
  have gp := lg hp (by decide)
  have gq := lg hq (by decide)
  have ga : (absI p).natAbs.log2 < 1920 := by
    unfold absI
    rw [Int.natAbs_natCast]
    exact gp
  let E : Nat → En := fun k => [some (fr p q), some (.int f), some (sd (wl p q)), some (sd (ist p)), some (sd (ist (absI p))), some (sd (ist q)), some (.loc k)]
  let E0 : En := [some (fr p q), some (.int f), some (sd (wl p q)), some (sd (ist p)), some (sd (ist (absI p))), some (sd (ist q)), none]
  have v2 : ∀ k st, EvW (fVar 2) (E k) st 82 := fun k st => ev_v (z := tx (wl p q)) rfl (by rw [tx_len]; exact lw)
  have v3 : ∀ k st, EvW (fVar 3) (E k) st 41 := fun k st => ev_v (z := tx (ist p)) rfl (by rw [tx_len]; exact la)
  have v4 : ∀ k st, EvW (fVar 4) (E k) st 41 := fun k st => ev_v (z := tx (ist (absI p))) rfl (by rw [tx_len]; exact lp)
  have v5 : ∀ k st, EvW (fVar 5) (E k) st 41 := fun k st => ev_v (z := tx (ist q)) rfl (by rw [tx_len]; exact lb)
  have w2 : ∀ st, EvW (fVar 2) E0 st 82 := fun st => ev_v (z := tx (wl p q)) rfl (by rw [tx_len]; exact lw)
  have mf : ∀ z : Int, MP.MulOk z f := fun z => mulok_r (by omega) (by omega)
  have x1 : ∀ k st, (fBin gAdd (fBin gIx (fVar 0) (fC (.int 1))) (fC (.int 1))) (E k) st = .ok (.int (q + 1)) st := fun k st => by simp [E]
  have y0 : ∀ k st, (fBin gMul (fBin gIx (fVar 0) (fC (.int 0))) (fVar 1)) (E k) st = .ok (.int (p * f)) st := fun k st => by simp [E, mf]
  have y1 : ∀ k st, (fBin gMul (fBin gIx (fVar 0) (fC (.int 1))) (fVar 1)) (E k) st = .ok (.int (q * f)) st := fun k st => by simp [E, mf]
  have bx1 : (q + 1).natAbs < 10 ^ 60 := by omega
  have mb : ∀ z : Int, z.natAbs < 10 ^ 40 → (z * f).natAbs < 10 ^ 60 := fun z hz => by
    rw [Int.natAbs_mul]
    calc z.natAbs * f.natAbs ≤ 10 ^ 40 * 100000002 := Nat.mul_le_mul (by omega) (by omega)
      _ < 10 ^ 60 := by decide
  have by0 := mb p hp
  have by1 := mb q hq
  obtain ⟨s1, k1, e1, h1⟩ := odd_first (st := st) (ρ := E0) (ea_cons (ev_c (z := ("" : Str)) (by decide +kernel)) (by decide) (ea_cons (ev_c (z := ("-" : Str)) (by decide +kernel)) (by decide) (ea_cons (ev_c (z := ("/" : Str)) (by decide +kernel)) (by decide) (ea_cons (ev_add (ev_c (z := (" " : Str)) (by decide +kernel)) (w2 _) (by decide)) (by decide) (ea_cons (ev_add (w2 _) (ev_c (z := (" " : Str)) (by decide +kernel)) (by decide)) (by decide) (ea_cons (ev_add (w2 _) (ev_c (z := ("\n" : Str)) (by decide +kernel)) (by decide)) (by decide) (ea_cons (ev_add (ev_c (z := ("\t" : Str)) (by decide +kernel)) (w2 _) (by decide)) (by decide) (ea_cons (ev_add (ev_c (z := ("+" : Str)) (by decide +kernel)) (w2 _) (by decide)) (by decide) (ea_cons (ev_add (ev_c (z := ("0" : Str)) (by decide +kernel)) (w2 _) (by decide)) (by decide) ea_nil)))))))))
  have e1 : _ = SO.nx (E k1) s1 := e1
  obtain ⟨s2, k2, e2, h2⟩ := odd_next (ρ := E k1) h1 rfl (ea_cons (ev_add (ev_c (z := ("--" : Str)) (by decide +kernel)) (v4 _ _) (by decide)) (by decide) (ea_cons (ev_add (ev_c (z := ("- " : Str)) (by decide +kernel)) (v4 _ _) (by decide)) (by decide) (ea_cons (ev_add (ev_c (z := ("-0" : Str)) (by decide +kernel)) (v4 _ _) (by decide)) (by decide) (ea_cons (ev_c (z := ("-0" : Str)) (by decide +kernel)) (by decide) (ea_cons (ev_c (z := ("-0/3" : Str)) (by decide +kernel)) (by decide) (ea_cons (ev_add (ev_c (z := ("0/" : Str)) (by decide +kernel)) (ev_str (x1 _ _) bx1) (by decide)) (by decide) ea_nil)))))) (by decide)
  have e2 : _ = SO.nx (E k2) s2 := e2
  obtain ⟨s3, k3, e3, h3⟩ := odd_next (ρ := E k2) h2 rfl (ea_cons (ev_add (v2 _ _) (ev_c (z := ("/1" : Str)) (by decide +kernel)) (by decide)) (by decide) (ea_cons (ev_add (v2 _ _) (ev_c (z := ("/" : Str)) (by decide +kernel)) (by decide)) (by decide) (ea_cons (ev_add (ev_c (z := ("/" : Str)) (by decide +kernel)) (v2 _ _) (by decide)) (by decide) (ea_cons (ev_add (v3 _ _) (ev_c (z := ("/0" : Str)) (by decide +kernel)) (by decide)) (by decide) (ea_cons (ev_add (ev_add (v3 _ _) (ev_c (z := ("/-" : Str)) (by decide +kernel)) (by decide)) (v5 _ _) (by decide)) (by decide) ea_nil))))) (by decide)
  have e3 : _ = SO.nx (E k3) s3 := e3
  obtain ⟨s4, k4, e4, h4⟩ := odd_next (ρ := E k3) h3 rfl (ea_cons (ev_add (ev_add (v3 _ _) (ev_c (z := ("/+" : Str)) (by decide +kernel)) (by decide)) (v5 _ _) (by decide)) (by decide) (ea_cons (ev_add (ev_add (v3 _ _) (ev_c (z := ("/0" : Str)) (by decide +kernel)) (by decide)) (v5 _ _) (by decide)) (by decide) (ea_cons (ev_add (ev_add (v3 _ _) (ev_c (z := ("//" : Str)) (by decide +kernel)) (by decide)) (v5 _ _) (by decide)) (by decide) (ea_cons (ev_add (ev_add (v3 _ _) (ev_c (z := (" /" : Str)) (by decide +kernel)) (by decide)) (v5 _ _) (by decide)) (by decide) ea_nil)))) (by decide)
  have e4 : _ = SO.nx (E k4) s4 := e4
  obtain ⟨s5, k5, e5, h5⟩ := odd_next (ρ := E k4) h4 rfl (ea_cons (ev_add (ev_add (v3 _ _) (ev_c (z := ("/ " : Str)) (by decide +kernel)) (by decide)) (v5 _ _) (by decide)) (by decide) (ea_cons (ev_add (ev_add (ev_str (y0 _ _) by0) (ev_c (z := ("/" : Str)) (by decide +kernel)) (by decide)) (ev_str (y1 _ _) by1) (by decide)) (by decide) ea_nil)) (by decide)
  have e5 : _ = SO.nx (E k5) s5 := e5
  obtain ⟨s6, k6, e6, h6⟩ := odd_next (ρ := E k5) h5 rfl (ea_cons (ev_add (ev_add (v3 _ _) (ev_c (z := ("," : Str)) (by decide +kernel)) (by decide)) (v5 _ _) (by decide)) (by decide) (ea_cons (ev_add (v3 _ _) (ev_c (z := ("_0" : Str)) (by decide +kernel)) (by decide)) (by decide) ea_nil)) (by decide)
  have e6 : _ = SO.nx (E k6) s6 := e6
  obtain ⟨d, s', e, h⟩ := odd_add (ρ := E k6) h6 rfl (ea_cons (ev_add (v2 _ _) (ev_c (z := (".0" : Str)) (by decide +kernel)) (by decide)) (by decide) (ea_cons (ev_add (v2 _ _) (ev_c (z := ("e1" : Str)) (by decide +kernel)) (by decide)) (by decide) (ea_cons (ev_add (v2 _ _) (ev_c (z := ("x" : Str)) (by decide +kernel)) (by decide)) (by decide) (ea_cons (ev_add (ev_add (ev_c (z := ("(" : Str)) (by decide +kernel)) (v2 _ _) (by decide)) (ev_c (z := (")" : Str)) (by decide +kernel)) (by decide)) (by decide) (ea_cons (ev_add (ev_add (v2 _ _) (ev_c (z := (" " : Str)) (by decide +kernel)) (by decide)) (v2 _ _) (by decide)) (by decide) ea_nil))))) (by decide)
  refine ⟨d, s', ?_, h⟩
  unfold g__law_odd arN
  rw [if_pos (show [fr p q, D.int f].length = 2 from rfl), den_ap]
  show ((m__law_odd [some (fr p q), some (.int f), none, none, none, none, none] st).out) = _
  unfold m__law_odd
  have a1 : (sSet 2 (fCall g__law_written (fCons (fVar 0) (fNil)))) [some (fr p q), some (.int f), none, none, none, none, none] st = .nx [some (fr p q), some (.int f), some (sd (wl p q)), none, none, none, none] st := by simp [ew]
  have a2 : (sSet 3 (fArgs gStr (fCons (fBin gIx (fVar 0) (fC (.int 0))) (fNil)))) [some (fr p q), some (.int f), some (sd (wl p q)), none, none, none, none] st = .nx [some (fr p q), some (.int f), some (sd (wl p q)), some (sd (ist p)), none, none, none] st := by simp [gp, tR_eq]
  have a3 : (sSet 4 (fArgs gStr (fCons (fArgs gAbs (fCons (fBin gIx (fVar 0) (fC (.int 0))) (fNil))) (fNil)))) [some (fr p q), some (.int f), some (sd (wl p q)), some (sd (ist p)), none, none, none] st = .nx [some (fr p q), some (.int f), some (sd (wl p q)), some (sd (ist p)), some (sd (ist (absI p))), none, none] st := by simp [ga, tR_eq]
  have a4 : (sSet 5 (fArgs gStr (fCons (fBin gIx (fVar 0) (fC (.int 1))) (fNil)))) [some (fr p q), some (.int f), some (sd (wl p q)), some (sd (ist p)), some (sd (ist (absI p))), none, none] st = .nx E0 st := by simp [gq, tR_eq, E0]
  rw [sSeq_ap, a1, then_nx, sSeq_ap, a2, then_nx, sSeq_ap, a3, then_nx, sSeq_ap, a4, then_nx, sSeq_ap, e1, then_nx, sSeq_ap, e2, then_nx, sSeq_ap, e3, then_nx, sSeq_ap, e4, then_nx, sSeq_ap, e5, then_nx, sSeq_ap, e6, then_nx, sRet_ap, e]
  rfl
end K01

set_option Elab.async false
set_option linter.all false
set_option maxRecDepth 100000
set_option maxHeartbeats 4000000
namespace K01
open PySem MP
theorem Ext.apps {b : Nat} {s1 s2 : S} (h : Ext b s1 s2) : ∀ os : List Ob, Ext b s1 (s2 ++ os)
  | [] => by rw [List.append_nil]; exact h
  | o :: os => by
    have z := (h.app o).apps os
    rw [List.append_assoc] at z
    exact z
theorem app_at {st : S} {k : Nat} {o : Ob} (h : st[k]? = some o) (os : List Ob) : (st ++ os)[k]? = some o := by
  rw [List.getElem?_append_left (List.getElem?_eq_some_iff.mp h).1]
  exact h
noncomputable abbrev oddB : FS := sIf (fNot (fTru (fCall g__law_text_right (fCons (fVar 3) (fNil))))) (sRet (fC (.bl false))) (sSkip)
theorem odd_loop {s1 : S} {k : Nat} {xs : List D} {a f w : D} (hk : s1[k]? = some (.lst xs)) (hw : ∀ d ∈ xs, Wd d) :
    ∃ x os, sLoop (fun s => decide (lstAt s k = some xs)) (tgN 3) oddB xs [some a, some f, some w, none] s1 = .nx [some a, some f, some w, x] (s1 ++ os) := by
  obtain ⟨ρ', st', e1, x, os, e2, e3, e4⟩ := loop_inv (chk := fun s => decide (lstAt s k = some xs)) (t := tgN 3) (body := oddB)
    (I := fun don cs ρ s => ∃ (x : Option D) (os : List Ob), ρ = [some a, some f, some w, x] ∧ s = s1 ++ os ∧ don ++ cs = xs)
    (fun don d cs ρ s ⟨x, os, e, h, ht⟩ => by
      subst e h
      obtain ⟨os2, e5⟩ := (hw d (by rw [← ht]; simp)).right (s1 ++ os)
      refine ⟨decide_eq_true (lstAt_lst (app_at hk os)), _, rfl, [some a, some f, some w, some d], s1 ++ os ++ os2, .inl ?_, some d, os ++ os2, rfl, List.append_assoc _ _ _, by rw [List.append_assoc]; exact ht⟩
      show oddB [some a, some f, some w, some d] (s1 ++ os) = _
      simp only [oddB, sIf_ap, fNot_ap, fTru_ap, fCall_ap, fCons_ap, fVar_ap, List.getElem?_cons_succ, List.getElem?_cons_zero, Out.bind_ok, fNil_ap, e5, truD_bl, Out.so_ok, Bool.not_true, Bool.false_eq_true, if_false, sSkip_ap])
    (fun don ρ s ⟨x, os, e, h, ht⟩ => by rw [h]; exact decide_eq_true (lstAt_lst (app_at hk os))) xs [] [some a, some f, some w, none] s1 ⟨none, [], rfl, (List.append_nil _).symm, rfl⟩
  exact ⟨x, os, by rw [e1, e2, e3]⟩
theorem number_right_ok {p q f : Int} (N : Nu p q) (f0 : 0 < f) (f1 : f ≤ 100000002) (st : S) :
    ∃ os, g__law_number_right [fr p q, .int f] st = .ok (.bl true) (st ++ os) := by
  obtain ⟨hq, hr, ⟨t1, t2⟩, hq2⟩ := N
  have np : p.natAbs < 10 ^ 40 := by omega
  have nq : q.natAbs < 10 ^ 40 := by omega
  have ew := written_ok np nq hq
  have ef := format_ok np nq hq
  have lw := wl_len np nq
  have ep := parse_ok (wl p q) (by omega) st
  rw [rdl_wl hq hr] at ep
  have ei := is_ok (p := p) (q := q) (r := p) (s := q) (st ++ [spl (wl p q)])
  obtain ⟨k, s2, eo, ⟨xs, hx, hw, hl⟩, os2, ho⟩ := odd_ok np nq hq f0 f1 (st ++ [spl (wl p q)])
  obtain ⟨x, os3, e3⟩ := odd_loop (a := fr p q) (f := .int f) (w := sd (wl p q)) hx hw
  have ll : (wl p q ++ [47, 49]).length ≤ 250 := by rw [List.length_append]; simp; omega
  obtain ⟨os4, e4⟩ := refused_by_base_ok (wl p q ++ [47, 49]) ll (rdl_one p q) (s2 ++ os3)
  have es : ("/1" : Str) = tx [47, 49] := by decide +kernel
  have sz : (wl p q).length + 2 ≤ sizeLine := by rw [sl_k]; omega
  refine ⟨[spl (wl p q)] ++ os2 ++ os3 ++ os4, ?_⟩
  rw [← List.append_assoc, ← List.append_assoc, ← List.append_assoc, ← ho]
  unfold g__law_number_right arN
  rw [if_pos (show [fr p q, D.int f].length = 2 from rfl), den_ap]
  show ((m__law_number_right [some (fr p q), some (.int f), none, none] st).out) = _
  have m1 : m__law_number_right = sSeq (sSet 2 (fCall g_format_number (fCons (fVar 0) (fNil)))) (sSeq (sIf (fOr (fNot (fTru (fUn (gIsi "str") (fVar 2)))) (fIsB (fBin gNe (fVar 2) (fCall g__law_written (fCons (fVar 0) (fNil)))))) (sRet (fC (.bl false))) (sSkip)) (sSeq (sIf (fNot (fTru (fCall g__law_is (fCons (fCall g_parse_number (fCons (fCall g__law_written (fCons (fVar 0) (fNil))) (fNil))) (fCons (fVar 0) (fNil)))))) (sRet (fC (.bl false))) (sSkip)) (sSeq (sFor (fCall g__law_odd (fCons (fVar 0) (fCons (fVar 1) (fNil)))) (tgN 3) oddB) (sRet (fCall g__law_refused_by_base (fCons (fBin gAdd (fCall g__law_written (fCons (fVar 0) (fNil))) (fC (.str ("/1" : Str)))) (fNil))))))) := rfl
  have a1 : (sSet 2 (fCall g_format_number (fCons (fVar 0) (fNil)))) [some (fr p q), some (.int f), none, none] st = .nx [some (fr p q), some (.int f), some (sd (wl p q)), none] st := by simp [ef]
  have a2 : (sIf (fOr (fNot (fTru (fUn (gIsi "str") (fVar 2)))) (fIsB (fBin gNe (fVar 2) (fCall g__law_written (fCons (fVar 0) (fNil)))))) (sRet (fC (.bl false))) (sSkip)) [some (fr p q), some (.int f), some (sd (wl p q)), none] st = .nx [some (fr p q), some (.int f), some (sd (wl p q)), none] st := by
    simp [ew, gIsi, isiT, tyD]
  have a3 : (sIf (fNot (fTru (fCall g__law_is (fCons (fCall g_parse_number (fCons (fCall g__law_written (fCons (fVar 0) (fNil))) (fNil))) (fCons (fVar 0) (fNil)))))) (sRet (fC (.bl false))) (sSkip)) [some (fr p q), some (.int f), some (sd (wl p q)), none] st = .nx [some (fr p q), some (.int f), some (sd (wl p q)), none] (st ++ [spl (wl p q)]) := by
    simp [ew, ep, pAns] at ei ⊢
    simp [ei]
  have a4 : (sFor (fCall g__law_odd (fCons (fVar 0) (fCons (fVar 1) (fNil)))) (tgN 3) oddB) [some (fr p q), some (.int f), some (sd (wl p q)), none] (st ++ [spl (wl p q)]) = .nx [some (fr p q), some (.int f), some (sd (wl p q)), x] (s2 ++ os3) := by
    rw [sFor_loc (n := k) (st1 := s2) (ds := xs) (by simp [eo]) (lstAt_lst hx), e3]
  have a5 : (sRet (fCall g__law_refused_by_base (fCons (fBin gAdd (fCall g__law_written (fCons (fVar 0) (fNil))) (fC (.str ("/1" : Str)))) (fNil)))) [some (fr p q), some (.int f), some (sd (wl p q)), x] (s2 ++ os3) = .rt (.bl true) (s2 ++ os3 ++ os4) := by
    rw [es]
    simp only [sRet_ap, fCall_ap, fCons_ap, fBin_ap, fVar_ap, List.getElem?_cons_succ, List.getElem?_cons_zero, Out.bind_ok, fNil_ap, ew, fC_ap, gAdd_str, tx_len, List.length_cons, List.length_nil, Nat.zero_add, if_pos sz, tx_app, ofO, e4, Out.so_ok]
  rw [m1, sSeq_ap, a1, then_nx, sSeq_ap, a2, then_nx, sSeq_ap, a3, then_nx, sSeq_ap, a4, then_nx, a5]
  rfl
end K01

set_option Elab.async false
set_option linter.all false
set_option maxRecDepth 100000
set_option maxHeartbeats 4000000
namespace K01
open PySem MP

abbrev lims : List D := [.int 10, .int 1000, .int 1000000000, .int 1000000000000000000]
theorem lim_at {r : Int} (h0 : 0 ≤ r) (h1 : r < 4) : ∃ m : Int, L2.atI lims r = some (.int m) ∧ 10 ≤ m ∧ m ≤ 10 ^ 18 := by
  have h : r = 0 ∨ r = 1 ∨ r = 2 ∨ r = 3 := by omega
  rcases h with h | h | h | h <;> subst h
  · exact ⟨10, by simp, by decide, by decide⟩
  · exact ⟨1000, by simp, by decide, by decide⟩
  · exact ⟨1000000000, by simp, by decide, by decide⟩
  · exact ⟨1000000000000000000, atI_nat (k := 3) rfl, by decide, by decide⟩
theorem little_ok {st : S} {b : Nat} (hb : Bag st b) (hbl : b < st.length) : ∃ d s', g__law_little [.loc b] st = .ok d s' ∧ Nm d ∧ Ext b st s' := by
  have nb : st.length ≠ b := by omega
  have x0 : Ext b st (st ++ [.lst lims]) := (Ext.refl hb).app _
  have a0 : (st ++ [Ob.lst lims])[st.length]? = some (.lst lims) := app_new
  obtain ⟨v, s1, ev, v0, v1, x1⟩ := large_ok x0.bag
  obtain ⟨r, s2, er, r0, r1, x2⟩ := take_ok x1.bag (m := 4) (by decide) (by decide)
  have a2 := lstAt_lst (x2.at_ nb (x1.at_ nb a0))
  obtain ⟨m, em, m0, m1⟩ := lim_at r0 r1
  obtain ⟨t, s3, et, t0, t1, x3⟩ := take_ok x2.bag (m := 2) (by decide) (by decide)
  have b0 : 0 ≤ v % m := Int.emod_nonneg _ (by omega)
  have b1 : v % m < m := Int.emod_lt_of_pos _ (by omega)
  have mp : 0 < m := by omega
  have fin : ∀ (w : Int) (s : S), 0 < w → w < 10 ^ 40 → Ext b st s → ∃ d s', (sRet (fCall g__law_lowest (fCons (fBin gMul (fVar 2) (fBin gSub (fC (.int 1)) (fBin gMul (fC (.int 2)) (fCall g__law_take (fCons (fVar 0) (fCons (fC (.int 2)) (fNil))))))) (fCons (fVar 3) (fNil))))) [some (.loc b), some (.loc st.length), some (.int (v % m)), some (.int w)] s = .rt d s' ∧ Nm d ∧ Ext b st s' := by
    intro w s w0 w1 x
    obtain ⟨u, s4, eu, u0, u1, x4⟩ := take_ok x.bag (m := 2) (by decide) (by decide)
    have m2 : MP.MulOk 2 u := mulok_l (by decide) (by decide)
    have m3 : ∀ z : Int, MP.MulOk z (1 - 2 * u) := fun z => mulok_r (by omega) (by omega)
    have sg : v % m * (1 - 2 * u) = v % m ∨ v % m * (1 - 2 * u) = -(v % m) := by
      have h : u = 0 ∨ u = 1 := by omega
      rcases h with h | h <;> subst h <;> omega
    have el := low_ok (p := v % m * (1 - 2 * u)) w0 w1 s4
    exact ⟨_, s4, by simp [eu, m2, m3, el], low_nm (p := v % m * (1 - 2 * u)) w0 (by omega) (by omega) w1, x.trans x4⟩
  by_cases ht : t = 0
  · obtain ⟨v', s4, ev', v0', v1', x4⟩ := large_ok x3.bag
    obtain ⟨r', s5, er', r0', r1', x5⟩ := take_ok x4.bag (m := 4) (by decide) (by decide)
    have a5 := lstAt_lst (x5.at_ nb (x4.at_ nb (x3.at_ nb (x2.at_ nb (x1.at_ nb a0)))))
    obtain ⟨m', em', m0', m1'⟩ := lim_at r0' r1'
    have c0 : 0 ≤ v' % (m' - 1) := Int.emod_nonneg _ (by omega)
    have c1 : v' % (m' - 1) < m' - 1 := Int.emod_lt_of_pos _ (by omega)
    have mp' : 0 < m' - 1 := by omega
    have mp2 : 1 < m' := by omega
    obtain ⟨d, s', e, nm, x⟩ := fin (1 + v' % (m' - 1)) s5 (by omega) (by omega) (x0.trans (x1.trans (x2.trans (x3.trans (x4.trans x5)))))
    refine ⟨d, s', ?_, nm, x⟩
    subst ht
    rw [sRet_ap] at e
    simp [g__law_little, arN, den_ap, m__law_little, ev, er, gIx_loc _ _ a2, em, mp, et, ev', er', gIx_loc _ _ a5, em', mp', mp2] at e ⊢
    rw [e]
    rfl
  · obtain ⟨d, s', e, nm, x⟩ := fin 1 s3 (by omega) (by omega) (x0.trans (x1.trans (x2.trans x3)))
    refine ⟨d, s', ?_, nm, x⟩
    rw [sRet_ap] at e
    simp [g__law_little, arN, den_ap, m__law_little, ev, er, gIx_loc _ _ a2, em, mp, et, ht] at e ⊢
    rw [e]
    rfl
end K01

set_option Elab.async false
set_option linter.all false
set_option maxRecDepth 100000
set_option maxHeartbeats 4000000
namespace K01
open PySem MP

theorem cut_len (z : Str) (lo hi : Option Int) : (L2.cutS z lo hi).length ≤ HT.sIx z.length z.length hi - HT.sIx z.length 0 lo := by
  unfold L2.cutS
  have : ∀ l : List Nat, (⟨l.toArray⟩ : Str).length = l.length := tx_len
  rw [this]
  exact List.length_take_le _ _
theorem sx (n d : Nat) {i : Int} (h : 0 ≤ i) : HT.sIx n d (some i) = min i.toNat n := by
  show (if i < 0 then (i + (n : Int)).toNat else min i.toNat n) = _
  rw [if_neg (by omega)]
theorem cut_lo (z : Str) {i : Int} (h : 0 ≤ i) (h1 : i ≤ z.length) : (L2.cutS z none (some i)).length ≤ i.toNat := by
  have c := cut_len z none (some i)
  rw [sx _ _ h, HT.sIx_none] at c
  omega
theorem cut_hi (z : Str) {i : Int} (h : 0 ≤ i) : (L2.cutS z (some i) none).length ≤ z.length - i.toNat := by
  have c := cut_len z (some i) none
  rw [sx _ _ h, HT.sIx_none] at c
  omega
theorem cut_mid (z : Str) {i : Int} (h : 0 ≤ i) : (L2.cutS z (some i) (some (i + 1))).length ≤ 1 := by
  have c := cut_len z (some i) (some (i + 1))
  rw [sx _ _ h, sx _ _ (by omega)] at c
  omega
abbrev chB : Str := "0123456789-/ +._,:xeO\n\t"
theorem chB_len : chB.length = 23 := by decide +kernel
noncomputable abbrev bentB : FS := sSeq (sSet 4 (fCall g__law_take (fCons (fVar 0) (fCons (fBin gAdd (fArgs gLen (fCons (fVar 1) (fNil))) (fC (.int 1))) (fNil))))) (sSeq (sSet 5 (fBin gIx (fVar 2) (fCall g__law_take (fCons (fVar 0) (fCons (fArgs gLen (fCons (fVar 2) (fNil))) (fNil)))))) (sSeq (sSet 6 (fCall g__law_take (fCons (fVar 0) (fCons (fC (.int 4)) (fNil))))) (sIf (fIsB (fBin gEq (fVar 6) (fC (.int 0)))) (sSet 1 (fBin gAdd (fBin gAdd (fSl gSl (fVar 1) (fNo) (fPart (fVar 4))) (fVar 5)) (fSl gSl (fVar 1) (fPart (fVar 4)) (fNo)))) (sIf (fIsB (fBin gEq (fVar 6) (fC (.int 1)))) (sSet 1 (fBin gAdd (fBin gAdd (fSl gSl (fVar 1) (fNo) (fPart (fVar 4))) (fVar 5)) (fSl gSl (fVar 1) (fPart (fBin gAdd (fVar 4) (fC (.int 1)))) (fNo)))) (sIf (fIsB (fBin gEq (fVar 6) (fC (.int 2)))) (sSet 1 (fBin gAdd (fSl gSl (fVar 1) (fNo) (fPart (fVar 4))) (fSl gSl (fVar 1) (fPart (fBin gAdd (fVar 4) (fC (.int 1)))) (fNo)))) (sSet 1 (fBin gAdd (fBin gAdd (fSl gSl (fVar 1) (fNo) (fPart (fVar 4))) (fSl gSl (fVar 1) (fPart (fVar 4)) (fPart (fBin gAdd (fVar 4) (fC (.int 1)))))) (fSl gSl (fVar 1) (fPart (fVar 4)) (fNo)))))))))
theorem atI_some {α : Type} {xs : List α} {i : Int} (h0 : 0 ≤ i) (h1 : i < xs.length) : ∃ c, L2.atI xs i = some c := by
  refine ⟨xs[i.toNat]'(by omega), ?_⟩
  unfold L2.atI L2.ixN
  rw [if_pos h0, if_pos h1]
  exact List.getElem?_eq_getElem _
theorem one_len (c : Nat) : (⟨#[c]⟩ : Str).length = 1 := rfl
theorem bent_step {s : S} {b : Nat} {z : Str} {x3 x4 x5 x6 : Option D} (hb : Bag s b) (hz : z.length ≤ 200) :
    ∃ z' y4 y5 y6 s', bentB [some (.loc b), some (.str z), some (.str chB), x3, x4, x5, x6] s = .nx [some (.loc b), some (.str z'), some (.str chB), x3, y4, y5, y6] s' ∧ z'.length ≤ z.length + 1 ∧ Ext b s s' := by
  have hs : z.length ≤ sizeLine := by rw [sl_k]; omega
  have hc : chB.length ≤ sizeLine := by rw [sl_k, chB_len]; omega
  obtain ⟨i, s1, e1, i0, i1, x1⟩ := take_ok hb (m := (z.length : Int) + 1) (by omega) (by
    have := divok_len (n := z.length + 1) (by omega) (by omega)
    exact this)
  obtain ⟨j, s2, e2, j0, j1, x2⟩ := take_ok x1.bag (m := (chB.length : Int)) (by rw [chB_len]; decide) (by rw [chB_len]; decide)
  obtain ⟨c, ec⟩ := atI_some (xs := chB.cps.toList) j0 (by
    have : chB.cps.toList.length = chB.length := by simp [Str.length]
    omega)
  obtain ⟨w, s3, e3, w0, w1, x3'⟩ := take_ok x2.bag (m := 4) (by decide) (by decide)
  have l1 := cut_lo z i0 (by omega)
  have l2 := cut_hi z i0
  have l3 := cut_hi z (i := i + 1) (by omega)
  have l4 := cut_mid z i0
  have lc := one_len c
  have x := x1.trans (x2.trans x3')
  generalize hp1 : L2.cutS z none (some i) = p1 at l1
  generalize hp2 : L2.cutS z (some i) none = p2 at l2
  generalize hp3 : L2.cutS z (some (i + 1)) none = p3 at l3
  generalize hp4 : L2.cutS z (some i) (some (i + 1)) = p4 at l4
  generalize hq : (⟨#[c]⟩ : Str) = q at lc
  have q1 : p1.length + q.length ≤ sizeLine := by rw [sl_k]; omega
  have q2 : (p1 ++ q).length + p2.length ≤ sizeLine := by rw [sl_k, Str.length_append]; omega
  have q3 : (p1 ++ q).length + p3.length ≤ sizeLine := by rw [sl_k, Str.length_append]; omega
  have q4 : p1.length + p3.length ≤ sizeLine := by rw [sl_k]; omega
  have q5 : p1.length + p4.length ≤ sizeLine := by rw [sl_k]; omega
  have q6 : (p1 ++ p4).length + p2.length ≤ sizeLine := by rw [sl_k, Str.length_append]; omega
  have pre : ∀ T : FS, (sSeq (sSet 4 (fCall g__law_take (fCons (fVar 0) (fCons (fBin gAdd (fArgs gLen (fCons (fVar 1) (fNil))) (fC (.int 1))) (fNil))))) (sSeq (sSet 5 (fBin gIx (fVar 2) (fCall g__law_take (fCons (fVar 0) (fCons (fArgs gLen (fCons (fVar 2) (fNil))) (fNil)))))) (sSeq (sSet 6 (fCall g__law_take (fCons (fVar 0) (fCons (fC (.int 4)) (fNil))))) T))) [some (.loc b), some (.str z), some (.str chB), x3, x4, x5, x6] s = T [some (.loc b), some (.str z), some (.str chB), x3, some (.int i), some (.str q), some (.int w)] s3 := fun T => by
    simp [hs, hc, e1, e2, ec, e3, hq]
  refine (?_ : ∃ z' y4 y5 y6 s', (sIf (fIsB (fBin gEq (fVar 6) (fC (.int 0)))) (sSet 1 (fBin gAdd (fBin gAdd (fSl gSl (fVar 1) (fNo) (fPart (fVar 4))) (fVar 5)) (fSl gSl (fVar 1) (fPart (fVar 4)) (fNo)))) (sIf (fIsB (fBin gEq (fVar 6) (fC (.int 1)))) (sSet 1 (fBin gAdd (fBin gAdd (fSl gSl (fVar 1) (fNo) (fPart (fVar 4))) (fVar 5)) (fSl gSl (fVar 1) (fPart (fBin gAdd (fVar 4) (fC (.int 1)))) (fNo)))) (sIf (fIsB (fBin gEq (fVar 6) (fC (.int 2)))) (sSet 1 (fBin gAdd (fSl gSl (fVar 1) (fNo) (fPart (fVar 4))) (fSl gSl (fVar 1) (fPart (fBin gAdd (fVar 4) (fC (.int 1)))) (fNo)))) (sSet 1 (fBin gAdd (fBin gAdd (fSl gSl (fVar 1) (fNo) (fPart (fVar 4))) (fSl gSl (fVar 1) (fPart (fVar 4)) (fPart (fBin gAdd (fVar 4) (fC (.int 1)))))) (fSl gSl (fVar 1) (fPart (fVar 4)) (fNo))))))) [some (.loc b), some (.str z), some (.str chB), x3, some (.int i), some (.str q), some (.int w)] s3 = .nx [some (.loc b), some (.str z'), some (.str chB), x3, y4, y5, y6] s' ∧ z'.length ≤ z.length + 1 ∧ Ext b s s').elim fun z' h => by
    obtain ⟨y4, y5, y6, s', e, h2⟩ := h
    exact ⟨z', y4, y5, y6, s', (pre _).trans e, h2⟩
  by_cases c0 : w = 0
  · subst c0
    refine ⟨p1 ++ q ++ p2, some (.int i), some (.str q), some (.int 0), s3, ?_, by rw [Str.length_append, Str.length_append]; omega, x⟩
    simp [hs, hp1, hp2, q1, q2]
  by_cases c1 : w = 1
  · subst c1
    refine ⟨p1 ++ q ++ p3, some (.int i), some (.str q), some (.int 1), s3, ?_, by rw [Str.length_append, Str.length_append]; omega, x⟩
    simp [hs, hp1, hp3, q1, q3]
  by_cases c2 : w = 2
  · subst c2
    refine ⟨p1 ++ p3, some (.int i), some (.str q), some (.int 2), s3, ?_, by rw [Str.length_append]; omega, x⟩
    simp [hs, hp1, hp3, q4]
  · refine ⟨p1 ++ p4 ++ p2, some (.int i), some (.str q), some (.int w), s3, ?_, by rw [Str.length_append, Str.length_append]; omega, x⟩
    simp [hs, hp1, hp4, hp2, q5, q6, c0, c1, c2]
theorem bent_ok {st : S} {b : Nat} {z : Str} (hb : Bag st b) (hz : z.length ≤ 100) : ∃ d s', g__law_bent [.loc b, .str z] st = .ok d s' ∧ Wd d ∧ Ext b st s' := by
  obtain ⟨n, s1, en, n0, n1, x1⟩ := take_ok hb (m := 3) (by decide) (by decide)
  obtain ⟨k, hk⟩ : ∃ k : Nat, 1 + n = (k : Int) := ⟨(1 + n).toNat, by omega⟩
  obtain ⟨ρ', s2, el, z', y3, y4, y5, y6, e2, l2, h3, x2⟩ := loop_inv (chk := fun _ => true) (t := tgN 3) (body := bentB)
    (I := fun don cs ρ s => ∃ (z' : Str) (y3 y4 y5 y6 : Option D), ρ = [some (.loc b), some (.str z'), some (.str chB), y3, y4, y5, y6] ∧ z'.length ≤ 100 + don.length ∧ don.length + cs.length = k ∧ Ext b s1 s)
    (fun don d cs ρ s ⟨z', y3, y4, y5, y6, e, hl, ht, x⟩ => by
      subst e
      rw [List.length_cons] at ht
      obtain ⟨z2, v4, v5, v6, s', eb, hl2, x'⟩ := bent_step (x3 := some d) (x4 := y4) (x5 := y5) (x6 := y6) x.bag (z := z') (by omega)
      exact ⟨rfl, _, rfl, _, s', .inl eb, z2, some d, v4, v5, v6, rfl, by rw [List.length_append, List.length_singleton]; omega, by rw [List.length_append, List.length_singleton]; omega, x.trans x'⟩)
    (fun _ _ _ _ => rfl) (rangeD 0 k) [] [some (.loc b), some (.str z), some (.str chB), none, none, none, none] s1 ⟨z, none, none, none, none, rfl, by simpa using hz, by rw [rangeD_len]; simp, Ext.refl x1.bag⟩
  refine ⟨.str z', s2, ?_, ⟨z', rfl, ?_⟩, x1.trans x2⟩
  · unfold g__law_bent arN
    rw [if_pos (show [D.loc b, D.str z].length = 2 from rfl), den_ap]
    have e : sForR1 (fCons (fBin gAdd (fC (.int 1)) (fCall g__law_take (fCons (fVar 0) (fCons (fC (.int 3)) (fNil))))) (fNil)) (tgN 3) bentB [some (.loc b), some (.str z), some (.str chB), none, none, none, none] st = .nx ρ' s2 := by
      rw [sForR1_ok (j := (k : Int)) (st1 := s1) (by simp [en, hk]) (small_nat (by omega))]
      exact el
    show ((sSeq (sSet 2 (fC (.str chB))) (sSeq (sForR1 (fCons (fBin gAdd (fC (.int 1)) (fCall g__law_take (fCons (fVar 0) (fCons (fC (.int 3)) (fNil))))) (fNil)) (tgN 3) bentB) (sRet (fVar 1)))) [some (.loc b), some (.str z), none, none, none, none, none] st).out = _
    rw [sSeq_ap]
    show ((sSeq (sForR1 (fCons (fBin gAdd (fC (.int 1)) (fCall g__law_take (fCons (fVar 0) (fCons (fC (.int 3)) (fNil))))) (fNil)) (tgN 3) bentB) (sRet (fVar 1))) [some (.loc b), some (.str z), some (.str chB), none, none, none, none] st).out = _
    rw [sSeq_ap, e, then_nx, e2]
    rfl
  · simp only [List.nil_append, List.length_nil, rangeD_len] at l2
    omega
abbrev chD : Str := "00123456789246/-/-+ "
theorem chD_len : chD.length = 20 := by decide +kernel
noncomputable abbrev drawnB : FS := sSet 2 (fBin gAdd (fVar 2) (fBin gIx (fVar 1) (fCall g__law_take (fCons (fVar 0) (fCons (fArgs gLen (fCons (fVar 1) (fNil))) (fNil))))))
theorem drawn_ok {st : S} {b : Nat} (hb : Bag st b) : ∃ d s', g__law_drawn [.loc b] st = .ok d s' ∧ Wd d ∧ Ext b st s' := by
  have hc : chD.length ≤ sizeLine := by rw [sl_k, chD_len]; omega
  obtain ⟨n, s1, en, n0, n1, x1⟩ := take_ok hb (m := 8) (by decide) (by decide)
  obtain ⟨k, hk⟩ : ∃ k : Nat, n = (k : Int) := ⟨n.toNat, by omega⟩
  obtain ⟨ρ', s2, el, z', y3, e2, l2, h3, x2⟩ := loop_inv (chk := fun _ => true) (t := tgN 3) (body := drawnB)
    (I := fun don cs ρ s => ∃ (z' : Str) (y3 : Option D), ρ = [some (.loc b), some (.str chD), some (.str z'), y3] ∧ z'.length ≤ don.length ∧ don.length + cs.length = k ∧ Ext b s1 s)
    (fun don d cs ρ s ⟨z', y3, e, hl, ht, x⟩ => by
      subst e
      rw [List.length_cons] at ht
      obtain ⟨j, s', ej, j0, j1, x'⟩ := take_ok x.bag (m := (chD.length : Int)) (by rw [chD_len]; decide) (by rw [chD_len]; decide)
      obtain ⟨c, ec⟩ := atI_some (xs := chD.cps.toList) j0 (by
        have : chD.cps.toList.length = chD.length := by simp [Str.length]
        omega)
      have lc := one_len c
      have q1 : z'.length + (⟨#[c]⟩ : Str).length ≤ sizeLine := by rw [sl_k]; omega
      refine ⟨rfl, _, rfl, [some (.loc b), some (.str chD), some (.str (z' ++ ⟨#[c]⟩)), some d], s', .inl ?_, z' ++ ⟨#[c]⟩, some d, rfl, by rw [Str.length_append, List.length_append, List.length_singleton]; omega, by rw [List.length_append, List.length_singleton]; omega, x.trans x'⟩
      generalize hq : (⟨#[c]⟩ : Str) = q at q1 ⊢
      simp [hc, ej, ec, hq, q1])
    (fun _ _ _ _ => rfl) (rangeD 0 k) [] [some (.loc b), some (.str chD), some (.str ("" : Str)), none] s1 ⟨("" : Str), none, rfl, by decide +kernel, by rw [rangeD_len]; simp, Ext.refl x1.bag⟩
  refine ⟨.str z', s2, ?_, ⟨z', rfl, ?_⟩, x1.trans x2⟩
  · unfold g__law_drawn arN
    rw [if_pos (show [D.loc b].length = 1 from rfl), den_ap]
    have e : sForR1 (fCons (fCall g__law_take (fCons (fVar 0) (fCons (fC (.int 8)) (fNil)))) (fNil)) (tgN 3) drawnB [some (.loc b), some (.str chD), some (.str ("" : Str)), none] st = .nx ρ' s2 := by
      rw [sForR1_ok (j := (k : Int)) (st1 := s1) (by simp [en, hk]) (small_nat (by omega))]
      exact el
    show ((sSeq (sSet 1 (fC (.str chD))) (sSeq (sSet 2 (fC (.str ("" : Str)))) (sSeq (sForR1 (fCons (fCall g__law_take (fCons (fVar 0) (fCons (fC (.int 8)) (fNil)))) (fNil)) (tgN 3) drawnB) (sRet (fVar 2))))) [some (.loc b), none, none, none] st).out = _
    rw [sSeq_ap]
    show ((sSeq (sSet 2 (fC (.str ("" : Str)))) (sSeq (sForR1 (fCons (fCall g__law_take (fCons (fVar 0) (fCons (fC (.int 8)) (fNil)))) (fNil)) (tgN 3) drawnB) (sRet (fVar 2)))) [some (.loc b), some (.str chD), none, none] st).out = _
    rw [sSeq_ap]
    show ((sSeq (sForR1 (fCons (fCall g__law_take (fCons (fVar 0) (fCons (fC (.int 8)) (fNil)))) (fNil)) (tgN 3) drawnB) (sRet (fVar 2))) [some (.loc b), some (.str chD), some (.str ("" : Str)), none] st).out = _
    rw [sSeq_ap, e, then_nx, e2]
    rfl
  · simp only [List.nil_append, List.length_nil, rangeD_len] at l2
    omega
end K01

set_option Elab.async false
set_option linter.all false
set_option maxRecDepth 100000
set_option maxHeartbeats 4000000
namespace MP
open PySem
theorem gSl_loc {st : S} {n : Nat} {xs : List D} {lo hi : Option Int} (h : lstAt st n = some xs) : gSl (.loc n) lo hi st = some (.loc st.length, st ++ [.lst (cutD xs lo hi)]) := by
  unfold gSl
  simp only [h]
theorem cut_to {xs : List D} {k : Nat} (h : xs.length ≤ k) : cutD xs none (some (k : Int)) = xs := by
  unfold cutD
  rw [HT.sIx_none, HT.sIx_nat, List.drop_zero, Nat.min_eq_right h, Nat.sub_zero, List.take_length]
theorem ints_map : ∀ ns : List Int, intsD (ns.map D.int) = some ns
  | [] => rfl
  | n :: ns => by
    show (intsD (ns.map D.int)).map (fun is => n :: is) = some (n :: ns)
    rw [ints_map ns]
    rfl
theorem lst_app {st : S} {n : Nat} {xs : List D} (os : List Ob) (h : lstAt st n = some xs) : lstAt (st ++ os) n = some xs := by
  unfold lstAt at h ⊢
  by_cases hn : n < st.length
  · rw [List.getElem?_append_left hn]
    exact h
  · rw [List.getElem?_eq_none (by omega)] at h
    cases h
end MP
namespace K01
open PySem MP
theorem bag_ok (ns : List Int) (hl : ns.length ≤ 63) : ∃ st', g__law_bag [.loc 0] [.fz (ns.map D.int)] = .ok (.loc 2) st' ∧ Bag st' 2 ∧ 2 < st'.length := by
  obtain ⟨s0, h0⟩ : ∃ s : S, s = [.fz (ns.map D.int)] := ⟨_, rfl⟩
  have l0 : lstAt s0 0 = some (ns.map D.int) := by rw [h0]; rfl
  have n0 : s0.length = 1 := by rw [h0]; rfl
  have hc : cutD (ns.map D.int) none (some 63) = ns.map D.int := cut_to (k := 63) (by simpa using hl)
  have g1 := gSl_loc (lo := none) (hi := some 63) l0
  rw [hc, n0] at g1
  obtain ⟨s1, h1⟩ : ∃ s, s = s0 ++ [Ob.lst (ns.map D.int)] := ⟨_, rfl⟩
  rw [← h1] at g1
  have n1 : s1.length = 2 := by rw [h1]; simp [n0]
  have l1 : lstAt s1 1 = some (ns.map D.int) := by rw [h1, ← n0]; exact lstAt_lst app_new
  have g2 : gSum [.loc 1] s1 = some (.int ns.sum, s1) := by
    unfold gSum
    simp only [l1, ints_map, Option.map_some]
  obtain ⟨y, hy⟩ : ∃ y, y = ns.sum % 1000003 := ⟨_, rfl⟩
  obtain ⟨s2, h2⟩ : ∃ s, s = s1 ++ [Ob.lst [.int 0, .int y]] := ⟨_, rfl⟩
  have n2 : s2.length = 3 := by rw [h2]; simp [n1]
  have l02 : lstAt s2 0 = some (ns.map D.int) := by rw [h2, h1]; exact lst_app _ (lst_app _ l0)
  have b2 : s2[2]? = some (.lst [.int 0, .int y]) := by rw [h2, ← n1]; exact app_new
  have g3 := gSl_loc (lo := none) (hi := some 63) l02
  rw [hc, n2] at g3
  obtain ⟨s3, h3⟩ : ∃ s, s = s2 ++ [Ob.lst (ns.map D.int)] := ⟨_, rfl⟩
  rw [← h3] at g3
  have n3 : s3.length = 4 := by rw [h3]; simp [n2]
  have l3 : s3[3]? = some (.lst (ns.map D.int)) := by rw [h3, ← n2]; exact app_new
  have b3 : s3[2]? = some (.lst [.int 0, .int y]) := by rw [h3]; exact app_old b2
  have lk : ∀ o, lstAt (s3.set 2 o) 3 = some (ns.map D.int) := fun o => lstAt_lst (by rw [set_ne (by decide)]; exact l3)
  obtain ⟨ρ', st', e1, x, r, e2, e3, e4, e5⟩ := loop_inv (chk := fun s => decide (lstAt s 3 = some (ns.map D.int))) (t := tgN 2)
    (body := sIf (fIsB (fBin gGe (fArgs gAbs (fCons (fArgs gIntS (fCons (fVar 2) (fNil))) (fNil))) (fBin gPow (fC (.int 10)) (fC (.int 18))))) (sExpr (fLM gAppend (fVar 1) (fCons (fArgs gAbs (fCons (fArgs gIntS (fCons (fVar 2) (fNil))) (fNil))) (fNil)))) (sExpr (fLM gAppend (fVar 1) (fCons (fBin gSub (fUn gNeg (fC (.int 1))) (fArgs gAbs (fCons (fArgs gIntS (fCons (fVar 2) (fNil))) (fNil)))) (fNil)))))
    (I := fun don cs ρ s => ∃ (x : Option D) (r : List Int), ρ = [some (.loc 0), some (.loc 2), x] ∧ s = s3.set 2 (.lst (.int 0 :: .int y :: r.map D.int)) ∧ r.length = don.length ∧ don ++ cs = ns.map D.int)
    (fun don d cs ρ s ⟨x, r, e, es, hr, h⟩ => by
      rw [e, es]
      have hd : d ∈ ns.map D.int := by rw [← h]; simp
      obtain ⟨i, hi, ei⟩ := List.mem_map.mp hd
      subst ei
      have hlen := congrArg List.length h
      simp only [List.length_append, List.length_cons, List.length_map] at hlen
      have bb : (s3.set 2 (.lst (.int 0 :: .int y :: r.map D.int)))[2]? = some (.lst (.int 0 :: .int y :: r.map D.int)) := set_at (by omega)
      have lb := lstAt_lst bb
      have sz : (D.int 0 :: D.int y :: r.map D.int).length < sizeLine := small_len (by simp only [List.length_cons, List.length_map]; omega)
      have ap : ∀ v : Int, gAppend (.loc 2) [.int v] (s3.set 2 (.lst (.int 0 :: .int y :: r.map D.int))) = some (.non, s3.set 2 (.lst (.int 0 :: .int y :: (r ++ [v]).map D.int))) := fun v => by
        rw [gAppend_loc bb sz, List.set_set, List.map_append]
        rfl
      refine ⟨decide_eq_true (lk _), _, rfl, ?_⟩
      by_cases c : (1000000000000000000 : Int) ≤ absI i
      · refine ⟨[some (.loc 0), some (.loc 2), some (.int i)], s3.set 2 (.lst (.int 0 :: .int y :: (r ++ [absI i]).map D.int)), .inl ?_, some (.int i), r ++ [absI i], rfl, rfl, by simp [hr], by rw [List.append_assoc]; exact h⟩
        simp [c, lb, ap]
      · refine ⟨[some (.loc 0), some (.loc 2), some (.int i)], s3.set 2 (.lst (.int 0 :: .int y :: (r ++ [-1 - absI i]).map D.int)), .inl ?_, some (.int i), r ++ [-1 - absI i], rfl, rfl, by simp [hr], by rw [List.append_assoc]; exact h⟩
        simp [c, lb, ap])
    (fun don ρ s ⟨x, r, e, es, hr, h⟩ => by rw [es]; exact decide_eq_true (lk _)) (ns.map D.int) [] [some (.loc 0), some (.loc 2), none] s3
    ⟨none, [], rfl, by
      refine List.ext_getElem? fun k => ?_
      by_cases hk : k = 2
      · subst hk
        rw [b3, set_at (by omega)]
        rfl
      · rw [set_ne hk], rfl, rfl⟩
  refine ⟨st', ?_, ⟨0, y, r, by rw [e3]; exact set_at (by omega)⟩, by rw [e3, List.length_set]; omega⟩
  unfold g__law_bag arN
  rw [if_pos (show [D.loc 0].length = 1 from rfl), den_ap, ← h0]
  show ((sSeq (sSet 1 (fLst _)) (sSeq (sFor _ (tgN 2) _) (sRet (fVar 1)))) [some (.loc 0), none, none] s0).out = _
  have f1 : sSet 1 (fLst (fCons (fC (.int 0)) (fCons (fBin gMod (fArgs gIntS (fCons (fArgs gSum (fCons (fSl gSl (fVar 0) (fNo) (fPart (fC (.int 63)))) (fNil))) (fNil))) (fC (.int 1000003))) (fNil)))) [some (.loc 0), none, none] s0 = .nx [some (.loc 0), some (.loc 2), none] s2 := by
    rw [h2, ← n1, hy]
    simp [g1, g2]
  rw [sSeq_ap, f1, then_nx, sSeq_ap]
  have f2 : fSl gSl (fVar 0) (fNo) (fPart (fC (.int 63))) [some (.loc 0), some (.loc 2), none] s2 = .ok (.loc 3) s3 := by simp [g3]
  rw [sFor_loc (n := 3) (st1 := s3) (ds := ns.map D.int) f2 (lstAt_lst l3), e1, e2, then_nx]
  rfl
end K01

set_option Elab.async false
set_option linter.all false
set_option maxRecDepth 100000
set_option maxHeartbeats 4000000
namespace K01
open PySem MP
noncomputable abbrev mainB : FS := sSeq (sSet 5 (fBin gAdd (fC (.int 2)) (fCall g__law_take (fCons (fVar 1) (fCons (fC (.int 8)) (fNil)))))) (sSeq (sIf (fIsB (fBin gEq (fCall g__law_take (fCons (fVar 1) (fCons (fC (.int 2)) (fNil)))) (fC (.int 1)))) (sSet 5 (fBin gAdd (fC (.int 2)) (fCall g__law_take (fCons (fVar 1) (fCons (fC (.int 100000000)) (fNil)))))) (sSkip)) (sIf (fNot (fTru (fCall g__law_number_right (fCons (fVar 2) (fCons (fVar 5) (fNil)))))) (sRet (fC (.bl false))) (sSkip)))
noncomputable abbrev textB : FS := sSeq (sSet 4 (fCall g__law_written (fCons (fCall g__law_little (fCons (fVar 1) (fNil))) (fNil)))) (sSeq (sIf (fOr (fNot (fTru (fCall g__law_text_right (fCons (fVar 4) (fNil))))) (fNot (fTru (fCall g__law_text_right (fCons (fCall g__law_bent (fCons (fVar 1) (fCons (fVar 4) (fNil)))) (fNil)))))) (sRet (fC (.bl false))) (sSkip)) (sIf (fNot (fTru (fCall g__law_text_right (fCons (fCall g__law_drawn (fCons (fVar 1) (fNil))) (fNil))))) (sRet (fC (.bl false))) (sSkip)))
noncomputable abbrev wordB : FS := sIf (fNot (fTru (fCall g__law_text_right (fCons (fVar 4) (fNil))))) (sRet (fC (.bl false))) (sSkip)
theorem main_loop {s0 : S} {rw : Nat} {ds : List D} (hb : Bag s0 2) (hr : Row s0 rw ds) (hn : rw ≠ 2) :
    ∃ x2 x5 s1, sLoop (fun s => decide (lstAt s rw = some ds)) (tgN 2) mainB ds [some (.loc 0), some (.loc 2), none, none, none, none] s0 = .nx [some (.loc 0), some (.loc 2), x2, none, none, x5] s1 ∧ Ext 2 s0 s1 := by
  obtain ⟨ρ', st', e1, x2, x5, e2, e3, e4⟩ := loop_inv (chk := fun s => decide (lstAt s rw = some ds)) (t := tgN 2) (body := mainB)
    (I := fun don cs ρ s => ∃ x2 x5 : Option D, ρ = [some (.loc 0), some (.loc 2), x2, none, none, x5] ∧ Ext 2 s0 s ∧ don ++ cs = ds)
    (fun don d cs ρ s ⟨x2, x5, e, x, h⟩ => by
      subst e
      have hd : Nm d := hr.nm d (by rw [← h]; simp)
      obtain ⟨p, q, rfl, N⟩ := hd
      have lr := lstAt_lst (x.at_ hn hr.at_)
      obtain ⟨u, s1, eu, u0, u1, x1⟩ := take_ok x.bag (m := 8) (by decide) (by decide)
      obtain ⟨t, s2, et, t0, t1, x2'⟩ := take_ok x1.bag (m := 2) (by decide) (by decide)
      by_cases ht : t = 1
      · obtain ⟨v, s3, ev, v0, v1, x3⟩ := take_ok x2'.bag (m := 100000000) (by decide) (by decide)
        obtain ⟨os, en⟩ := number_right_ok N (f := 2 + v) (by omega) (by omega) s3
        refine ⟨decide_eq_true lr, _, rfl, [some (.loc 0), some (.loc 2), some (fr p q), none, none, some (.int (2 + v))], s3 ++ os, .inl ?_, some (fr p q), some (.int (2 + v)), rfl, (x.trans (x1.trans (x2'.trans x3))).apps os, by rw [List.append_assoc]; exact h⟩
        subst ht
        simp [eu, et, ev, en]
      · obtain ⟨os, en⟩ := number_right_ok N (f := 2 + u) (by omega) (by omega) s2
        refine ⟨decide_eq_true lr, _, rfl, [some (.loc 0), some (.loc 2), some (fr p q), none, none, some (.int (2 + u))], s2 ++ os, .inl ?_, some (fr p q), some (.int (2 + u)), rfl, (x.trans (x1.trans x2')).apps os, by rw [List.append_assoc]; exact h⟩
        simp [eu, et, ht, en])
    (fun don ρ s ⟨x2, x5, e, x, h⟩ => decide_eq_true (lstAt_lst (x.at_ hn hr.at_))) ds [] [some (.loc 0), some (.loc 2), none, none, none, none] s0 ⟨none, none, rfl, Ext.refl hb, rfl⟩
  exact ⟨x2, x5, st', by rw [e1, e2], e3⟩
theorem text_loop {s0 : S} {x2 x5 : Option D} (hb : Bag s0 2) (hbl : 2 < s0.length) :
    ∃ x3 x4 s1, sForR1 (fCons (fBin gAdd (fC (.int 2)) (fCall g__law_take (fCons (fVar 1) (fCons (fC (.int 5)) (fNil))))) (fNil)) (tgN 3) textB [some (.loc 0), some (.loc 2), x2, none, none, x5] s0 = .nx [some (.loc 0), some (.loc 2), x2, x3, x4, x5] s1 ∧ Ext 2 s0 s1 := by
  obtain ⟨n, s1, en, n0, n1, x1⟩ := take_ok hb (m := 5) (by decide) (by decide)
  obtain ⟨k, hk⟩ : ∃ k : Nat, 2 + n = (k : Int) := ⟨(2 + n).toNat, by omega⟩
  obtain ⟨ρ', s2, el, x3, x4, e2, x2'⟩ := loop_inv (chk := fun _ => true) (t := tgN 3) (body := textB)
    (I := fun don cs ρ s => ∃ x3 x4 : Option D, ρ = [some (.loc 0), some (.loc 2), x2, x3, x4, x5] ∧ Ext 2 s1 s)
    (fun don d cs ρ s ⟨x3, x4, e, x⟩ => by
      subst e
      obtain ⟨a, s3, ea, ⟨p, q, rfl, hq, hr, ⟨t1, t2⟩, hq2⟩, x3'⟩ := little_ok x.bag (Nat.lt_of_lt_of_le hbl (Nat.le_trans x1.len x.len))
      have np : p.natAbs < 10 ^ 40 := by omega
      have nq : q.natAbs < 10 ^ 40 := by omega
      have ew := written_ok np nq hq s3
      have lw := wl_len np nq
      obtain ⟨os, er⟩ := text_right_ok (wl p q) (by omega) s3
      obtain ⟨d2, s4, eb, hw, x4'⟩ := bent_ok (st := s3 ++ os) (x3'.apps os).bag (z := tx (wl p q)) (by rw [tx_len]; omega)
      obtain ⟨os2, er2⟩ := hw.right s4
      obtain ⟨d3, s5, ed, hw3, x5'⟩ := drawn_ok (st := s4 ++ os2) (x4'.apps os2).bag
      obtain ⟨os3, er3⟩ := hw3.right s5
      refine ⟨rfl, _, rfl, [some (.loc 0), some (.loc 2), x2, some d, some (sd (wl p q)), x5], s5 ++ os3, .inl ?_, some d, some (sd (wl p q)), rfl, x.trans ((x3'.apps os).trans ((x4'.apps os2).trans (x5'.apps os3)))⟩
      simp [ea, ew, er, eb, er2, ed, er3])
    (fun _ _ _ _ => rfl) (rangeD 0 k) [] [some (.loc 0), some (.loc 2), x2, none, none, x5] s1 ⟨none, none, rfl, Ext.refl x1.bag⟩
  refine ⟨x3, x4, s2, ?_, x1.trans x2'⟩
  rw [sForR1_ok (j := (k : Int)) (st1 := s1) (by simp [en, hk]) (small_nat (by omega)), el, e2]
abbrev wds : List D := [.str ("0" : Str), .str ("1" : Str), .str ("-1" : Str), .str ("10" : Str), .str ("1/2" : Str), .str ("-1/2" : Str), .str ("10/3" : Str), .str ("100/9" : Str), .str ("-7/10" : Str), .str ("0/1" : Str), .str ("01" : Str), .str ("1/10/3" : Str)]
theorem wds_ok : ∀ d ∈ wds, Wd d := by
  intro d hd
  simp only [wds, List.mem_cons, List.not_mem_nil, or_false] at hd
  rcases hd with h | h | h | h | h | h | h | h | h | h | h | h <;> exact ⟨_, h, by decide +kernel⟩
theorem word_loop {s0 : S} {k : Nat} {x2 x3 x4 x5 : Option D} (hk : s0[k]? = some (.lst wds)) :
    ∃ x4' os, sLoop (fun s => decide (lstAt s k = some wds)) (tgN 4) wordB wds [some (.loc 0), some (.loc 2), x2, x3, x4, x5] s0 = .nx [some (.loc 0), some (.loc 2), x2, x3, x4', x5] (s0 ++ os) := by
  obtain ⟨ρ', st', e1, x, os, e2, e3, e4⟩ := loop_inv (chk := fun s => decide (lstAt s k = some wds)) (t := tgN 4) (body := wordB)
    (I := fun don cs ρ s => ∃ (x : Option D) (os : List Ob), ρ = [some (.loc 0), some (.loc 2), x2, x3, x, x5] ∧ s = s0 ++ os ∧ don ++ cs = wds)
    (fun don d cs ρ s ⟨x, os, e, h, ht⟩ => by
      subst e h
      obtain ⟨os2, e5⟩ := (wds_ok d (by rw [← ht]; simp)).right (s0 ++ os)
      refine ⟨decide_eq_true (lstAt_lst (app_at hk os)), _, rfl, [some (.loc 0), some (.loc 2), x2, x3, some d, x5], s0 ++ os ++ os2, .inl ?_, some d, os ++ os2, rfl, List.append_assoc _ _ _, by rw [List.append_assoc]; exact ht⟩
      show wordB [some (.loc 0), some (.loc 2), x2, x3, some d, x5] (s0 ++ os) = _
      simp only [wordB, sIf_ap, fNot_ap, fTru_ap, fCall_ap, fCons_ap, fVar_ap, List.getElem?_cons_succ, List.getElem?_cons_zero, Out.bind_ok, fNil_ap, e5, truD_bl, Out.so_ok, Bool.not_true, Bool.false_eq_true, if_false, sSkip_ap])
    (fun don ρ s ⟨x, os, e, h, ht⟩ => by rw [h]; exact decide_eq_true (lstAt_lst (app_at hk os))) wds [] [some (.loc 0), some (.loc 2), x2, x3, x4, x5] s0 ⟨x4, [], rfl, (List.append_nil _).symm, rfl⟩
  exact ⟨x, os, by rw [e1, e2, e3]⟩
theorem m_lw : m_law = sSeq (sSet 1 (fCall g__law_bag (fCons (fVar 0) (fNil)))) (sSeq (sFor (fCall g__law_numbers (fCons (fVar 1) (fCons (fBin gAdd (fC (.int 1)) (fCall g__law_take (fCons (fVar 1) (fCons (fC (.int 4)) (fNil))))) (fNil)))) (tgN 2) mainB) (sSeq (sForR1 (fCons (fBin gAdd (fC (.int 2)) (fCall g__law_take (fCons (fVar 1) (fCons (fC (.int 5)) (fNil))))) (fNil)) (tgN 3) textB) (sSeq (sFor (fLst (fCons (fC (.str ("0" : Str))) (fCons (fC (.str ("1" : Str))) (fCons (fC (.str ("-1" : Str))) (fCons (fC (.str ("10" : Str))) (fCons (fC (.str ("1/2" : Str))) (fCons (fC (.str ("-1/2" : Str))) (fCons (fC (.str ("10/3" : Str))) (fCons (fC (.str ("100/9" : Str))) (fCons (fC (.str ("-7/10" : Str))) (fCons (fC (.str ("0/1" : Str))) (fCons (fC (.str ("01" : Str))) (fCons (fC (.str ("1/10/3" : Str))) (fNil)))))))))))))) (tgN 4) wordB) (sRet (fCall g__law_refused_by_base (fCons (fC (.str ("" : Str))) (fNil))))))) := rfl
theorem law_end {st st' : S} {f : FS} {a d : D} (h : f [some a, none, none, none, none, none] st = .rt d st') : arN 1 (den 6 f) [a] st = .ok d st' := by
  unfold arN
  rw [if_pos (show [a].length = 1 from rfl)]
  exact den_rt h
theorem law_true (ns : List Int) (hl : ns.length ≤ 63) : ∃ st', arN 1 (den 6 m_law) [.loc 0] [.fz (ns.map D.int)] = .ok (.bl true) st' := by
  obtain ⟨s1, e1, b1, n1⟩ := bag_ok ns hl
  obtain ⟨r, s2, e2, r0, r1, x2⟩ := take_ok b1 (m := 4) (by decide) (by decide)
  obtain ⟨k, hk⟩ : ∃ k : Nat, 1 + r = (k : Int) := ⟨(1 + r).toNat, by omega⟩
  have n2 : 2 < s2.length := Nat.lt_of_lt_of_le n1 x2.len
  obtain ⟨rw, ds, s3, e3, hr, hn, hd, x3⟩ := numbers_ok x2.bag n2 (n := k) (by omega)
  rw [← hk] at e3
  have n3 : 2 < s3.length := Nat.lt_of_lt_of_le n2 x3.len
  obtain ⟨y2, y5, s4, e4, x4⟩ := main_loop x3.bag hr hn
  have n4 : 2 < s4.length := Nat.lt_of_lt_of_le n3 x4.len
  obtain ⟨y3, y4, s5, e5, x5⟩ := text_loop (x2 := y2) (x5 := y5) x4.bag n4
  obtain ⟨y4', os, e6⟩ := word_loop (s0 := s5 ++ [.lst wds]) (k := s5.length) (x2 := y2) (x3 := y3) (x4 := y4) (x5 := y5) app_new
  obtain ⟨os2, e7⟩ := refused_by_base_ok [] (by simp) rdl_nil (s5 ++ [.lst wds] ++ os)
  have f1 : (sSet 1 (fCall g__law_bag (fCons (fVar 0) (fNil)))) [some (.loc 0), none, none, none, none, none] [.fz (ns.map D.int)] = .nx [some (.loc 0), some (.loc 2), none, none, none, none] s1 := by simp [e1]
  have f2 : (sFor (fCall g__law_numbers (fCons (fVar 1) (fCons (fBin gAdd (fC (.int 1)) (fCall g__law_take (fCons (fVar 1) (fCons (fC (.int 4)) (fNil))))) (fNil)))) (tgN 2) mainB) [some (.loc 0), some (.loc 2), none, none, none, none] s1 = .nx [some (.loc 0), some (.loc 2), y2, none, none, y5] s4 := by
    rw [sFor_loc (n := rw) (st1 := s3) (ds := ds) (by simp [e2, e3]) (lstAt_lst hr.at_), e4]
  have f4 : (sFor (fLst (fCons (fC (.str ("0" : Str))) (fCons (fC (.str ("1" : Str))) (fCons (fC (.str ("-1" : Str))) (fCons (fC (.str ("10" : Str))) (fCons (fC (.str ("1/2" : Str))) (fCons (fC (.str ("-1/2" : Str))) (fCons (fC (.str ("10/3" : Str))) (fCons (fC (.str ("100/9" : Str))) (fCons (fC (.str ("-7/10" : Str))) (fCons (fC (.str ("0/1" : Str))) (fCons (fC (.str ("01" : Str))) (fCons (fC (.str ("1/10/3" : Str))) (fNil)))))))))))))) (tgN 4) wordB) [some (.loc 0), some (.loc 2), y2, y3, y4, y5] s5 = .nx [some (.loc 0), some (.loc 2), y2, y3, y4', y5] (s5 ++ [.lst wds] ++ os) := by
    rw [sFor_loc (n := s5.length) (st1 := s5 ++ [.lst wds]) (ds := wds) rfl (lstAt_lst app_new), e6]
  have f5 : (sRet (fCall g__law_refused_by_base (fCons (fC (.str ("" : Str))) (fNil)))) [some (.loc 0), some (.loc 2), y2, y3, y4', y5] (s5 ++ [.lst wds] ++ os) = .rt (.bl true) (s5 ++ [.lst wds] ++ os ++ os2) := by
    rw [show ("" : Str) = tx [] from e_empty]
    simp only [sRet_ap, fCall_ap, fCons_ap, fC_ap, Out.bind_ok, fNil_ap, e7, Out.so_ok]
  refine ⟨_, law_end (?_ : m_law [some (.loc 0), none, none, none, none, none] [.fz (ns.map D.int)] = .rt (.bl true) (s5 ++ [.lst wds] ++ os ++ os2))⟩
  rw [m_lw, sSeq_ap, f1, then_nx, sSeq_ap, f2, then_nx, sSeq_ap, e5, then_nx, sSeq_ap, f4, then_nx, f5]
end K01

set_option Elab.async false
set_option linter.all false
set_option maxRecDepth 100000
set_option maxHeartbeats 0
open PySem PySem.W PySem.Calls PyProof.Rows
theorem PySem.Challenge.cw_pagefit_k01_number_texts_holds : PySem.Challenge.rw_pagefit_k01_number_texts.Holds := by
  w_on; o_law
  refine HandSHeadRun.head_imp (r := OpenLaw.row PySem.Challenge.rw_pagefit_k01_number_texts) (q := view (OpenLaw.row PySem.Challenge.rw_pagefit_k01_number_texts).prog [0, 38]) (H := K01.hk) (ob := K01.ob) (M := 6000) (loose := K01.loose) (d := HandSHeadRun.topDef (OpenLaw.row PySem.Challenge.rw_pagefit_k01_number_texts).prog 38) (kwd := []) K01.ob_eq
    K01.run (by kernel_rfl) (by kernel_rfl) (by kernel_rfl) (by rfl) (by first | assumption | decide +kernel) (by decide +kernel) ⟨rfl, rfl, rfl, rfl, rfl, by decide +kernel⟩ ?hw ?hc
  case hw => w_witness2
  case hc =>
    refine MP.walk_ofM (l := PySem.Challenge.rw_pagefit_k01_number_texts) (n := 63) (k := 7) (x := "script") rfl (by decide) (by kernel_rfl) ⟨rfl, by decide, by decide⟩ ?F
    intro w mg fa h Y Gm hmg0
    obtain ⟨K, KX, c⟩ := Y
    have hmg : mg ("law" : PySem.Str) = some (.ref fa) := by
      have e : (HandSHeadRun.topDef (OpenLaw.row PySem.Challenge.rw_pagefit_k01_number_texts).prog 38).name = ("law" : PySem.Str) := by kernel_rfl
      rw [← e]
      exact hmg0
    obtain ⟨fd, hb, hF⟩ := K01.law_fn (w := w) KX Gm hmg c
    exact ⟨K, fd, _, KX, hb, fun H a ns hl hO hS => MP.sp_law 63 K01.law_true H a ns hl hO hS, hF⟩

